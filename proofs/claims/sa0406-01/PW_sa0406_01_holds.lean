import PyProof.Rows.All
import Wide.All
import OpenK.AllK
import Wide.FinOn
import PyProof.Rows.KernelRfl
import Lean
import PySem.Challenge.RW_sa0406_01
open List renaming mem_singleton→aad,mem_append_left→aap,length_append→aaA,mem_append_right→aaJ,length_cons→aaK,append_assoc→aaW,length_map→aaY,eq_nil_of_length_eq_zero→aaZ,mem_cons→aa2,mem_append→aa7,getElem?_eq_getElem→aa8,getElem?_eq_some_iff→aa9,length_singleton→abf,prefix_refl→abg,mem_map→abi,perm_middle→abj,getElem?_append_right→abE,append_nil→abF,suffix_cons→abT,nodup_cons→abU,prefix_append→abY,map_cons→ab6,sublist_append_right→ab7,suffix_refl→acf,set_cons_zero→acg,set_cons_succ→acq,nodup_append→acL,isEmpty_cons→acP,pairwise_singleton→acS,isEmpty_nil→acY,mem_filter→acZ,ctorIdx→ac2,getElem?_append_left→ac3,count_append→ac4,length_range'→ac5,length_filter_le→ada,getElem?_map→adf,map_append→adi,length_set→adj,sublist_append_left→adn,lookup_cons→adA,all_eq_true→adM,flatMap_cons→adQ,range'→adR,pairwise_cons→adZ,exists_mem_of_ne_nil→ad7,mem_of_getElem?→aea,sum_cons→aec,mem_flatMap→aen,sublist_cons_self→aev,length_nil→aez,any_cons→aeL,getElem?_set_ne→aeN,mem_reverse→aeU,mem_map_of_mem→ae4,zipWith→ae9,range→afa,sum_append→afc,all_cons→afd,getElem?_set_self→afi,perm_append_comm→afp,not_mem_nil→afs,filter_cons→aft,cons_append→afu,perm_append_comm_assoc→afA,nil_append→afB,forIn_cons→afC,nodup_iff_pairwise_ne→afF,findIdx?_cons→afG,drop_eq_getElem_cons→afK,pairwise_map→afO,isEmpty_iff→afS,any_eq_true→afT,perm_iff_count→af2,map_eq_nil_iff→af3,length→af4,filterMap_cons→af5,zip_cons_cons→aga,sum_singleton→agb,ne_nil_of_mem→agc,map_singleton→agd,cons_eq_cons→agh,take_append_of_le_length→agm,getElem_mem→agn,drop_length→ago,perm_ext_iff_of_nodup→agB,mem_range→agE,length_eq_zero_iff→agI,head_eq_of_cons_eq→agJ,take_of_length_le→agS,range_succ_eq_map→agT,set_append_right→agX,map_nil→agY,findIdx?_toArray→agZ,dropLast_eq_take→ag0,all_map→ag1,mem_iff_getElem→ag7,map_congr_left→ahe,length_reverse→ahf
open PySem renaming wpAny_bind→aat,wpAny_pure→aa1,wpAny_mono→abr,wpAny_holding→abK,Comprehension→acI,wpAny_standAt→acU,NameKind→ac0,DictEntry→ac1,mainGlobals→adk,Builtin→adx,wpAny_call_entry→adP,wpAny_truthy_bool→aed,sysModules→aef,codeAny→aeh,wpAny_assign_Name→aeP,callEnvC→aeQ,starEach→afb,sizeLine_eq→afe,swappedStores→afl,importedModules→afm,compareOp→afy,Program→afR,wpAny_dictEntries→afW,wpAny_specialOf→af6,codeAny_of_tree→af7,codeAny_mono→af8,bootBuiltins→af9,holding→agj,OsState→agk,wpAny_release→agp,Operator→agq,wpAny_rule→agu,wpAny_pyIter_list→agv,slot_dict_getitem→agw,getMethod_builtin→agx,wpAny_isInstance→agH,wpAny_of_eq→agN,wpAny_execs_nil→agO,theTreesLotGoes→agP,standAt→agQ
open Nat renaming le_refl→aaX,not_succ_le_self→aa3,le_trans→aa4,eq_of_beq_eq_true→abX,le_add_right→acR,le_of_ble_eq_true→acT,zero_le→acV,le_add_right_of_le→acX,lt_of_le_of_lt→ac6,le_succ→adb,sub_self→ads,le_sub_one_of_lt→adz,le_of_eq→adT,le_add_left→adV,add_le_add_left→adW,zero_add→ad4,ble_eq_true_of_le→ad6,beq→ael,not_lt→aep,lt_irrefl→aeM,not_lt_zero→aff,lt_of_lt_of_le→afg,ble→afh,ne_of_beq_eq_false→afk,one_mul→afn,ne_of_lt→afr,succ_le_succ→afw,sub_add_cancel→afJ,mul_le_mul→afM,le_succ_of_le→afP,le_of_succ_le→afQ,sub_lt_sub_right→afZ,add_sub_cancel→agf,add_assoc→agg,max_zero→agl,lt_succ_self→agr,le_max_left→agy,le_antisymm→agz,add_mul→agA,le_mul_of_pos_right→agR,le_of_succ_le_succ→agW,le_of_lt→ag5,add_comm→ag6,not_succ_le_zero→aha,mul_le_mul_right→ahb,blt→ahk
open Option.some renaming inj→aa0,injEq→ae8
open PySem.Heap renaming get?_push_of_some→aa5,get?_push_size→abP,SameBut→adO,lt_size→ad0,get?_update_self→afq,ExtBut→afD,size_push→af0
open PySem.Value renaming ctorIdx→aa6,bool→agD,notImplemented→agV
open Bool renaming and_eq_true_iff→abL,false_ne_true→abS,eq_iff_iff→acr,not_eq_true'→acQ,not_false→adc,and_eq_true→ade,not_true→adg,eq_false_iff→ado,or_eq_true→aeE,not_eq_true→afU,or_eq_false_iff→afY,true_and→age,and_false→agF,beq_comm→agK,and_true→agL,and_eq_false_iff→ag2,or_eq_true_iff→ahg,false_eq_true→ahm
open Option renaming eq_none_iff_forall_ne_some→abQ,isSome_iff_exists→acW,bind_some→ac7,bind_eq_some_iff→aeb,map_eq_some_iff→aem,isNone_iff_eq_none→afE,isSome_none→ag4
open Array renaming getElem?_toList→ac8,toList_push→afj,eq_empty_of_size_eq_zero→afo,getElem?_eq_getElem→afI,getElem?_eq_none→afV,mem_toList_iff→afX,length_toList→af1,getElem?_eq_some_iff→agt,eraseIdxIfInBounds→agG,toList_eraseIdx→agU,toList_modify→ag9,forIn_toList→ahh
open PySem.Around renaming in1_units→ac9,mark_none→agi
open PySem.Heap.SameBut renaming update→adh
open Int renaming reduceBNe→adl,reduceBEq→adm,natCast_nonneg→aey,ofNat→aeJ,natCast_inj→aeK,ofNat_eq_natCast→afx,le_of_lt→ag8
open PySem.Value.ref renaming inj→ad9
open List.Subset renaming refl→aeC
open Nat.succ renaming inj→aeO
open List.cons renaming injEq→ae3,inj→afH
open Prod.mk renaming inj→afv
open List.Perm renaming cons→afz
open List.Pairwise renaming filter→afN,map→agC
open PySem.Heap.IsSliceOf renaming new→ags
open PySem.Value.type renaming inj→ag3
open PySem.Value.str renaming inj→ahi
open PySem.Value.int renaming inj→ahj
open Int.ofNat renaming inj→ahl
set_option maxRecDepth 100000
set_option Elab.async false
set_option linter.all false
set_option genInjectivity false
set_option genSizeOf false
set_option genInjectivity true
namespace Mine
open PySem
noncomputable section
noncomputable def TS:List Nat→List Nat→Bool
 | [],[]=>true
 | a::r,b::t=>match ael a b with
  | true=>TS r t
  | false=>false
 | [],_::_=>false
 | _::_,[]=>false
noncomputable def qM(a b:Str):Bool:=TS a.cps.toList b.cps.toList
noncomputable def look{α:Type}(x:Str):List (Str×α)→Option α
 | []=>none
 | p::r=>match qM x p.1 with
  | true=>some p.2
  | false=>look x r
noncomputable def idx{α:Type}(x:Str):List (Str×α)→Nat
 | []=>0
 | p::r=>match qM x p.1 with
  | true=>0
  | false=>idx x r+1
noncomputable def isIn(x:Str):List Str→Bool
 | []=>false
 | y::r=>match qM x y with
  | true=>true
  | false=>isIn x r
inductive PV where
 | none
 | bool (b:Bool)
 | int (i:Int)
 | str (s:Str)
 | tup (l:List PV)
 | ref (id:Nat)
inductive CO where
 | list (l:List PV)
 | dict (l:List (PV×PV))
 | inst (c:Str) (fs:List (Str×PV))
noncomputable abbrev CH:=List CO
noncomputable abbrev CM(α:Type):=CH→Option (α×CH)
noncomputable abbrev bg:=List (Option PV)
noncomputable def ret{α:Type}(a:α):CM α:=fun H=>some (a,H)
noncomputable def bc{α:Type}:CM α:=fun zz=>none
noncomputable def aa{α β:Type}(m:CM α)(f:α→CM β):CM β:=fun H=>match m H with
 | some p=>f p.1 p.2
 | none=>none
noncomputable def get(i:Nat):CM CO:=fun H=>match H[i]? with
 | some o=>some (o,H)
 | none=>none
noncomputable def put(i:Nat)(o:CO):CM Unit:=fun H=>match i with
 | 0=>none
 | 1=>none
 | _+2=>some ((),H.set i o)
noncomputable def new(o:CO):CM PV:=fun H=>some (.ref H.length,H++[o])
noncomputable def LU{α:Type}:Option α→CM α
 | some a=>ret a
 | none=>bc
noncomputable def af{α:Type}(b:Bool)(x y:CM α):CM α:=match b with
 | true=>x
 | false=>y
noncomputable def rI:Nat→PV→Bool
 | _,.int _=>true
 | _,.str _=>true
 | n+1,.tup l=>l.all (rI n)
 | _,_=>false
noncomputable def fN(p:PV):Bool:=rI 6 p
mutual
noncomputable def gw:PV→PV→Bool
 | .int a,.int b=>a == b
 | .str a,.str b=>a == b
 | .tup a,.tup b=>qe a b
 | _,_=>false
noncomputable def qe:List PV→List PV→Bool
 | [],[]=>true
 | a::r,b::t=>gw a b&&qe r t
 | _,_=>false
end
noncomputable def ib:List PV→Option (List Int)
 | []=>some []
 | .int i::r=>match ib r with
  | some l=>some (i::l)
  | none=>none
 | _::_=>none
noncomputable def Bt(a b:List PV):Option Bool:=match ib a with
 | some x=>(match ib b with
  | some y=>some (x == y)
  | none=>none)
 | none=>none
noncomputable def UP(a b:List PV):Option Bool:=match a with
 | []=>(match b with
  | []=>none
  | _::_=>some false)
 | _::_=>(match b with
  | []=>some false
  | _::_=>none)
noncomputable def ZZ(a b:List PV):Option Bool:=match Bt a b with
 | some c=>some c
 | none=>UP a b
noncomputable def Zx(o q:CO):Option Bool:=match o with
 | .list a=>(match q with
  | .list b=>ZZ a b
  | _=>none)
 | .dict a=>(match a with
  | []=>(match q with
   | .dict b=>(match b with
    | []=>some true
    | _::_=>none)
   | _=>none)
  | _::_=>none)
 | .inst _ _=>none
noncomputable def Nk(H:CH)(i j:Nat):Option Bool:=match ael i j with
 | true=>none
 | false=>(match H[i]? with
  | some o=>(match H[j]? with
   | some q=>Zx o q
   | none=>none)
  | none=>none)
noncomputable def Uq(a b:PV):Option Bool:=match fN a with
 | true=>(match fN b with
  | true=>some (gw a b)
  | false=>none)
 | false=>none
noncomputable def H4(H:CH)(a b:PV):Option Bool:=match a with
 | .bool x=>(match b with
  | .bool y=>some (x == y)
  | _=>none)
 | .ref i=>(match b with
  | .ref j=>Nk H i j
  | _=>none)
 | a=>Uq a b
noncomputable def has(H:CH)(x:PV):List PV→Option Bool
 | []=>some false
 | y::r=>match H4 H y x with
  | some a=>(match has H x r with
   | some b=>some (a || b)
   | none=>none)
  | none=>none
noncomputable def br(k:PV):List (PV×PV)→Option PV
 | []=>none
 | p::r=>match gw p.1 k with
  | true=>some p.2
  | false=>br k r
noncomputable def gy(k v:PV):List (PV×PV)→List (PV×PV)
 | []=>[(k,v)]
 | p::r=>match gw p.1 k with
  | true=>(p.1,v)::r
  | false=>p::gy k v r
noncomputable def sW(k:PV):List (PV×PV)→List (PV×PV)
 | []=>[]
 | p::r=>match gw p.1 k with
  | true=>r
  | false=>p::sW k r
noncomputable def tH:PV→Nat
 | .int _=>1
 | .str _=>2
 | .tup _=>3
 | _=>0
noncomputable def lU(n:Nat):List (PV×PV)→Bool
 | []=>true
 | p::r=>fN p.1&&ael (tH p.1) n&&lU n r
noncomputable def cy(k:PV)(l:List (PV×PV)):Bool:=fN k&&lU (tH k) l
noncomputable def nth(l:List PV):Int→Option PV
 | .ofNat n=>l[n]?
 | .negSucc n=>match afh (n+1) l.length with
  | true=>l[l.length-(n+1)]?
  | false=>none
noncomputable def vL(a:Str)(v:PV):List (Str×PV)→List (Str×PV)
 | []=>[(a,v)]
 | p::r=>match qM a p.1 with
  | true=>(p.1,v)::r
  | false=>p::vL a v r
noncomputable def ax:Nat:=10000000
section
variable{β:Type}
noncomputable def fD(v:PV)(f:Int→CM β):CM β:=match v with
 | .int x=>f x
 | _=>bc
noncomputable def tM(v:PV)(f:Nat→CM β):CM β:=match v with
 | .int z=>(match z with
  | .ofNat n=>f n
  | .negSucc _=>bc)
 | _=>bc
noncomputable def mO(v:PV)(f:Nat→CO→CM β):CM β:=match v with
 | .ref i=>aa (get i) (f i)
 | _=>bc
noncomputable def gv(v:PV)(f:Nat→List PV→CM β):CM β:=mO v fun i q=>match q with
 | .list l=>f i l
 | _=>bc
noncomputable def QL(v:PV)(f:Nat→List (PV×PV)→CM β):CM β:=mO v fun i q=>match q with
 | .dict l=>f i l
 | _=>bc
noncomputable def QM(v:PV)(f:Nat→Str→List (Str×PV)→CM β):CM β:=mO v fun i q=>match q with
 | .inst c l=>f i c l
 | _=>bc
noncomputable def iQ(vs:List PV)(f:PV→CM β):CM β:=match vs with
 | []=>bc
 | v::r=>(match r with
  | []=>f v
  | _::_=>bc)
noncomputable def fM(b:Bool)(m:CM β):CM β:=match b with
 | true=>m
 | false=>bc
noncomputable def gN{α:Type}(o:Option α)(f:α→CM β):CM β:=match o with
 | some a=>f a
 | none=>bc
noncomputable def rd(f:CH→Option β):CM β:=fun H=>match f H with
 | some a=>some (a,H)
 | none=>none
end
noncomputable def binop(op:agq)(a b:PV):CM PV:=match op with
 | .Add=>(match a with
  | .int x=>fD b fun y=>ret (.int (x+y))
  | a=>gv a fun zz l=>gv b fun zz m=>fM (decide (l.length+m.length<ax)) (new (.list (l++m))))
 | .Sub=>fD a fun x=>fD b fun y=>ret (.int (x-y))
 | .Mult=>fD a fun x=>fD b fun y=>fM (decide (x.natAbs<1000000)) (ret (.int (x*y)))
 | .Mod=>fD a fun x=>fD b fun y=>fM (decide (0<y)) (ret (.int (x % y)))
 | .BitAnd=>tM a fun m=>tM b fun n=>ret (.int (.ofNat (m &&& n)))
 | _=>bc
noncomputable def unop(op:UnaryOp)(a:PV):CM PV:=match op with
 | .USub=>fD a fun x=>ret (.int (-x))
 | .Not=>(match a with
  | .bool b=>ret (.bool (!b))
  | _=>bc)
 | _=>bc
noncomputable def truth(v:PV):CM Bool:=match v with
 | .bool b=>ret b
 | .none=>ret false
 | v=>gv v fun zz l=>ret (!l.isEmpty)
noncomputable def contains(x c:PV):CM Bool:=match c with
 | .tup l=>rd fun H=>has H x l
 | c=>mO c fun zz q=>match q with
  | .list l=>rd fun H=>has H x l
  | .dict l=>fM (cy x l) (ret (br x l).isSome)
  | .inst _ _=>bc
noncomputable def Xz(a b:PV):CM Bool:=match b with
 | .none=>(match a with
  | .none=>ret true
  | .ref _=>ret false
  | .int _=>ret false
  | _=>bc)
 | _=>bc
noncomputable def ae(op:CmpOp)(a b:PV):CM Bool:=match op with
 | .Eq=>rd fun H=>H4 H a b
 | .NotEq=>aa (rd fun H=>H4 H a b) fun r=>ret (!r)
 | .Lt=>fD a fun x=>fD b fun y=>ret (decide (x<y))
 | .LtE=>fD a fun x=>fD b fun y=>ret (decide (x≤y))
 | .Gt=>fD a fun x=>fD b fun y=>ret (decide (y<x))
 | .GtE=>fD a fun x=>fD b fun y=>ret (decide (y≤x))
 | .Is=>Xz a b
 | .IsNot=>aa (Xz a b) fun r=>ret (!r)
 | .In=>contains a b
 | .NotIn=>aa (contains a b) fun r=>ret (!r)
noncomputable def getItem(o i:PV):CM PV:=match o with
 | .tup l=>fD i fun n=>fM (decide (l.length<ax)) (LU (nth l n))
 | o=>mO o fun zz q=>match q with
  | .list l=>tM i fun n=>LU l[n]?
  | .dict l=>fM (cy i l) (LU (br i l))
  | .inst _ _=>bc
noncomputable def setItem(o i v:PV):CM Unit:=mO o fun r q=>match q with
 | .list l=>tM i fun n=>fM (ahk n l.length) (put r (.list (l.set n v)))
 | .dict l=>fM (cy i l) (fM (decide (l.length+1<ax)) (put r (.dict (gy i v l))))
 | .inst _ _=>bc
noncomputable def delItem(o i:PV):CM Unit:=QL o fun r l=>fM (cy i l) (fM (br i l).isSome (put r (.dict (sW i l))))
noncomputable def abW(v:PV):Bool:=match v with
 | .int z=>decide (z=-1)
 | _=>false
noncomputable def slice(o:PV)(lo hi st:Option PV):CM PV:=gv o fun zz l=>match lo with
 | some zz=>bc
 | none=>(match hi with
  | some h=>(match st with
   | some zz=>bc
   | none=>tM h fun n=>new (.list (l.take n)))
  | none=>gN st fun k=>fM (abW k) (new (.list l.reverse)))
noncomputable def pH(o lo:PV):CM Unit:=gv o fun r l=>tM lo fun zz=>match l with
 | []=>put r (.list [])
 | _::_=>bc
noncomputable def ar(o:PV)(a:Str):CM PV:=QM o fun zz zz fs=>LU (look a fs)
noncomputable def ee(ok:Str→Bool)(o:PV)(a:Str)(v:PV):CM Unit:=QM o fun r c fs=>fM (ok a) (fM (decide (fs.length+1<ax)) (put r (.inst c (vL a v fs))))
inductive Blt where
 | len | all | any | sorted | tuple
inductive Kind where
 | fn | cls | blt (b:Blt)
noncomputable def bools:List PV→Option (List Bool)
 | []=>some []
 | .bool b::r=>match bools r with
  | some l=>some (b::l)
  | none=>none
 | _::_=>none
noncomputable def jw(a:Int):List Int→List Int
 | []=>[a]
 | b::r=>match decide (a≤b)with
  | true=>a::b::r
  | false=>b::jw a r
noncomputable def hM:List Int→List Int
 | []=>[]
 | a::r=>jw a (hM r)
noncomputable def vq(l:List PV):Option (List PV):=match ib l with
 | some x=>(match decide (x.length<64)with
  | true=>some ((hM x).map .int)
  | false=>none)
 | none=>(match l with
  | []=>none
  | k::r=>(match r with
   | []=>(match k with
    | .str s=>some [.str s]
    | _=>none)
   | _::_=>none))
noncomputable def blt(b:Blt)(vs:List PV):CM PV:=iQ vs fun v=>match b with
 | .len=>(match v with
  | .tup l=>fM (decide (l.length<ax)) (ret (.int l.length))
  | v=>gv v fun zz l=>ret (.int l.length))
 | .all=>gv v fun zz l=>gN (bools l) fun x=>ret (.bool (x.all id))
 | .any=>gv v fun zz l=>gN (bools l) fun x=>ret (.bool (x.any id))
 | .sorted=>mO v fun zz q=>match q with
  | .list l=>gN (ib l) fun x=>fM (decide (x.length<64)) (new (.list ((hM x).map .int)))
  | .dict l=>gN (vq (l.map (·.1))) fun x=>new (.list x)
  | .inst _ _=>bc
 | .tuple=>gv v fun zz l=>ret (.tup l)
inductive Meth where
 | fn (k:Str) | append | pop | KM
structure la where
 params:List Str
 scope:Scope
 body:List Stmt
structure Prg where
 fn:Str→Option la
 kind:Str→Option Kind
 gl:Str→Option PV
 IR:Str→Str→Option Str
 init:Str→Option (Option Str)
 field:Str→Bool
section
variable(P:Prg)(call:Str→List PV→CM PV)
noncomputable def jz(c:Str)(vs:List PV):Option (Option Str)→CM PV
 | some (some k)=>aa (new (.inst c [])) fun o=>aa (call k (o::vs)) fun r=>(match r with
  | .none=>ret o
  | _=>bc)
 | some none=>(match vs with
  | []=>new (.inst c [])
  | _::_=>bc)
 | none=>bc
noncomputable def oj(f:Str)(vs:List PV):CM PV:=match P.kind f with
 | some .fn=>call f vs
 | some .cls=>jz call f vs (P.init f)
 | some (.blt b)=>blt b vs
 | none=>bc
noncomputable def au(o:PV)(m:Str):CM Meth:=mO o fun zz q=>match q with
 | .inst c fs=>(match look m fs with
  | some zz=>bc
  | none=>gN (P.IR c m) fun k=>ret (.fn k))
 | .list _=>(match qM m (Str.ofString "append")with
  | true=>ret .append
  | false=>fM (qM m (Str.ofString "pop")) (ret .pop))
 | .dict _=>fM (qM m (Str.ofString "get")) (ret .KM)
noncomputable def aj(m:Meth)(o:PV)(vs:List PV):CM PV:=match m with
 | .fn k=>call k (o::vs)
 | .append=>iQ vs fun v=>gv o fun r l=>fM (decide (l.length+1<ax)) (aa (put r (.list (l++[v]))) fun zz=>ret .none)
 | .pop=>(match vs with
  | []=>gv o fun r l=>gN l.getLast? fun x=>aa (put r (.list l.dropLast)) fun zz=>ret x
  | _::_=>bc)
 | .KM=>(match vs with
  | []=>bc
  | k::d=>QL o fun zz l=>fM (cy k l) (match d with
   | []=>ret ((br k l).getD .none)
   | d::r=>(match r with
    | []=>ret ((br k l).getD d)
    | _::_=>bc)))
noncomputable def dc(ρ:bg)(i:Nat):CM PV:=match ρ[i]? with
 | some (some v)=>ret v
 | _=>bc
noncomputable def Iz(x:Str)(sc:Scope)(ρ:bg):CM PV:=match look x sc.names with
 | some .globalImplicit=>LU (P.gl x)
 | some .globalExplicit=>bc
 | some zz=>dc ρ (idx x sc.names)
 | none=>bc
noncomputable def gc(sc:Scope)(ρ:bg)(x:Str)(v:PV):bg:=ρ.set (idx x sc.names) (some v)
noncomputable def vO(f:Str)(sc:Scope):Bool:=match look f sc.names with
 | some .globalImplicit=>true
 | _=>false
noncomputable def yc(f:Str)(sc:Scope):Bool:=match look f sc.names with
 | some .local=>true
 | some .cell=>true
 | _=>false
noncomputable def Qj(c:Const):CM PV:=match c with
 | .none=>ret .none
 | .bool b=>ret (.bool b)
 | .int i=>ret (.int i)
 | .str s=>ret (.str s)
 | _=>bc
inductive It where
 | snap (l:List PV)
 | live (id:Nat)
noncomputable def bj(t:It):CM Nat:=match t with
 | .snap l=>ret l.length
 | .live r=>gv (.ref r) fun zz l=>ret l.length
noncomputable def Ov(t:It)(i:Nat):CM PV:=match t with
 | .snap l=>LU l[i]?
 | .live r=>gv (.ref r) fun zz l=>LU l[i]?
noncomputable def qS(t:It)(i:Nat):CM Unit:=aa (bj t) fun n=>match ael n i with
 | true=>ret ()
 | false=>bc
noncomputable def jR:Nat→List PV
 | 0=>[]
 | n+1=>jR n++[.int n]
noncomputable def da(v:PV):CM It:=match v with
 | .tup l=>ret (.snap l)
 | .str s=>fM (s.cps.toList.all (fun c=>ahk c 128)) (ret (.snap (s.cps.toList.map fun c=>.str ⟨#[c]⟩)))
 | v=>gv v fun i zz=>ret (.live i)
structure Rr where
 ev:Expr→Scope→bg→CM PV
 Be:Expr→Scope→bg→CM Bool
 ex:Stmt→Scope→bg→(bg→CM PV)→CM PV
noncomputable def cw(l:List PV):CM PV:=fM (decide (l.length<ax)) (new (.list l))
noncomputable def Ck(l:List PV):CM PV:=fM (afh l.length 100) (new (.list l))
noncomputable def gB(l:List PV):CM PV:=fM (afh l.length 100) (ret (.tup l))
noncomputable def gj(v:PV):CM It:=tM v fun n=>fM (decide (n<100000)) (ret (.snap (jR n)))
noncomputable def two(vs:List PV)(k:PV→PV→CM PV):CM PV:=match vs with
 | []=>bc
 | u::r=>iQ r (k u)
noncomputable def aug(op:agq)(old u:PV)(k:PV→CM PV):CM PV:=fD old fun x=>fD u fun y=>match op with
 | .Add=>k (.int (x+y))
 | .Sub=>k (.int (x-y))
 | _=>bc
noncomputable def gC(v:PV)(k:CM PV):CM PV:=match v with
 | .none=>k
 | .int _=>k
 | _=>bc
noncomputable def isX(l:List Nat)(e:Expr):Bool:=l.any (ael (PySem.Expr.ctorIdx e))
noncomputable def jD(e:Expr):Bool:=!isX [7,22,9,10] e
noncomputable def Kj(sc:Scope)(x:Str)(as:List Expr)(ks:List Keyword):Option Expr:=match ks with
 | _::_=>none
 | []=>(match as with
  | []=>none
  | a::r=>(match r with
   | _::_=>none
   | []=>(match qM x (Str.ofString "range")&&vO x sc with
    | true=>some a
    | false=>none)))
noncomputable def Nj(e:Expr)(sc:Scope):Option Expr:=match e with
 | .Call f as ks _=>(match f with
  | .Name x _=>Kj sc x as ks
  | _=>none)
 | _=>none
noncomputable def Qp(g:acI):Option Str:=match g.target with
 | .Name x _=>(match decide (g.is_async=0)with
  | true=>some x
  | false=>none)
 | _=>none
section
variable(L:Rr)
noncomputable def Fl(sc:Scope)(ρ:bg):List Expr→CM (List PV)
 | []=>ret []
 | e::r=>fM (jD e) (aa (L.ev e sc ρ) fun v=>aa (Fl sc ρ r) fun vs=>ret (v::vs))
noncomputable def yQ(sc:Scope)(ρ:bg):Option Expr→CM (Option PV)
 | none=>ret none
 | some e=>aa (L.ev e sc ρ) fun v=>ret (some v)
noncomputable def boolOp(op:BoolOp)(sc:Scope)(ρ:bg):List Expr→CM PV
 | []=>bc
 | e::r=>match r with
  | []=>L.ev e sc ρ
  | _::_=>aa (L.ev e sc ρ) fun v=>aa (truth v) fun t=>match op with
   | .And=>af t (boolOp .And sc ρ r) (ret v)
   | .Or=>af t (ret v) (boolOp .Or sc ρ r)
noncomputable def iE(op:BoolOp)(sc:Scope)(ρ:bg):List Expr→CM Bool
 | []=>ret (match op with | .And=>true | .Or=>false)
 | e::r=>aa (L.Be e sc ρ) fun t=>match op with
  | .And=>af t (iE .And sc ρ r) (ret false)
  | .Or=>af t (ret true) (iE .Or sc ρ r)
noncomputable def chain(sc:Scope)(ρ:bg):List CmpOp→PV→List Expr→CM Bool
 | [],_,_=>bc
 | op::ops,a,rs=>match rs with
  | []=>bc
  | r::rs=>fM (jD r) (match ops with
   | []=>(match rs with
    | []=>aa (L.ev r sc ρ) fun b=>ae op a b
    | _::_=>bc)
   | _::_=>aa (L.ev r sc ρ) fun b=>aa (ae op a b) fun c=>af c (chain sc ρ ops b rs) (ret false))
noncomputable def TB(sc:Scope)(ρ:bg)(ops:List CmpOp)(a:PV)(rs:List Expr):CM Bool:=match ops with
 | []=>bc
 | op::ops=>(match ops with
  | _::_=>bc
  | []=>(match rs with
   | []=>bc
   | r::rs=>(match rs with
    | _::_=>bc
    | []=>fM (jD r) (aa (L.ev r sc ρ) fun b=>ae op a b))))
noncomputable def Oe(e:Expr)(sc:Scope)(ρ:bg):CM It:=fM (jD e) (match Nj e sc with
 | some a=>fM (jD a) (aa (L.ev a sc ρ) gj)
 | none=>aa (L.ev e sc ρ) da)
noncomputable def av(t:It)(turn:PV→CM (List PV)):Nat→Nat→CM (List PV)
 | 0,i=>aa (qS t i) fun zz=>ret []
 | n+1,i=>aa (Ov t i) fun x=>aa (turn x) fun l=>aa (av t turn n (i+1)) fun r=>ret (l++r)
noncomputable def YP(x:Str)(sc:Scope):Bool:=match look x sc.names with
 | some k=>(match k with
  | .local=>true
  | _=>false)
 | none=>false
noncomputable def II(ρ:bg)(i:Nat):Bool:=match ρ[i]? with
 | some o=>(match o with
  | none=>true
  | some zz=>false)
 | none=>false
noncomputable def aaw(sc:Scope)(ρ:bg)(x:Str):Bool:=YP x sc&&II ρ (idx x sc.names)
noncomputable def Iy(elt:Expr)(sc:Scope):List acI→bg→CM (List PV)
 | [],ρ=>aa (L.ev elt sc ρ) fun v=>ret [v]
 | g::gs,ρ=>gN (Qp g) fun x=>fM (aaw sc ρ x) (aa (Oe L g.iter sc ρ) fun t=>aa (bj t) fun n =>
   av t (fun v=>aa (iE L .And sc (gc sc ρ x v) g.ifs) fun ok=>af ok (Iy elt sc gs (gc sc ρ x v)) (ret [])) n 0)
noncomputable def BB:List Str→Bool
 | []=>true
 | x::r=>!isIn x r&&BB r
noncomputable def Uk:ScopeKind→Bool
 | .function=>true
 | _=>false
noncomputable def vN(sc:Scope):List (Str×ac0)→Bool
 | []=>true
 | p::r=>(match p.2 with
  | .local=>true
  | .globalImplicit=>true
  | .free=>(match look p.1 sc.names with
   | some k=>(match k with
    | .cell=>true
    | .free=>true
    | _=>false)
   | none=>false)
  | _=>false)&&(!qM p.1 (Str.ofString "__debug__")&&vN sc r)
noncomputable def TE(sc fK:Scope):Bool:=Uk fK.kind&&(BB (fK.names.map (·.1))&&vN sc fK.names)
noncomputable def lu(sc:Scope)(ρ:bg):List (Str×ac0)→bg
 | []=>[]
 | p::r=>(match p.2 with
  | .free=>(match ρ[idx p.1 sc.names]? with
   | some v=>v
   | none=>none)
  | _=>none)::lu sc ρ r
noncomputable def Od(elt:Expr)(gens:List acI)(fK:Scope)(sc:Scope)(ρ:bg):CM PV:=match gens with
 | []=>bc
 | g::gs=>fM (TE sc fK) (gN (Qp g) fun x=>fM (aaw fK (lu sc ρ fK.names) x) (aa (Oe L g.iter sc ρ) fun t=>aa (bj t) fun n =>
   aa (av t (fun v=>aa (iE L .And fK (gc fK (lu sc ρ fK.names) x v) g.ifs) fun ok=>af ok (Iy L elt fK gs (gc fK (lu sc ρ fK.names) x v)) (ret [])) n 0) cw))
noncomputable def tL:Expr→Bool
 | .Call f as ks _=>(match f with
  | .Name _ _=>(match as with
   | []=>(match ks with
    | []=>false
    | _::_=>true)
   | _::_=>true)
  | _=>true)
 | _=>true
noncomputable def TW(o:Expr)(m:Str)(apos:Pos)(args:List Expr)(pos:Pos)(sc:Scope)(ρ:bg):CM PV :=
 fM (tL o) (fM (ael apos.endLine pos.line) (fM (afh args.length 20) (aa (L.ev o sc ρ) fun ov=>aa (au P ov m) fun f=>aa (Fl L sc ρ args) fun vs=>aj call f ov vs)))
noncomputable def Ix(f:Str)(args:List Expr)(sc:Scope)(ρ:bg):CM PV:=fM (vO f sc) (aa (Fl L sc ρ args) fun vs=>oj P call f vs)
noncomputable def YF(i:Expr)(ov:PV)(sc:Scope)(ρ:bg):CM PV:=match i with
 | .Slice lo hi st _=>aa (yQ L sc ρ lo) fun a=>aa (yQ L sc ρ hi) fun b=>aa (yQ L sc ρ st) fun c=>slice ov a b c
 | i=>aa (L.ev i sc ρ) fun iv=>getItem ov iv
noncomputable def TX(e:Expr)(sc:Scope)(ρ:bg):CM PV:=match e with
 | .Constant c _ _=>Qj c
 | .Name x _=>Iz P x sc ρ
 | .BoolOp op vs _=>boolOp L op sc ρ vs
 | .BinOp l op r _=>aa (L.ev l sc ρ) fun a=>aa (L.ev r sc ρ) fun b=>binop op a b
 | .UnaryOp op x _=>aa (L.ev x sc ρ) fun v=>unop op v
 | .IfExp t b o _=>aa (L.Be t sc ρ) fun c=>af c (L.ev b sc ρ) (L.ev o sc ρ)
 | .Dict ks vs _=>(match ks with
  | []=>(match vs with
   | []=>new (.dict [])
   | _::_=>bc)
  | _::_=>bc)
 | .List es _=>aa (Fl L sc ρ es) Ck
 | .Tuple es _ _=>aa (Fl L sc ρ es) gB
 | .ListComp elt gens fK _=>Od L elt gens fK sc ρ
 | .Compare l ops rs _=>aa (L.ev l sc ρ) fun a=>aa (TB L sc ρ ops a rs) fun b=>ret (.bool b)
 | .Call f args kws pos=>(match kws with
  | []=>(match f with
   | .Attribute o m apos=>TW P call L o m apos args pos sc ρ
   | .Name f _=>Ix P call L f args sc ρ
   | _=>bc)
  | _::_=>bc)
 | .Attribute o a _=>fM (tL o) (fM (P.field a) (aa (L.ev o sc ρ) fun ov=>ar ov a))
 | .Subscript o i _=>aa (L.ev o sc ρ) fun ov=>YF L i ov sc ρ
 | _=>bc
noncomputable def Rb(e:Expr)(sc:Scope)(ρ:bg):CM Bool:=match e with
 | .UnaryOp op x _=>(match op with
  | .Not=>aa (L.Be x sc ρ) fun b=>ret (!b)
  | _=>aa (L.ev e sc ρ) truth)
 | .BoolOp op vs _=>iE L op sc ρ vs
 | .IfExp t b o _=>aa (L.Be t sc ρ) fun c=>af c (L.Be b sc ρ) (L.Be o sc ρ)
 | .Compare l ops rs _=>aa (L.ev l sc ρ) fun a=>chain L sc ρ ops a rs
 | e=>aa (L.ev e sc ρ) truth
noncomputable def lm(sc:Scope):List Stmt→bg→(bg→CM PV)→CM PV
 | [],ρ,K=>K ρ
 | s::r,ρ,K=>L.ex s sc ρ fun hZ=>lm sc r hZ K
noncomputable def ek(t:It)(turn:PV→bg→(bg→CM PV)→CM PV):Nat→Nat→bg→(bg→CM PV)→CM PV
 | 0,i,ρ,K=>aa (qS t i) fun zz=>K ρ
 | n+1,i,ρ,K=>aa (Ov t i) fun x=>turn x ρ fun hZ=>ek t turn n (i+1) hZ K
noncomputable def fC(test:bg→CM Bool)(turn:bg→(bg→CM PV)→CM PV):Nat→bg→(bg→CM PV)→CM PV
 | 0,_,_=>bc
 | n+1,ρ,K=>aa (test ρ) fun b=>match b with
  | true=>turn ρ fun hZ=>fC test turn n hZ K
  | false=>K ρ
noncomputable def iF:Nat:=Classical.choose (⟨1000000,rfl⟩:∃n,n=1000000)
theorem mH:iF=1000000:=Classical.choose_spec (⟨1000000,rfl⟩:∃n,n=1000000)
noncomputable def IG(e:Expr):Bool:=match e with
 | .Call _ _ _ _=>true
 | _=>false
noncomputable def Ul(e:Expr):Bool:=match e with
 | .Tuple es _ _=>(match es with
  | []=>true
  | _::_=>false)
 | _=>false
noncomputable def IY(a b:Expr)(px py:Pos):Bool:=match IG a with
 | true=>IG b&&ael px.line py.line
 | false=>Ul a&&Ul b
noncomputable def rH(e:Expr):Bool:=isX [8,9,10] e
noncomputable def Cm(e:Expr):Option (Str×Pos):=match e with
 | .Name x p=>some (x,p)
 | _=>none
noncomputable def aaE(l:List Expr):Option (Expr×Expr):=match l with
 | []=>none
 | a::r=>(match r with
  | []=>none
  | b::r=>(match r with
   | []=>some (a,b)
   | _::_=>none))
noncomputable def abx(e:Expr):Option (List Expr):=match e with
 | .Tuple es _ _=>some es
 | _=>none
noncomputable def T0(xs:List Expr)(v:Expr)(sc:Scope)(ρ:bg)(K:bg→CM PV):CM PV:=gN (aaE xs) fun x=>gN (Cm x.1) fun p=>gN (Cm x.2) fun q=>gN (abx v) fun es=>gN (aaE es) fun d =>
 fM (YP p.1 sc) (fM (YP q.1 sc) (fM (!qM p.1 q.1) (fM (IY d.1 d.2 p.2 q.2) (aa (Fl L sc ρ es) fun vs=>two vs fun u w=>K (gc sc (gc sc ρ p.1 u) q.1 w)))))
noncomputable def TZ(t v:Expr)(sc:Scope)(ρ:bg)(K:bg→CM PV):CM PV:=match t with
 | .Name x _=>aa (L.ev v sc ρ) fun u=>fM (yc x sc) (K (gc sc ρ x u))
 | .Attribute o a _=>aa (L.ev v sc ρ) fun u=>aa (L.ev o sc ρ) fun ov=>aa (ee P.field ov a u) fun zz=>K ρ
 | .Subscript o i _=>aa (L.ev v sc ρ) fun u=>aa (L.ev o sc ρ) fun ov=>aa (L.ev i sc ρ) fun iv=>aa (setItem ov iv u) fun zz=>K ρ
 | .Tuple xs _ _=>T0 L xs v sc ρ K
 | _=>bc
noncomputable def YG(t:Expr)(op:agq)(v:Expr)(sc:Scope)(ρ:bg)(K:bg→CM PV):CM PV:=match t with
 | .Attribute o a _=>aa (L.ev o sc ρ) fun ov=>fM (P.field a) (aa (ar ov a) fun old=>aa (L.ev v sc ρ) fun u=>aug op old u fun new=>aa (ee P.field ov a new) fun zz=>K ρ)
 | _=>bc
noncomputable def UM(o:Option Expr)(k:CM PV):CM PV:=match o with
 | none=>k
 | some zz=>bc
noncomputable def acd(i:Expr)(f:Option Expr→Option Expr→Option Expr→CM PV)(g:CM PV):CM PV:=match i with
 | .Slice lo hi st _=>f lo hi st
 | _=>g
noncomputable def YW(t:Expr)(f:Expr→Expr→CM PV):CM PV:=match t with
 | .Subscript o i _=>f o i
 | _=>bc
noncomputable def TO(i:Expr)(ov:PV)(sc:Scope)(ρ:bg)(K:bg→CM PV):CM PV :=
 acd i (fun lo hi st=>gN lo fun lo=>UM hi (UM st (aa (L.ev lo sc ρ) fun a=>aa (pH ov a) fun zz=>K ρ))) (aa (L.ev i sc ρ) fun iv=>aa (delItem ov iv) fun zz=>K ρ)
noncomputable def YH(t:Expr)(sc:Scope)(ρ:bg)(K:bg→CM PV):CM PV:=YW t fun o i=>aa (L.ev o sc ρ) fun ov=>TO L i ov sc ρ K
noncomputable def YI(x iter:Expr)(b:List Stmt)(sc:Scope)(ρ:bg)(K:bg→CM PV):CM PV:=gN (Cm x) fun x=>fM (yc x.1 sc) (aa (Oe L iter sc ρ) fun t=>aa (bj t) fun n=>ek t (fun v ρ K=>lm L sc b (gc sc ρ x.1 v) K) n 0 ρ K)
noncomputable def T2(s:Stmt)(sc:Scope)(ρ:bg)(K:bg→CM PV):CM PV:=match s with
 | .Assign ts v _=>(match ts with
  | []=>bc
  | t::r=>(match r with
   | []=>fM (jD v) (TZ P L t v sc ρ K)
   | _::_=>bc))
 | .AugAssign t op v _=>YG P L t op v sc ρ K
 | .Expr e _=>fM (!rH e) (aa (L.ev e sc ρ) fun v=>gC v (K ρ))
 | .If t a b _=>aa (L.Be t sc ρ) fun c=>af c (lm L sc a ρ K) (lm L sc b ρ K)
 | .While t b oe _=>(match oe with
  | []=>fC (fun ρ=>L.Be t sc ρ) (fun ρ K=>lm L sc b ρ K) iF ρ K
  | _::_=>bc)
 | .For x iter b oe _=>(match oe with
  | []=>YI L x iter b sc ρ K
  | _::_=>bc)
 | .Return e _=>gN e fun e=>L.ev e sc ρ
 | .Delete ts _=>(match ts with
  | []=>bc
  | t::r=>(match r with
   | []=>YH L t sc ρ K
   | _::_=>bc))
 | _=>bc
noncomputable def QG:Rr:=⟨TX P call L,Rb L,T2 P L⟩
end
noncomputable def YT:Nat→Rr
 | 0=>⟨fun zz zz zz=>bc,fun zz zz zz=>bc,fun zz zz zz zz=>bc⟩
 | n+1=>QG P call (YT n)
end
noncomputable def No(params:List Str)(vs:List PV):List (Str×ac0)→bg
 | []=>[]
 | p::r=>look p.1 (params.zip vs)::No params vs r
noncomputable def ka(P:Prg):Nat→Str→List PV→CM PV
 | 0,_,_=>bc
 | n+1,f,vs=>gN (P.fn f) fun r=>fM (ael r.params.length vs.length) (lm (YT P (ka P n) 40) r.scope r.body (No r.params vs r.scope.names) fun zz=>ret .none)
noncomputable def ZB(a b:Str):Str:=⟨a.cps++#[46]++b.cps⟩
noncomputable def acp(a:Arguments)(b:List Stmt)(sc:Scope):la:=⟨a.args.map (·.arg),sc,b⟩
noncomputable def defsIn(pre:Str→Str):List Stmt→List (Str×la)
 | []=>[]
 | s::r=>match s with
  | .FunctionDef n a b _ _ _ sc _ _ _=>(pre n,acp a b sc)::defsIn pre r
  | _=>defsIn pre r
noncomputable def IS:List Stmt→List (Str×la)
 | []=>[]
 | s::r=>match s with
  | .ClassDef n _ _ b _ _ _ _ _ _ _=>defsIn (ZB n) b++IS r
  | _=>IS r
noncomputable def xP(l:List Int):PV:=.tup (l.map .int)
noncomputable def S(s:String):Str:=Str.ofString s
noncomputable def Ua:List (Str×PV):=[
 (S "Y_KEY",.int 1),(S "Y_BOOL",.int 2),(S "Y_STR",.int 3),(S "Y_NUM",.int 4),(S "Y_ENUM",.int 5),(S "Y_UNION",.int 6),(S "Y_INTER",.int 7),(S "Y_OBJ",.int 8),(S "Y_REF",.int 9),(S "Y_PARAM",.int 10),(S "Y_ARRAY",.int 11),(S "Y_TUPLE",.int 12),(S "Y_SIG",.int 13),(S "Y_TPL",.int 18),
 (S "ANY",.int 0),(S "UNKNOWN",.int 1),(S "NEVER",.int 2),(S "VOID",.int 3),(S "UNDEF",.int 4),(S "NULLT",.int 5),(S "STRING",.int 6),(S "NUMBER",.int 7),(S "FALSE_T",.int 8),(S "TRUE_T",.int 9),(S "OBJECTT",.int 10),(S "EMPTY",.int 11),(S "ERR",.int 13),(S "FRESH_F",.int 14),(S "FRESH_T",.int 15),(S "P_OPT",.int 1),
 (S "FAM_OTHER",.int 0),(S "FAM_STR",.int 1),(S "FAM_NUM",.int 2),(S "FAM_BOOL",.int 3),(S "FAM_NULL",.int 4),(S "FAM_UNDEF",.int 5),(S "FAM_VOID",.int 6),(S "FAM_OBJ",.int 7),(S "MAX_UNION",.int 400),
 (S "FIRST_ROWS",.tup [.tup [.int 1,.str (S "any")],.tup [.int 1,.str (S "unknown")],.tup [.int 1,.str (S "never")],.tup [.int 1,.str (S "void")],.tup [.int 1,.str (S "undefined")],.tup [.int 1,.str (S "null")],.tup [.int 1,.str (S "string")],.tup [.int 1,.str (S "number")],xP [2,0,0],xP [2,1,0],.tup [.int 1,.str (S "object")],.tup [.int 8,.tup [],.tup [],.tup [],.tup [],.tup [],.int 0],.tup [.int 6,xP [8,9]],.tup [.int 1,.str (S "error")],xP [2,0,1],xP [2,1,1]]),
 (S "LITERAL_ROWS",xP [2,3,4,5]),(S "MARKED_ROWS",xP [2,3,4,5,8]),(S "OBJECT_ROWS",xP [8,9,11,12,13]),(S "KEY_FAMILIES",.ref 0),
 (S "MAX_DRAWN",.int 200),(S "MEET_NEVER",.int 0),(S "MEET_LEFT",.int 1),(S "MEET_RIGHT",.int 2),(S "MEET_BOTH",.int 3),(S "R_ASSIGN",.int 1),(S "R_COMPARE",.int 2),(S "R_IDENT",.int 3),(S "R_SUBTYPE",.int 4),
 (S "RULE_MEET",.int 1),(S "RULE_DEFERRED",.int 2),(S "RULE_SIG",.int 3),(S "RULE_LIST",.int 4),(S "RULE_OBJECT",.int 5),(S "RULE_CHOICE",.int 6),(S "RULE_PLACES",.int 12),
 (S "VALUE_ROWS",xP [1,2,3,4,5]),(S "LIST_ROWS",xP [11,12]),(S "SHAPED_ROWS",xP [8,9]),(S "DEFERRED_ROWS",xP [10,14,15,16,17,18,19]),(S "OPEN_ROWS",xP [6,7,10,14,15,16,17,18,19]),(S "MAX_OPEN",.int 60),(S "MOST_LOOKS",.int 20000),
 (S "MOST_ROUNDS",.int 200),(S "MOST_SHAPES",.int 40),(S "MOST_BOUNDS",.int 12),(S "MOST_PLAIN",.int 40)]
noncomputable def IK:CO:=.dict [(.int 3,.int 6),(.int 4,.int 5),(.int 5,.int 4),(.int 6,.int 1),(.int 7,.int 2),(.int 10,.int 7)]
noncomputable def om:List (Str×Option Str):=[(S "TypeTable",some (S "TypeTable.__init__")),(S "Rel",some (S "Rel.__init__")),(S "Notes",some (S "Notes.__init__")),(S "BoundHost",some (S "Thin.__init__")),(S "RelateMeetRule",none),(S "ParamRule",none)]
noncomputable def QH:List (Str×List (Str×Str)):=[
 (S "TypeTable",[(S "put",S "TypeTable.put")]),
 (S "Rel",[(S "ask",S "Rel.ask"),(S "same",S "Rel.same"),(S "mark",S "Rel.mark"),(S "back",S "Rel.back")]),
 (S "BoundHost",[(S "force",S "Thin.force"),(S "shape",S "BoundHost.shape")]),
 (S "RelateMeetRule",[(S "holds",S "RelateMeetRule.holds")]),
 (S "ParamRule",[(S "holds",S "ParamRule.holds")])]
noncomputable def fields:List Str:=[S "rows",S "index",S "decls",S "bounds",S "defaults",S "names",S "origins",S "renamed",S "shaping",S "putting",S "host",S "mode",S "rules",S "assumed",S "known",S "trail",S "road",S "deep",S "looks",S "notes",S "telling",S "twin",S "missing",S "at",S "tab",S "most_rounds",S "most_deep",S "lib"]
noncomputable def Bq:List (Str×Blt):=[(S "len",.len),(S "all",.all),(S "any",.any),(S "sorted",.sorted),(S "tuple",.tuple)]
noncomputable def iV:List (Str×la):=defsIn (fun n=>n) PySem.Challenge.pw_sa0406_01.main.body
noncomputable def vC:List (Str×la):=IS PySem.Challenge.pw_sa0406_01.main.body
noncomputable def ai:Prg where
 fn f:=match look f iV with
  | some r=>some r
  | none=>look f vC
 kind f:=match look f Bq with
  | some b=>some (.blt b)
  | none=>match look f om with
   | some zz=>some .cls
   | none=>match look f iV with
    | some zz=>some .fn
    | none=>none
 gl x:=look x Ua
 IR c m:=(look c QH).bind (look m)
 init c:=look c om
 field a:=isIn a fields
noncomputable def start(ns:List Int):CH:=[IK,.list (ns.map .int)]
noncomputable def Φ:Nat→Str→List PV→CM PV:=Classical.choose (⟨ka ai,rfl⟩:∃f,f=ka ai)
theorem bo:Φ=ka ai:=Classical.choose_spec (⟨ka ai,rfl⟩:∃f,f=ka ai)
noncomputable def G(x:String):PV:=(look (S x) Ua).getD .none
noncomputable def XM(ρ:bg)(i:Nat):Option PV:=match ρ[i]? with
 | some v=>v
 | none=>none
noncomputable def rN(o:Option PV):CM PV:=dc [o] 0
end
end Mine
theorem Mine.du{α:Type}{a:α}{P:Prop}(h:none=some a):P:=nomatch h
theorem Mine.zSn{α:Type}{a:α}{P:Prop}(h:some a=none):P:=nomatch h
theorem Mine.rr{P:Prop}(h:true=false):P:=nomatch h
theorem Mine.fS{P:Prop}(h:false=true):P:=nomatch h
theorem Mine.zP{α β:Type}{a c:α}{b d:β}(h:some (a,b)=some (c,d)):a=c∧b=d:=afv (aa0 h)
theorem Mine.zI{α:Type}{a b:α}(h:some a=some b):a=b:=aa0 h
theorem Mine.zM{α:Type}{a:α}{P:Prop}(h:a∈([]:List α)):P:=nomatch h
theorem Mine.zC{α:Type}(f:α→Nat){a b:α}{P:Prop}(e:a=b)(h:ael (f a) (f b)=false):P:=(afk h (congrArg f e)).elim
@[elab_as_elim] theorem Mine.rwG.{u}{α:Sort u}{a:α}{M:α→Prop}{b:α}(h:a=b)(e:M b):M a:=h▸e
set_option compiler.extract_closed false
local macro_rules
 | `(tactic| rw[$e:term])=>`(tactic| with_reducible refine Mine.rwG ($e ..) ?_)
set_option genInjectivity false
namespace Mine.Sim
open PySem PySem.W PyProof.Rows PySem.Calls
noncomputable section
theorem Cf{ps:List Str}:∀{vs:List Value},vs.length=ps.length→∀n∈ps,((ps.zip vs).lookup n).isNone=false:=by
 induction ps with
 | nil=>exact fun zz zz h=>zM h
 | cons p ps ih=>exact fun{vs}=>match vs with
  | []=>fun h=>zC id h rfl
  | v::vs=>fun h n hn=>by
   rw[aga];rw[adA]
   generalize q:(n == p)=zq;induction zq with
   | true=>rfl
   | false=>exact ih (aeO h) n ((aa2.mp hn).elim (fun e=>by rw[e,beq_self_eq_true]at q;exact rr q) id)
theorem Le{α β:Type}{f g:α→Option β}:∀{l:List α},(∀x∈l,f x=g x)→l.filterMap f=l.filterMap g
 | [],_=>rfl
 | x::l,h=>by rw[af5];rw[af5];rw[h x (.head _),Le fun y hy=>h y (.tail _ hy)]
theorem WC{ps:List Str}:∀{vs:List Value},vs.length=ps.length→ps.Nodup→ps.filterMap (fun n=>((ps.zip vs).lookup n).map fun v=>(n,v))=ps.zip vs:=by
 induction ps with
 | nil=>exact fun zz zz=>rfl
 | cons p ps ih=>exact fun{vs}=>match vs with
  | []=>fun h=>zC id h rfl
  | v::vs=>fun h d=>by
   obtain⟨d1,d2⟩:=abU.mp d
   rw[aga];rw[af5];rw[adA];rw[beq_self_eq_true]
   show(p,v)::_=_
   refine congrArg _ (Eq.trans (Le fun n hn=>?_) (ih (aeO h) d2))
   rw[adA];rewrite[show(n == p)=false from beq_eq_false_iff_ne.mpr fun e:n=p=>d1 (e▸hn)];rfl
theorem HD{z:List (Str×Value)}:∀{l:List (Str×Value)},(∀p∈l,(z.lookup p.1).isNone=false)→(forIn l z fun(x:Str×Value) s=>if(List.lookup x.1 s).isNone=true then(pure (.yield (s++[(x.1,x.2)])):Sem _)else pure (.yield s))=pure z
 | [],_=>rfl
 | p::l,h=>by
  rw[afC];rewrite[h p (.head _)]
  exact HD fun q hq=>h q (.tail _ hq)
theorem Yd{M:Model}{A:Around}{E:Value→Shared→Prop}{R:Option (Array Value)→Shared→Prop}{v:Value}{s:Shared}(hd:v=.none∨∃T o items n,v=.ref T∧s.heap.get? T=some o∧o.data=.seq items n)(h:∀d,R d s):wpAny M A (seqItems? v) R E s:=by
 rcases hd with rfl | ⟨T,o,items,n,rfl,ho,hs⟩
 ·exact aa1 (h _)
 ·exact wpAny_seqItems ho hs (h _)
theorem fV{α:Type}{M:Model}{A:Around}{E:Value→Shared→Prop}{Q:α→Shared→Prop}{s:Shared}{c:Prop}[Decidable c]{t e:Sem α}(h:¬c)(k:wpAny M A e Q E s):wpAny M A (if c then t else e) Q E s:=(if_neg (t:=t) (e:=e) h).symm▸k
theorem abz{α:Type}{M:Model}{A:Around}{E:Value→Shared→Prop}{Q:α→Shared→Prop}{s:Shared}{t e:Sem α}(h:t=e)(k:wpAny M A e Q E s):wpAny M A t Q E s:=h▸k
theorem Tw{fd:FuncData}{as:List Arg}{kd:List (Option Expr)}{df:List Expr}{vals:List Value}{s:Shared}(hp:fd.params=⟨[],as,none,[],kd,none,df⟩)(hl:vals.length=(as.map (·.arg)).length)
  (hd:fd.defaults=.none∨∃T o items n,fd.defaults=.ref T∧s.heap.get? T=some o∧o.data=.seq items n) (nd:(as.map (·.arg)).Nodup):BindsTo s fd ⟨vals,[]⟩ ((as.map (·.arg)).zip vals):=by
 intro M A E Q hq
 cases fd
 subst hp
 refine aat (aa1 (aat (Yd hd fun d=>fV ?_ (fV ?_ (aat (abz (HD (z:=(as.map (·.arg)).zip vals) fun p hp=>Cf hl p.1 ?_) (aa1 (aat (aa1 (fV abS ?_))))))))))
 ·exact fun h=>aeM _ (hl▸of_decide_eq_true (abL.mp h).1)
 ·exact fun h=>abS ((congrArg (fun l:List Str=>!l.isEmpty) (List.filter_eq_nil_iff.mpr fun n hn=>ado.mp (Cf hl n (List.mem_of_mem_take hn)))).symm.trans h)
 ·exact List.mem_of_mem_drop (List.of_mem_zip hp).1
 ·exact abz (congrArg pure ((congrArg (List.filterMap _) (abF _)).trans (WC hl nd))) (aa1 hq)
noncomputable def addrs:List Addr:=[3,1,147,125,126,127,128,129,130,131,132,133,134,135,141,136,137,138,139,140,143,142,144,145,146,148,149,150,151,428,429,430,431,433,182,181,179,178,165,164,541,540,503,502,517,516,524,523,531,530,496,495,120,119,96,95,1013,1012,849,848,727,726,1010,1009,720,719,972,971,478,477,969,968,1032,1031,1029,1028,21,20,193,192,200,199,208,207,201,215,214,222,221,229,228,236,235,243,242,250,249,255,254,262,261,269,268,276,275,283,282,290,289,295,294,302,301,309,308,316,315,321,320,328,327,335,334,340,339,347,346,354,353,361,360,366,365,373,372,380,379,387,386,394,393,401,400,408,407,413,412,420,419,427,426,552,551,559,558,566,565,573,572,580,579,587,586,594,593,601,600,608,607,615,614,622,621,629,628,636,635,643,642,650,649,657,656,664,663,671,670,678,677,685,684,692,691,699,698,706,705,860,859,867,866,874,873,879,878,886,885,891,890,896,895,903,902,910,909,917,916,922,921,929,928,936,935,943,942,950,949,955,954,981,980,989,988,1041,1040,1048,1047,1055,1054,1062,1061,1067,1066,1072,1071,1077,1076,1082,1081,1089,1088,1094,1093]
noncomputable def part(h:Heap):List Addr→Frag
 | []=>[]
 | a::r=>match h.get? a with
  | some o=>(a,o)::part h r
  | none=>part h r
noncomputable def tF(h:Heap):Frag:=part h addrs
theorem IZ(h:Heap):∀l:List Addr,(part h l).In h
 | [],_,_,e=>du e
 | a::r,b,o,e=>by
  dsimp only[part]at e
  generalize q:h.get? a=zq;induction zq with
  | none=>rw[q]at e;exact IZ h r b o e
  | some x =>
   rw[q]at e
   dsimp only at e
   rw[adA]at e
   generalize z:(b == a)=zq;induction zq with
   | true=>rw[z]at e;rw[beq_iff_eq.mp z];rw[q];exact e
   | false=>rw[z]at e;exact IZ h r b o e
noncomputable def SH:Value→Option Addr
 | .ref a=>some a
 | _=>none
noncomputable def isI(i:Int):Value→Bool
 | .int j _=>i == j
 | _=>false
noncomputable def isS(x:Str):Value→Bool
 | .str y _=>x == y
 | _=>false
noncomputable def all2{α β:Type}(f:α→β→Bool):List α→List β→Bool
 | [],[]=>true
 | a::l,b::m=>f a b&&all2 f l m
 | _,_=>false
noncomputable def aaB:Option Obj→Option (List Value)
 | some ⟨c,_,.seq vs _,_⟩=>bif c == .type "tuple" then some vs.toList else none
 | _=>none
noncomputable def fnD:Option Obj→Option FuncData
 | some ⟨_,_,.func fd,_⟩=>some fd
 | _=>none
noncomputable def abt:Option Obj→Option (List ac1)
 | some ⟨c,none,.dict es _,⟨[]⟩⟩=>bif c == .type "dict" then some es.toList else none
 | _=>none
section
variable(K:Frag)
noncomputable def yT(x:Str):Option Addr:=(nsIn K adk x).bind fun o=>o.bind SH
noncomputable def Z7(c m:Str):Option Addr:=(yT K c).bind fun C=>(findIn K (.ref C) m).bind fun o=>o.bind SH
noncomputable def UE:List (Str×(Str×Str)):=[(S "TypeTable.put",(S "TypeTable",S "put")),(S "Rel.ask",(S "Rel",S "ask")),(S "Rel.same",(S "Rel",S "same")),(S "Rel.mark",(S "Rel",S "mark")),(S "Rel.back",(S "Rel",S "back")),(S "Thin.force",(S "BoundHost",S "force")),(S "BoundHost.shape",(S "BoundHost",S "shape")),(S "RelateMeetRule.holds",(S "RelateMeetRule",S "holds")),(S "ParamRule.holds",(S "ParamRule",S "holds")),
 (S "TypeTable.__init__",(S "TypeTable",S "__init__")),(S "Rel.__init__",(S "Rel",S "__init__")),(S "Notes.__init__",(S "Notes",S "__init__")),(S "Thin.__init__",(S "BoundHost",S "__init__"))]
noncomputable def Xj(k:Str):Option Addr:=bif (look k iV).isSome then yT K k else(look k UE).bind fun p=>Z7 K p.1 p.2
noncomputable def W4(c:Str):Option Addr:=bif (look c om).isSome then yT K c else none
noncomputable def yR:Addr:=(yT K (S "KEY_FAMILIES")).getD 0
noncomputable def vrB(fT:Addr):Nat→PV→Value→Bool
 | 0=>fun zz zz=>false
 | n+1=>fun p v=>match p with
  | .int i=>isI i v
  | .str x=>isS x v
  | .ref k=>ael k 0&&(SH v).any (ael fT)
  | .tup l=>(SH v).any fun a=>(aaB (K.lookup a)).any (all2 (vrB fT n) l)
  | _=>false
noncomputable def ad1(f:Addr):Bool:=typeIn K (.ref f) == some (.type "function")
noncomputable def Z3(C:Addr)(m k:Str):Bool:=(Xj K k).any fun f=>findIn K (.ref C) m == some (some (.ref f))&&ad1 K f
noncomputable def aet(C:Addr):Option Str→Bool
 | some k=>Z3 K C "__init__" k
 | none=>findIn K (.ref C) "__init__" == some (some (.builtin "object.__init__"))
noncomputable def abk(c:Str)(i:Option Str):Bool:=(yT K c).any fun C=>(clsIn K C).any (·.hasDict)&&(findIn K (.ref C) "__getattribute__" == some (some (.builtin "object.__getattribute__"))&&(findIn K (.ref C) "__getattr__" == some none&&(findIn K (.ref C) "__setattr__" == some (some (.builtin "object.__setattr__")) &&
  (plainOver K C&&(fields.all (fun a=>findIn K (.ref C) a == some none)&&(((look c QH).getD []).all (fun p=>Z3 K C p.1 p.2)&&(makesIn K C&&(keepIn K (.ref C)&&aet K C i))))))))
noncomputable def UU(a:Arguments):Bool:=a.posonlyargs.isEmpty&&(a.vararg.isNone&&(a.kwonlyargs.isEmpty&&a.kwarg.isNone))
noncomputable def adS(v:Value):Bool:=v == .none || (SH v).any fun T=>(aaB (K.lookup T)).isSome
noncomputable abbrev Seen:=Bool×FuncBody×Scope×List Str
noncomputable def HW(o:Option Addr):Option Seen:=o.bind fun f=>(fnD (K.lookup f)).map fun fd=>(ael fd.globals adk&&(ael fd.builtins builtinsNs&&(fd.closure.isEmpty&&(codeIn K fd.code fd.qualname&&(UU fd.params&&adS K fd.defaults)))),fd.body,fd.scope,fd.params.args.map (·.arg))
noncomputable def H5(r:la):Seen:=(true,.stmts r.body,r.scope,r.params)
noncomputable def IX:List Str→Bool
 | []=>true
 | a::r=>!(r.any (qM a))&&IX r
noncomputable def fnB(r:la):Bool:=!r.scope.isCoroutine&&(!r.scope.isGenerator&&(r.scope.kind == .function&&(r.params.all (fun x=>look x r.scope.names == some .local || look x r.scope.names == some .cell)&&(IX r.params&&(IX (r.scope.names.map (·.1))&&r.scope.names.all (fun p=>!(p.1 == ("__debug__" : Str))&&(p.2 == .local || (p.2 == .cell || p.2 == .globalImplicit))))))))
noncomputable def abA:List (Int×Int):=[(3,6),(4,5),(5,4),(6,1),(7,2),(10,7)]
noncomputable def ZD(p:Int×Int)(e:ac1):Bool:=isI p.1 e.key&&(isI p.2 e.val&&e.hash == hashInt p.1)
noncomputable def aay:Bool:=Ua.all (fun p=>(nsIn K adk p.1).any fun o=>o.any (vrB K (yR K) 5 p.2))&&(om.all (fun p=>abk K p.1 p.2)&&(Bq.all (fun p=>nsIn K adk p.1 == some none)&&(nsIn K adk (S "range") == some none&&((K.lookup aef).isSome&&(!(ael (yR K) aef)&&(abt (K.lookup (yR K))).any (all2 ZD abA))))))
noncomputable def HX:Bool×List (Option Seen)×List (Option Seen):=(aay K,iV.map (fun p=>HW K (yT K p.1)),UE.map fun p=>HW K (Z7 K p.2.1 p.2.2))
end
noncomputable def E3:Bool×List (Option Seen)×List (Option Seen):=(true,iV.map (fun p=>some (H5 p.2)),UE.map fun p=>(look p.1 vC).map H5)
end
noncomputable abbrev yV:OpenLaw:=PySem.Challenge.rw_sa0406_01
noncomputable abbrev pw:afR:=PySem.Challenge.pw_sa0406_01
noncomputable def Cb:afR:={ pw with main:={ pw.main with body:=pw.main.body.drop 193 } }
noncomputable def Oy:List Str:=pw.boundNames.filter fun n=>!(n == ("law" : Str))
noncomputable def Yf(s:Shared):=HX (tF s.heap)
noncomputable def Ya(_:PySem.World):=E3
end Mine.Sim
namespace Mine.Sim
open PySem PySem.W PySem.Calls PyProof.Rows
theorem aI{a b:Bool}(h:a=true)(g:b=true):(a&&b)=true:=by rw[h,g];rfl
set_option maxHeartbeats 0 in
theorem ws:yV.wellSaid=true:=(congrFun PySem.W.Fast.te9446332074065402090 yV).trans (by
 unfold PySem.W.Fast.tw9446332074065402090
 repeat' with_reducible apply aI
 all_goals decide +kernel)
end Mine.Sim
namespace Mine.Sim
open PySem PySem.W PySem.Calls PyProof.Rows
noncomputable def goT(st:SharedT→Thread→Option (SharedT×Thread))(ok:Thread→Bool):Nat→SharedT→Thread→Option SharedT
 | 0,_,_=>none
 | n+1,s,t=>match through t with
  | true=>some s
  | false=>match ok t with
   | false=>none
   | true=>match st s t with
    | some (s',t')=>goT st ok n s' t'
    | none=>none
theorem Li{tb:String→Option adx}{p:afR}{w:PySem.World}{aac:Nat}{ann:Option Value}:∀{n:Nat} {s s':SharedT} {t:Thread},goT (stepT (denote tb) p w) (stepOk aac ann) n s t=some s'→topRun tb p w aac ann n s.abs t=some s'.abs
 | 0,_,_,_,h=>by exact du h
 | n+1,s,s',t,h=>by
  unfold goT at h
  unfold topRun
  generalize ht:through t=zq;induction zq with
  | true=>rw[ht]at h;replace h:=zI h;subst h;rfl
  | false =>
   rw[ht]at h
   generalize hk:stepOk aac ann t=zq;induction zq with
   | false=>rw[hk]at h;exact du h
   | true =>
    rw[hk]at h
    generalize hs:stepT (denote tb) p w s t=zq;induction zq with
    | none=>rw[hs]at h;exact du h
    | some r=>obtain⟨AU,ahD⟩:=r;rw[hs]at h;rw[stepT_spec hs];exact Li h
noncomputable def Tx(P:Params):PySem.W.BT:=((((((((((PySem.W.BT.nil.ins 0 (boot_o_0 P)).ins 1 (boot_o_1 P)).ins 2 (boot_o_2 P)).ins 3 (boot_o_3 P)).ins 4 (boot_o_4 P)).ins 5 (boot_o_5 P)).ins 6 (boot_o_6 P)).ins 7 (boot_o_7 P)).ins 8 (boot_o_8 P)).ins 9 (boot_o_9 P)).ins 10 (boot_o_10 P)
theorem boot_abs(P:Params):absHeap (Tx P) 11 (boot_heap P).life=boot_heap P:=by kernel_rfl!
noncomputable def S0(w:PySem.World)(os:agk):SharedT:=⟨Tx w.params,11,(boot_heap w.params).life,#[],boot_drawn,boot_toks,os⟩
theorem RZ{p q:afR}{loose:List Str}{Xt:Shared→Bool}{α:Type}{Yf:Shared→α}{Ya:PySem.World→α}{N M:Nat}{ann:Option Value}
  (e:opening p=plainProg p.main.scope.names) (hN:afh 600 N=true) (f:∀s,fenceModules? p s=some s)
  (size:∀w:PySem.World,((boot_heap w.params).isNs adk&&(#[]:Array GenState).size == 0,(boot_heap w.params).objs.size,(boot_heap w.params).nsMap adk "__annotations__")=(true,11,ann))
  (le:afh M N=true)
  (once:∀(w:PySem.World) (os:agk),(goT (stepT (denote treeTable) p w) (stepOk 11 ann) M (S0 w os) (topStub p)).map (fun s =>
    ((staticsOk (afm p.main.body) (boot_heap w.params) s.abs.heap&&namesBound p s.abs.heap&&gensDone s.abs&&laidKept (boot_heap w.params) s.abs.heap),openSeen q loose (afm p.main.body) Xt true s.abs,Yf s.abs))=some (true,openGood q loose,Ya w)) :
  LeftO p q loose Xt Yf Ya N:=fun w=>by
 obtain⟨⟨h,gs,d,k,os⟩,e,e'⟩:=aem.mp (boot_open (N:=N) e hN f w)
 obtain⟨rfl,rfl,rfl,rfl⟩:h=boot_heap w.params∧gs=Array.mk []∧d=boot_drawn∧k=boot_toks:=by simpa using e'
 obtain⟨z1,z2,z3⟩:_∧_∧_:=by simpa only[Prod.mk.injEq]using size w
 obtain⟨dm,h1,h2⟩:=aem.mp (once w os)
 obtain⟨l1,l2,l3⟩:_∧_∧_:=by simpa only[Prod.mk.injEq]using h2
 have r:=topRun_mono (N-M) _ _ _ _ (Li h1)
 rw[Nat.add_sub_of_le (acT le)]at r
 have a0:(S0 w os).abs=⟨boot_heap w.params,Array.mk [],boot_drawn,boot_toks,os⟩:=by
  show(⟨absHeap (Tx w.params) 11 (boot_heap w.params).life,_,_,_,_⟩:Shared)=_
  rw[boot_abs]
  rfl
 rw[a0]at r
 have t:topFrom treeTable p w N ⟨boot_heap w.params,Array.mk [],boot_drawn,boot_toks,os⟩=some dm.abs:=by
  unfold topFrom
  dsimp only
  rw[z1];rw[z2];rw[z3];rw[r]
  show(match staticsOk (afm p.main.body) (boot_heap w.params) dm.abs.heap&&namesBound p dm.abs.heap&&gensDone dm.abs&&laidKept (boot_heap w.params) dm.abs.heap with | true=>_ | false=>_)=_
  rw[l1];rfl
 unfold openEnds
 rw[e]
 show(topFrom treeTable p w N _).map _=_
 rw[t]
 exact congrArg some (Prod.ext l2 l3)
end Mine.Sim
namespace Mine.Sim
open PySem PySem.W PySem.Calls PyProof.Rows
noncomputable def Nt(w:PySem.World)(os:agk):Option SharedT:=goT (PySem.W.Fast.tw10156331382660048174 (PySem.W.Fast.tw11892475500146522536 PySem.W.Fast.tw14364793385576792824) pw w) (PySem.W.Fast.tw6613529449190102663 11 (some (.ref 6))) 8000 (S0 w os) (topStub pw)
theorem Yc(w:PySem.World)(os:agk):goT (stepT (denote treeTable) pw w) (stepOk 11 (some (.ref 6))) 8000 (S0 w os) (topStub pw)=Nt w os:=by
 unfold Nt
 rw[← PySem.W.Fast.te10156331382660048174,← PySem.W.Fast.te11892475500146522536,← PySem.W.Fast.te14364793385576792824,← PySem.W.Fast.te6613529449190102663]
noncomputable def aq(w:PySem.World)(s:SharedT):Bool:=staticsOk (afm pw.main.body) (boot_heap w.params) s.abs.heap&&namesBound pw s.abs.heap&&gensDone s.abs&&laidKept (boot_heap w.params) s.abs.heap
noncomputable abbrev wf(w:PySem.World)(b:Bool):PySem.World:=w.withFollow "special-get-raises" b
noncomputable def V7(w:PySem.World)(s:SharedT):=(aq w s,PySem.W.Fast.tw4187177175401517315 Cb Oy (afm pw.main.body) (fun zz=>true) true s.abs)
noncomputable def HG(t:PySem.W.BT)(n:Nat)(life:Life):List Addr→Frag
 | []=>[]
 | a::r=>match afh (a+1) n with
  | true=>(match t.get a with
   | some o=>(match alive o with
    | some o=>(a,o)::HG t n life r
    | none=>HG t n life r)
   | none=>part (absHeap t n life) (a::r))
  | false=>HG t n life r
theorem I0(t:PySem.W.BT)(n:Nat)(life:Life):∀l:List Addr,part (absHeap t n life) l=HG t n life l
 | []=>rfl
 | a::r=>by
  unfold HG
  generalize h:afh (a+1) n=zq;induction zq with
  | true =>
   generalize g:t.get a=zq;induction zq with
   | none=>rfl
   | some o =>
    dsimp only[part]
    rw[abs_get (acT h) g];rw[I0 t n life r]
    try rfl
  | false =>
   dsimp only[part]
   rewrite[abs_get_none fun q=>abS (h.symm.trans (ad6 q))];rw[I0 t n life r];rfl
noncomputable def Nw(s:SharedT):=HX (HG s.tree s.n s.life addrs)
theorem V8(s:SharedT):Nw s=Yf s.abs:=congrArg HX (I0 s.tree s.n s.life addrs).symm
end Mine.Sim
namespace Mine.Sim
open PySem PySem.W PySem.Calls PyProof.Rows
theorem XO(w:PySem.World)(os:agk):(Nt (wf w false) os).map (V7 (wf w false))=some (true,openGood Cb Oy):=by kernel_rfl
end Mine.Sim
namespace Mine.Sim
open PySem PySem.W PySem.Calls PyProof.Rows
theorem XQ(w:PySem.World)(os:agk):(Nt (wf w true) os).map (V7 (wf w true))=some (true,openGood Cb Oy):=by kernel_rfl
end Mine.Sim
namespace Mine.Sim
open PySem PySem.W PySem.Calls PyProof.Rows
theorem XR(w:PySem.World)(os:agk):(Nt (wf w false) os).map Nw=some E3:=by kernel_rfl
end Mine.Sim
namespace Mine.Sim
open PySem PySem.W PySem.Calls PyProof.Rows
theorem XS(w:PySem.World)(os:agk):(Nt (wf w true) os).map Nw=some E3:=by kernel_rfl
end Mine.Sim
namespace Mine
open PySem
theorem rI.el{P:Nat→PV→Prop}(i:∀n i,P n (.int i))(s:∀n x,P n (.str x))(t:∀n l,(∀p∈l,rI n p=true)→P (n+1) (.tup l)):∀{n:Nat} {p:PV},rI n p=true→P n p
 | n,.int a,_=>i n a
 | n,.str a,_=>s n a
 | n+1,.tup l,h=>t n l fun p hp=>adM.mp h p hp
 | 0,.tup _,h=>fS h
 | 0,.none,h=>fS h
 | _+1,.none,h=>fS h
 | 0,.bool _,h=>fS h
 | _+1,.bool _,h=>fS h
 | 0,.ref _,h=>fS h
 | _+1,.ref _,h=>fS h
theorem LW:∀{l m:List PV},(∀p∈l,∀q,gw p q=true↔p=q)→(qe l m=true↔l=m)
 | [],[],_=>iff_of_true rfl rfl
 | [],_::_,_=>iff_of_false (fun z=>fS z) (fun z=>zC ac2 z rfl)
 | _::_,[],_=>iff_of_false (fun z=>fS z) (fun z=>zC ac2 z rfl)
 | a::r,b::t,h=>(ade ..).to_iff.trans<|(and_congr (h a (.head _) b) (LW fun p hp=>h p (.tail _ hp))).trans agh.symm
theorem aaf(i:Int):∀q:PV,gw (.int i) q=true↔.int i=q
 | .int _=>beq_iff_eq.trans ⟨congrArg _,fun h=>PV.int.inj h⟩
 | .none | .bool _ | .str _ | .tup _ | .ref _=>⟨fun e=>absurd (show false=true from e) abS,(fun z=>zC PV.ctorIdx z rfl)⟩
theorem aag(i:Str):∀q:PV,gw (.str i) q=true↔.str i=q
 | .str _=>beq_iff_eq.trans ⟨congrArg _,fun h=>PV.str.inj h⟩
 | .none | .bool _ | .int _ | .tup _ | .ref _=>⟨fun e=>absurd (show false=true from e) abS,(fun z=>zC PV.ctorIdx z rfl)⟩
theorem aci{l:List PV}(hl:∀p∈l,∀q,gw p q=true↔p=q):∀q:PV,gw (.tup l) q=true↔.tup l=q
 | .tup _=>(LW hl).trans ⟨congrArg _,fun h=>PV.tup.inj h⟩
 | .none | .bool _ | .int _ | .str _ | .ref _=>⟨fun e=>absurd (show false=true from e) abS,(fun z=>zC PV.ctorIdx z rfl)⟩
theorem lX:∀(n:Nat) (p q:PV),rI n p=true→(gw p q=true↔p=q)
 | 0,p,q,h=>rI.el (P:=fun n p=>n=0→(gw p q=true↔p=q)) (fun zz i zz=>aaf i q) (fun zz i zz=>aag i q) (fun zz zz zz e=>zC id e rfl) h rfl
 | k+1,p,q,h=>rI.el (P:=fun n p=>n=k+1→(gw p q=true↔p=q)) (fun zz i zz=>aaf i q) (fun zz i zz=>aag i q) (fun n l hl e=>aci (fun p hp q=>lX k p q (aeO e▸hl p hp)) q) h rfl
end Mine
namespace Mine.Sim
open PySem PySem.W PyProof.Rows PySem.Calls
theorem Qi:∀a b:List Nat,TS a b=true↔a=b
 | [],[]=>iff_of_true rfl rfl
 | [],_::_=>iff_of_false (fun z=>fS z) (fun z=>zC ac2 z rfl)
 | _::_,[]=>iff_of_false (fun z=>fS z) (fun z=>zC ac2 z rfl)
 | a::r,b::t=>by
  dsimp only[TS]
  generalize h:ael a b=zq;induction zq with
  | true=>exact(Qi r t).trans ⟨fun e=>by rw[e];rw[abX h];rfl,fun e=>(afH e).2⟩
  | false=>exact iff_of_false (fun z=>fS z) fun e=>afk h (afH e).1
theorem gg(a b:Str):qM a b=true↔a=b :=
 (Qi _ _).trans ⟨fun h=>by cases a;cases b;exact congrArg Str.mk (Array.ext' h),fun h=>by rw[h];rfl⟩
theorem sY(a:Str):qM a a=true:=(gg a a).mpr rfl
theorem ZE{a b:Str}(h:a≠b):qM a b=false:=ado.mpr fun q=>h ((gg a b).mp q)
theorem A0(a b:Str):qM a b=(a == b):=acr.mpr ((gg a b).trans beq_iff_eq.symm)
theorem oD{α:Type}(x:Str):∀l:List (Str×α),look x l=l.lookup x
 | []=>rfl
 | (y,v)::r=>by
  dsimp only[look]
  rw[adA];rw[A0]
  cases (x == y)with
  | true=>rfl
  | false=>exact oD x r
theorem Op{α:Type}{x:Str}:∀{l:List (Str×α)} {v:α},look x l=some v→l[idx x l]?=some (x,v)
 | [],_=>fun h=>du h
 | (y,w)::r,v=>by
  dsimp only[look,idx]
  generalize q:qM x y=zq;induction zq with
  | true=>exact fun h=>by rw[(gg x y).mp q];rewrite[← aa0 h];rfl
  | false=>exact fun h=>Op (l:=r) h
theorem tB{α:Type}{x y:Str}{l:List (Str×α)}{v w:α}(hx:look x l=some v)(hy:look y l=some w)(e:idx x l=idx y l):x=y:=(afv (aa0 ((Op hx).symm.trans (e▸Op hy)))).1
noncomputable def ay{α β:Type}(R:α→β→Prop):List α→List β→Prop
 | [],[]=>True
 | a::l,b::m=>R a b∧ay R l m
 | [],_::_=>False
 | _::_,[]=>False
section
variable{α β:Type}{R S:α→β→Prop}
theorem ay.el{P:List α→List β→Prop}(nil:P [] [])(cons:∀a b l m,R a b→ay R l m→P l m→P (a::l) (b::m)):∀{l:List α} {m:List β},ay R l m→P l m
 | [],[],_=>nil
 | a::l,b::m,h=>cons a b l m h.1 h.2 (ay.el nil cons h.2)
 | [],_::_,h=>h.elim
 | _::_,[],h=>h.elim
theorem ay.ind{P:List α→List β→Prop}{l:List α}{m:List β}(h:ay R l m)(nil:P [] [])(cons:∀a b l m,R a b→ay R l m→P l m→P (a::l) (b::m)):P l m:=ay.el nil cons h
theorem ay.len{l:List α}{m:List β}(h:ay R l m):m.length=l.length:=h.ind (P:=fun l m=>m.length=l.length) rfl fun zz zz zz zz zz zz h=>congrArg (·+1) h
theorem ay.get{l:List α}{m:List β}{a:α}(h:ay R l m):∀{i:Nat},l[i]?=some a→∃b,m[i]?=some b∧R a b :=
 h.ind (P:=fun l m=>∀{i:Nat},l[i]?=some a→∃b,m[i]?=some b∧R a b) (fun h=>du h) fun c b l m r zz ih=>fun{i}=>by
  induction i with
  | zero=>exact fun e=>⟨b,rfl,aa0 e▸r⟩
  | succ zz=>exact fun e=>ih e
theorem ay.mem{l:List α}{m:List β}{b:β}(h:ay R l m):b∈m→∃a∈l,R a b :=
 h.ind (P:=fun l m=>b∈m→∃a∈l,R a b) (fun h=>zM h) fun c b' l m r zz ih z=>(aa2.mp z).elim (fun e=>⟨c,.head _,e▸r⟩) fun z=>(ih z).imp fun zz w=>⟨.tail _ w.1,w.2⟩
theorem ay.get'{l:List α}{m:List β}{b:β}(h:ay R l m):∀{i:Nat},m[i]?=some b→∃a,l[i]?=some a∧R a b :=
 h.ind (P:=fun l m=>∀{i:Nat},m[i]?=some b→∃a,l[i]?=some a∧R a b) (fun h=>du h) fun a c l m r zz ih=>fun{i}=>by
  induction i with
  | zero=>exact fun e=>⟨a,rfl,aa0 e▸r⟩
  | succ zz=>exact fun e=>ih e
theorem ay.oE{l:List α}{m:List β}{a:α}(h:ay R l m):a∈l→∃b∈m,R a b :=
 h.ind (P:=fun l m=>a∈l→∃b∈m,R a b) (fun h=>zM h) fun zz c l m r zz ih z=>(aa2.mp z).elim (fun e=>⟨c,.head _,e▸r⟩) fun z=>(ih z).imp fun zz w=>⟨.tail _ w.1,w.2⟩
theorem ay.imp(f:∀a b,R a b→S a b){l:List α}{m:List β}(h:ay R l m):ay S l m:=h.ind (P:=fun l m=>ay S l m) trivial fun zz zz zz zz r zz ih=>⟨f _ _ r,ih⟩
theorem ay.append{l:List α}{m:List β}{l':List α}{m':List β}(h:ay R l m)(k:ay R l' m'):ay R (l++l') (m++m'):=h.ind (P:=fun l m=>ay R (l++l') (m++m')) k fun a b zz zz r zz ih=>(show R a b∧_ from⟨r,ih⟩)
theorem ay.reverse{l:List α}{m:List β}(h:ay R l m):ay R l.reverse m.reverse :=
 h.ind (P:=fun l m=>ay R l.reverse m.reverse) trivial fun a b l m r zz ih=>by rw[List.reverse_cons];rw[List.reverse_cons];exact ih.append ⟨r,trivial⟩
theorem ay.take{l:List α}{m:List β}(h:ay R l m):∀n,ay R (l.take n) (m.take n) :=
 h.ind (P:=fun l m=>∀n,ay R (l.take n) (m.take n)) (fun n=>by rw[List.take_nil];rw[List.take_nil];trivial) fun zz zz zz zz r zz ih n=>by
  induction n with
  | zero=>exact trivial
  | succ n=>exact⟨r,ih n⟩
theorem ay.modify{f:α→α}{g:β→β}(k:∀a b,R a b→R (f a) (g b)){l:List α}{m:List β}(h:ay R l m):∀n,ay R (l.modify n f) (m.modify n g) :=
 h.ind (P:=fun l m=>∀n,ay R (l.modify n f) (m.modify n g)) (fun n=>by rw[List.modify_nil];rw[List.modify_nil];trivial) fun zz zz zz zz r z ih n=>by
  induction n with
  | zero=>exact⟨k _ _ r,z⟩
  | succ n=>exact⟨r,ih n⟩
theorem ay.set{a:α}{b:β}(k:R a b){l:List α}{m:List β}(h:ay R l m):∀n,ay R (l.set n a) (m.set n b) :=
 h.ind (P:=fun l m=>∀n,ay R (l.set n a) (m.set n b)) (fun zz=>trivial) fun zz zz zz zz r z ih n=>by
  induction n with
  | zero=>exact⟨k,z⟩
  | succ n=>exact⟨r,ih n⟩
theorem ay.erase{l:List α}{m:List β}(h:ay R l m):∀n,ay R (l.eraseIdx n) (m.eraseIdx n) :=
 h.ind (P:=fun l m=>∀n,ay R (l.eraseIdx n) (m.eraseIdx n)) (fun zz=>trivial) fun zz zz zz zz r z ih n=>by
  induction n with
  | zero=>exact z
  | succ n=>exact⟨r,ih n⟩
theorem ay.idx{p:α→Bool}{q:β→Bool}{l:List α}{m:List β}(h:ay R l m):(∀a∈l,∀b,R a b→p a=q b)→l.findIdx? p=m.findIdx? q :=
 h.ind (P:=fun l m=>(∀a∈l,∀b,R a b→p a=q b)→l.findIdx? p=m.findIdx? q) (fun zz=>rfl) fun a b zz zz r zz ih k=>by
  rw[afG];rw[afG];rw[k a (.head _) b r,ih fun a h=>k a (.tail _ h)]
end
noncomputable abbrev Slot:=Addr×Addr
noncomputable def gm(as:List Slot)(b:Addr):Prop:=∃p∈as,b=p.1∨b=p.2
mutual
noncomputable def VR(h:Heap)(as:List Slot):PV→Value→Prop
 | .none,v=>v=.none
 | .bool b,v=>v=.bool b
 | .int i,v=>∃t,v=.int i t
 | .str s,v=>∃t,v=.str s t
 | .ref i,v=>∃p,as[i]?=some p∧v=.ref p.1
 | .tup l,v=>∃a vs,v=.ref a∧IsTup h a vs∧E7 h as l vs.toList
noncomputable def E7(h:Heap)(as:List Slot):List PV→List Value→Prop
 | [],[]=>True
 | p::r,v::t=>VR h as p v∧E7 h as r t
 | [],_::_=>False
 | _::_,[]=>False
end
theorem E7.all{h:Heap}{as:List Slot}:∀{l:List PV} {m:List Value},E7 h as l m=ay (VR h as) l m
 | [],[]=>rfl
 | [],_::_=>rfl
 | _::_,[]=>rfl
 | _::_,_::_=>congrArg (_∧·) E7.all
structure Goes(h:Heap)(as:List Slot)(h':Heap)(lg:List Slot):Prop where
 pre:as <+: lg
 tup:∀a vs,IsTup h a vs→IsTup h' a vs
theorem Goes.at{h h':Heap}{as lg:List Slot}(g:Goes h as h' lg){i:Nat}{p:Slot}(e:as[i]?=some p):lg[i]?=some p:=by
 obtain⟨t,rfl⟩:=g.pre
 rw[ac3 (aa9.mp e).1];exact e
section
variable{h:Heap}{as:List Slot}{P:PV→Value→Prop}
mutual
theorem VR.ind(none:P .none .none)(bool:∀b,P (.bool b) (.bool b))(int:∀i t,P (.int i) (.int i t))(str:∀x t,P (.str x) (.str x t))(ref:∀i p,as[i]?=some p→P (.ref i) (.ref p.1))
  (tup:∀l a vs,IsTup h a vs→E7 h as l vs.toList→ay P l vs.toList→P (.tup l) (.ref a)):∀{p:PV} {v:Value},VR h as p v→P p v
 | .none,_,e=>e▸none
 | .bool b,_,e=>e▸bool b
 | .int i,_,⟨t,e⟩=>e▸int i t
 | .str x,_,⟨t,e⟩=>e▸str x t
 | .ref i,_,⟨p,e,f⟩=>f▸ref i p e
 | .tup l,_,⟨a,vs,e,t,r⟩=>e▸tup l a vs t r (E7.ind none bool int str ref tup r)
theorem E7.ind(none:P .none .none)(bool:∀b,P (.bool b) (.bool b))(int:∀i t,P (.int i) (.int i t))(str:∀x t,P (.str x) (.str x t))(ref:∀i p,as[i]?=some p→P (.ref i) (.ref p.1))
  (tup:∀l a vs,IsTup h a vs→E7 h as l vs.toList→ay P l vs.toList→P (.tup l) (.ref a)):∀{l:List PV} {vs:List Value},E7 h as l vs→ay P l vs
 | [],[],_=>trivial
 | _::_,_::_,h=>⟨VR.ind none bool int str ref tup h.1,E7.ind none bool int str ref tup h.2⟩
end
theorem VR.go{h':Heap}{lg:List Slot}(g:Goes h as h' lg){p:PV}{v:Value}(x:VR h as p v):VR h' lg p v :=
 VR.ind (P:=VR h' lg) rfl (fun zz=>rfl) (fun zz t=>⟨t,rfl⟩) (fun zz t=>⟨t,rfl⟩) (fun zz p e=>⟨p,g.at e,rfl⟩) (fun zz a vs t zz r=>⟨a,vs,rfl,g.tup _ _ t,E7.all▸r⟩) x
end
theorem VR.pK{h h':Heap}{as lg:List Slot}(g:Goes h as h' lg){l:List PV}{vs:List Value}(x:ay (VR h as) l vs):ay (VR h' lg) l vs:=x.imp fun zz zz=>VR.go g
mutual
noncomputable def km(w:World):PV→Int
 | .int i=>hashInt i
 | .str x=>hashStr w x
 | .tup l=>reduceHash (adx.Tuple.tupleHashOf (lT w l))
 | .none=>0
 | .bool _=>0
 | .ref _=>0
noncomputable def lT(w:World):List PV→List Int
 | []=>[]
 | p::r=>km w p::lT w r
end
structure Wd where
 prog:afR
 w:World
 K:Frag
 hT:Heap
 sT:Shared
 P:Prg
 cls:Str→Option Addr
 fns:Str→Option Addr
 fT:Addr
noncomputable def eh(es:Array ac1)(n:Nat):Obj:={ cls:=.type "dict",data:=.dict es n }
noncomputable def ky(vs:Array Value)(n:Nat):Obj:={ cls:=.type "list",data:=.seq vs n }
section
variable(W:Wd)(h:Heap)(as:List Slot)
noncomputable def ER(p:PV×PV)(e:ac1):Prop:=VR h as p.1 e.key∧VR h as p.2 e.val∧e.hash=km W.w p.1
noncomputable def FR(p:Str×PV)(e:ac1):Prop:=(∃u,e.key=.str p.1 u)∧VR h as p.2 e.val
noncomputable def Keyed(l:List (PV×PV)):Prop:=(∀p∈l,fN p.1=true)∧(l.map (·.1)).Nodup
inductive LAt (p:Slot) (l:List PV):Prop
 | mk (vs:Array Value) (n:Nat) (lt:l.length<ax) (eq:p.2=p.1) (g:h.get? p.1=some (ky vs n)) (r:ay (VR h as) l vs.toList)
inductive DAt (p:Slot) (l:List (PV×PV)):Prop
 | mk (es:Array ac1) (n:Nat) (lt:l.length<ax) (eq:p.2=p.1) (k:Keyed l) (g:h.get? p.1=some (eh es n)) (r:ay (ER W h as) l es.toList)
inductive IAt (p:Slot) (c:Str) (fs:List (Str×PV)):Prop
 | mk (C:Addr) (es:Array ac1) (n:Nat) (lt:fs.length<ax) (hC:W.cls c=some C) (g1:h.get? p.1=some (instObj C p.2)) (g2:h.get? p.2=some (eh es n)) (r:ay (FR h as) fs es.toList)
noncomputable def nX(p:Slot):CO→Prop
 | .list l=>LAt h as p l
 | .dict l=>DAt W h as p l
 | .inst c fs=>IAt W h as p c fs
end
section
variable{W:Wd}{h h':Heap}{as lg:List Slot}{p:Slot}
theorem ER.go(g:Goes h as h' lg)(q:PV×PV)(e:ac1)(x:ER W h as q e):ER W h' lg q e:=⟨x.1.go g,x.2.1.go g,x.2.2⟩
theorem FR.go(g:Goes h as h' lg)(q:Str×PV)(e:ac1)(x:FR h as q e):FR h' lg q e:=⟨x.1,x.2.go g⟩
theorem nX.go{co:CO}(g:Goes h as h' lg)(h1:h'.get? p.1=h.get? p.1)(h2:h'.get? p.2=h.get? p.2)(x:nX W h as p co):nX W h' lg p co:=by
 induction co with
 | list zz=>induction x with | mk vs n z e a r=>exact .mk vs n z e (h1.trans a) (VR.pK g r)
 | dict zz=>induction x with | mk es n z e k a r=>exact .mk es n z e k (h1.trans a) (r.imp (ER.go g))
 | inst _ _=>induction x with | mk C es n z hC a b r=>exact .mk C es n z hC (h1.trans a) (h2.trans b) (r.imp (FR.go g))
noncomputable def Ky(h:Heap)(a:Addr):Prop:=∃o,h.get? a=some o∧o.cls≠.type "tuple"
theorem Ca{vs:Array Value}{n:Nat}:(ky vs n).cls≠.type "tuple":=fun e=>absurd (ag3 e) (by decide)
theorem B7{vs:Array ac1}{n:Nat}:(eh vs n).cls≠.type "tuple":=fun e=>absurd (ag3 e) (by decide)
theorem nX.has{co:CO}(x:nX W h as p co):Ky h p.1∧Ky h p.2:=by
 induction co with
 | list zz=>cases x with | mk vs n _ e g _=>exact e.symm▸⟨⟨_,g,Ca⟩,⟨_,g,Ca⟩⟩
 | dict zz=>cases x with | mk es n _ e _ g _=>exact e.symm▸⟨⟨_,g,B7⟩,⟨_,g,B7⟩⟩
 | inst _ _=>cases x with | mk C es n _ _ g g2 _=>exact⟨⟨_,g,fun e=>zC aa6 ((show Value.ref C=_ from e)) rfl⟩,⟨_,g2,B7⟩⟩
end
noncomputable def Dis(as:List Slot):Prop:=∀(i j:Nat) (p q:Slot),i≠j→as[i]?=some p→as[j]?=some q→∀x,(x=p.1∨x=p.2)→x≠q.1∧x≠q.2
structure Inv(W:Wd)(h:Heap)(as:List Slot)(H:CH):Prop where
 keep:W.hT.StaysIn h
 len:as.length=H.length
 rel:∀(i:Nat) (p:Slot) (co:CO),as[i]?=some p→H[i]?=some co→nX W h as p co
 ZA:Dis as
 two:2≤as.length
 zero:as[0]?=some (W.fT,W.fT)
 low:(W.hT.get? aef).isSome=true
 sys:¬gm as aef
 own:∀(i:Nat) (p:Slot),as[i]?=some p→(i<2∧p.2=p.1∧(W.hT.get? p.1).isSome=true)∨(2≤i∧W.hT.get? p.1=none∧W.hT.get? p.2=none)
noncomputable def St(W:Wd)(s:Shared):Prop:=s.os=W.sT.os∧s.gens=#[]
structure fc(F:Addr→Prop)(h:Heap)(as:List Slot)(h':Heap)(lg:List Slot):Prop extends Goes h as h' lg where
 keep:∀b o,h.get? b=some o→¬gm as b→¬F b→h'.get? b=some o
 live:∀b,(h.get? b).isSome=true→(h'.get? b).isSome=true
 fresh:∀b,gm lg b→gm as b∨h.get? b=none
noncomputable def gF:Addr→Prop:=fun zz=>False
theorem db{h:Heap}{b:Addr}{o:Obj}{P:Prop}(e:h.get? b=some o)(z:h.get? b=none):P:=du (z.symm.trans e)
section
variable{W:Wd}{F:Addr→Prop}{h h' h₀ oy rG:Heap}{as lg Qb sQ xS:List Slot}{H:CH}
theorem Goes.refl:Goes h as h as:=⟨abg _,fun zz zz x=>x⟩
theorem Goes.trans(x:Goes h as oy sQ)(y:Goes oy sQ rG xS):Goes h as rG xS:=⟨x.pre.trans y.pre,fun zz zz t=>y.tup _ _ (x.tup _ _ t)⟩
theorem fc.refl:fc F h as h as:=⟨Goes.refl,fun zz zz e zz zz=>e,fun zz x=>x,fun zz x=>.inl x⟩
theorem fc.no(x:fc F h as oy sQ){b:Addr}(e:oy.get? b=none):h.get? b=none:=abQ.mpr fun o q=>by
 have:=x.live b (by rw[q];rfl)
 rw[e]at this;exact fS this
theorem fc.Kp{G:Addr→Prop}(x:fc F h as oy sQ)(y:fc G oy sQ rG xS)(hG:∀b,G b→F b∨h.get? b=none):fc F h as rG xS :=
 ⟨x.toGoes.trans y.toGoes,fun b o e n f=>y.keep b o (x.keep b o e n f) (fun q=>(x.fresh b q).elim n (db e)) fun g=>(hG b g).elim f (db e),fun b hb=>y.live b (x.live b hb),fun b hb=>(y.fresh b hb).elim (x.fresh b) fun z=>.inr (x.no z)⟩
theorem fc.trans(x:fc F h as oy sQ)(y:fc F oy sQ rG xS):fc F h as rG xS:=x.Kp y fun zz=>.inl
theorem fc.PR(x:fc F h as oy sQ)(y:fc gF oy sQ rG xS):fc F h as rG xS:=x.Kp y fun zz f=>f.elim
theorem fz{i:Nat}{p:Slot}(e:as[i]?=some p){x:Addr}(hx:x=p.1∨x=p.2):gm as x:=⟨p,aea e,hx⟩
theorem Inv.at(I:Inv W h as H){i:Nat}{co:CO}(e:H[i]?=some co):∃p,as[i]?=some p∧nX W h as p co :=
 have hl:i<as.length:=I.len▸(aa9.mp e).1
 ⟨as[i],aa8 hl,I.rel i _ co (aa8 hl) e⟩
theorem Inv.has(I:Inv W h as H){b:Addr}:gm as b→Ky h b:=(by rintro⟨p,hp,e⟩;exact(by
 obtain⟨i,hi,rfl⟩:=ag7.mp hp
 have hl:i<H.length:=I.len▸hi
 have r:=(I.rel i as[i] H[i] (aa8 hi) (aa8 hl)).has
 rcases e with rfl | rfl
 ·exact r.1
 ·exact r.2))
theorem Inv.free(I:Inv W h as H){b:Addr}(e:h.get? b=none):¬gm as b:=fun x=>(by obtain⟨zz,ho,zz⟩:=I.has x;exact db ho e)
theorem Inv.top(I:Inv W h as H){b:Addr}(e:h.get? b=none):W.hT.get? b=none:=abQ.mpr fun o q=>db (I.keep b o q) e
theorem Inv.aab(I:Inv W h as H){a:Addr}{vs:Array Value}:IsTup h a vs→¬gm as a:=(by rintro⟨_,Hx,hc,_⟩ q;exact(by
 obtain⟨o,ho,hn⟩:=I.has q
 rw[ho]at Hx
 exact hn (aa0 Hx▸hc)))
structure Kept(W:Wd)(F:Addr→Prop)(h:Heap)(as:List Slot)(h':Heap):Prop where
 keep:∀b o,h.get? b=some o→¬F b→h'.get? b=some o
 off:∀b,F b→¬gm as b∧W.hT.get? b=none
 tup:∀a vs,IsTup h a vs→IsTup h' a vs
theorem Kept.go(k:Kept W F h as h'):Goes h as h' as:=⟨abg _,k.tup⟩
theorem Kept.fO{G:Addr→Prop}(k:Kept W F h as h')(x:fc G h₀ Qb h as)(hF:∀b,F b→h₀.get? b=Option.none):fc G h₀ Qb h' as :=
 ⟨x.toGoes.trans k.go,fun b o e n f=>k.keep b o (x.keep b o e n f) fun g=>db e (hF b g),fun b hb=>by
  obtain⟨o,ho⟩:=acW.mp (x.live b hb)
  rewrite[k.keep b o ho fun g=>by rw[hF b g]at hb;exact fS hb];rfl,x.fresh⟩
theorem Kept.inv(k:Kept W F h as h')(I:Inv W h as H):Inv W h' as H :=
 have same:∀b,gm as b→h'.get? b=h.get? b:=fun b ob=>by
  obtain⟨o,ho,zz⟩:=I.has ob
  rw[ho];rewrite[k.keep b o ho fun f=>(k.off b f).1 ob];rfl
 ⟨fun b o e=>k.keep b o (I.keep b o e) fun f=>db e (k.off b f).2,I.len,fun i p co e1 e2=>(I.rel i p co e1 e2).go k.go (same _ (fz e1 (.inl rfl))) (same _ (fz e1 (.inr rfl))),I.ZA,I.two,I.zero,I.low,I.sys,I.own⟩
theorem Kept.grow(hk:∀b o,h.get? b=some o→h'.get? b=some o):Kept W gF h as h' :=
 ⟨fun b o e zz=>hk b o e,fun zz f=>f.elim,(by rintro _ _ ⟨o,ho,r⟩;exact⟨o,hk _ _ ho,r⟩)⟩
theorem Kept.ext{it:Addr}(hi:¬gm as it)(ht:W.hT.get? it=none)(hn:Ky h it)(hk:afD it h h'):Kept W (fun b=>b=it) h as h' :=
 ⟨fun b o e n=>hk b o n e,fun zz e=>e▸⟨hi,ht⟩,(by rintro a vs ⟨o',Hx,hc,r⟩;exact⟨o',hk a o' (fun e=>by subst e;obtain⟨o,ho,n⟩:=hn;rw[ho]at Hx;exact n (aa0 Hx▸hc)) Hx,hc,r⟩)⟩
theorem gO:h.get? h.objs.size=none:=abQ.mpr fun zz e=>aeM _ (ad0 e)
theorem kH{α:Type}{l:List α}{x y:α}{i:Nat}(e:(l++[x])[i]?=some y):l[i]?=some y∨(i=l.length∧y=x):=by
 by_cases h:i<l.length
 ·rw[ac3 h]at e;exact .inl e
 ·rw[abE (aep.mp h)]at e
  have hi:i-l.length=0:=Nat.lt_one_iff.mp (aa9.mp e).1
  rw[hi]at e
  exact .inr ⟨agz (Nat.sub_eq_zero_iff_le.mp hi) (aep.mp h),(aa0 e).symm⟩
theorem QC{α:Type}(l:List α)(x:α):(l++[x])[l.length]?=some x:=by rw[abE (aaX _)];rw[ads];rfl
theorem Inv.more(I:Inv W h as H){p:Slot}{co:CO}(r:nX W h (as++[p]) p co)(n:∀x,(x=p.1∨x=p.2)→¬gm as x∧W.hT.get? x=none):Inv W h (as++[p]) (H++[co]) :=
 have own:∀x,gm (as++[p]) x→gm as x∨x=p.1∨x=p.2:=(by rintro x ⟨q,hq,e⟩;exact(aa7.mp hq).imp (fun hq=>⟨q,hq,e⟩) fun hq=>by rewrite[← aad.mp hq];exact e)
 ⟨I.keep,by rw[aaA];rw[aaA];rw[I.len];rfl,fun i q c e1 e2=>(kH e1).elim (fun e1=>(kH e2).elim (fun e2=>(I.rel i q c e1 e2).go ⟨abY ..,fun zz zz x=>x⟩ rfl rfl) fun e2=>absurd (aa9.mp e1).1 (by rw[e2.1];rw[I.len];exact aeM _))
   fun e1=>(kH e2).elim (fun e2=>absurd (aa9.mp e2).1 (by rw[e1.1];rw[I.len];exact aeM _)) fun e2=>by rw[e1.2];rw[e2.2];exact r,
  fun i j q q' ZN e1 e2 x hx=>(kH e1).elim
   (fun e1=>(kH e2).elim (fun e2=>I.ZA i j q q' ZN e1 e2 x hx) fun e2=>e2.2▸⟨fun e=>(n x (.inl e)).1 (fz e1 hx),fun e=>(n x (.inr e)).1 (fz e1 hx)⟩)
   fun e1=>(kH e2).elim (fun e2=>⟨fun e=>(n x (e1.2▸hx)).1 (fz e2 (.inl e)),fun e=>(n x (e1.2▸hx)).1 (fz e2 (.inr e))⟩) fun e2=>absurd (e1.1.trans e2.1.symm) ZN,
  by rw[aaA];exact acX I.two,by rewrite[ac3 (afg (by decide) I.two)];exact I.zero,I.low,fun hb=>(own _ hb).elim I.sys (fun e=>by have:=I.low;rw[(n _ e).2]at this;exact fS this),
  fun i q e=>(kH e).elim (I.own i q) fun e=>.inr ⟨e.1▸I.two,e.2▸(n _ (.inl rfl)).2,e.2▸(n _ (.inr rfl)).2⟩⟩
theorem fc.more(x:fc F h₀ Qb h as){p:Slot}(n:∀x,(x=p.1∨x=p.2)→h₀.get? x=Option.none):fc F h₀ Qb h (as++[p]) :=
 ⟨⟨x.pre.trans (abY ..),x.tup⟩,x.keep,x.live,(by rintro b ⟨q,hq,e⟩;exact(aa7.mp hq).elim (fun hq=>x.fresh b ⟨q,hq,e⟩) fun hq=>.inr (n b (by rewrite[← aad.mp hq];exact e)))⟩
structure S6(as:List Slot)(H:CH)(h h':Heap)(i:Nat)(p:Slot)(x:Addr)(co:CO):Prop where
 at':as[i]?=some p
 up:2≤i
 of:x=p.1∨x=p.2
 co:H[i]?=some co
 but:adO x h h'
 live:(h'.get? x).isSome=true
theorem S6.go{i:Nat}{p:Slot}{x:Addr}{co:CO}(c:S6 as H h h' i p x co)(I:Inv W h as H):Goes h as h' as :=
 ⟨abg _,(by rintro a vs ⟨o',Hx,hc,r⟩;exact⟨o',(c.but.2 a (fun e=>by subst e;obtain⟨o,ho,n⟩:=I.has (fz c.at' c.of);rw[ho]at Hx;exact n (aa0 Hx▸hc))).trans Hx,hc,r⟩)⟩
theorem S6.fO{i:Nat}{p:Slot}{x:Addr}{co:CO}(c:S6 as H h h' i p x co)(I:Inv W h as H):fc gF h as h' as :=
 ⟨c.go I,fun b ob e n zz=>(c.but.2 b fun z=>n (z▸fz c.at' c.of)).trans e,fun b hb=>by by_cases e:b=x;(rw[e];exact c.live);(rewrite[c.but.2 b e];exact hb),fun zz y=>.inl y⟩
theorem S6.inv{i:Nat}{p:Slot}{x:Addr}{co Zw:CO}(c:S6 as H h h' i p x co)(I:Inv W h as H)(r:nX W h' as p Zw):Inv W h' as (H.set i Zw) :=
 have top:W.hT.get? x=none:=(I.own i p c.at').elim (fun z=>absurd z.1 (aep.mpr c.up)) fun z=>c.of.elim (fun e=>e▸z.2.1) fun e=>e▸z.2.2
 ⟨fun b ob e=>(c.but.2 b fun z=>db e (z▸top)).trans (I.keep b ob e),by rw[adj];exact I.len,fun j q d f1 f2=>by
  by_cases hj:i=j
  ·subst hj
   rw[afi (aa9.mp c.co).1]at f2
   rw[c.at']at f1
   rewrite[← aa0 f1,← aa0 f2]
   exact r
  ·rw[aeN hj]at f2
   have d:=I.ZA i j p q hj c.at' f1 x c.of
   exact(I.rel j q _ f1 f2).go (c.go I) (c.but.2 _ d.1.symm) (c.but.2 _ d.2.symm),I.ZA,I.two,I.zero,I.low,I.sys,I.own⟩
end
end Mine.Sim
namespace Mine.Sim
open PySem PySem.W PyProof.Rows PySem.Calls PySem.SeqAt
inductive WO (h:Heap) (R:PV→Value→Prop):PV→Value→Prop
 | int (i:Int) (t:Tok):WO h R (.int i) (.int i t)
 | str (x:Str) (t:Tok):WO h R (.str x) (.str x t)
 | tup {l:List PV} {a:Addr} {vs:Array Value} (t:IsTup h a vs) (r:ay R l vs.toList):WO h R (.tup l) (.ref a)
theorem WO.el{h:Heap}{R:PV→Value→Prop}{P:PV→Value→Prop}(int:∀i t,P (.int i) (.int i t))(str:∀x t,P (.str x) (.str x t))(tup:∀l a vs,IsTup h a vs→ay R l vs.toList→P (.tup l) (.ref a)){p:PV}{v:Value}(x:WO h R p v):P p v:=by
 induction x with
 | int i t=>exact int i t
 | str i t=>exact str i t
 | tup t r=>exact tup _ _ _ t r
noncomputable def KR(h:Heap):Nat→PV→Value→Prop
 | 0=>fun zz zz=>False
 | n+1=>WO h (KR h n)
theorem ay.QK{α β:Type}{R S:α→β→Prop}{l:List α}{m:List β}(h:ay R l m):(∀a∈l,∀b,R a b→S a b)→ay S l m :=
 h.ind (P:=fun l m=>(∀a∈l,∀b,R a b→S a b)→ay S l m) (fun zz=>trivial) fun zz zz zz zz r zz ih k=>⟨k _ (.head _) _ r,ih fun a h=>k a (.tail _ h)⟩
theorem ay.uniq{α β γ:Type}{R:α→β→Prop}{S:γ→β→Prop}{l:List α}{m:List β}(h:ay R l m):∀{k:List γ},ay S k m→ay (fun a c=>∃b,R a b∧S c b) l k :=
 h.ind (P:=fun l m=>∀{k:List γ},ay S k m→ay (fun a c=>∃b,R a b∧S c b) l k) (fun{k} h=>match k,h with | [],_=>trivial) fun a b _ _ r _ ih {k} z=>match k,z with | c::k,z=>⟨⟨b,r,z.1⟩,ih z.2⟩
theorem ay.eq{α:Type}{l m:List α}(h:ay (fun a b=>a=b) l m):l=m:=h.ind (P:=fun l m=>l=m) rfl fun zz zz zz zz r zz ih=>by rw[r];rw[ih];rfl
theorem E0{h:Heap}{a:Addr}{vs ws:Array Value}(x:IsTup h a vs)(y:IsTup h a ws):vs=ws:=by
 obtain⟨o,ho,zz,k,hd⟩:=x
 obtain⟨o',Hx,zz,k',hd'⟩:=y
 rw[ho]at Hx
 rw[← aa0 Hx,hd]at hd'
 exact(Data.seq.inj hd').1
section
variable{h:Heap}{as:List Slot}
theorem KR.ind{P:Nat→PV→Value→Prop}(int:∀n i t,P (n+1) (.int i) (.int i t))(str:∀n x t,P (n+1) (.str x) (.str x t))
  (tup:∀n l a vs,IsTup h a vs→ay (KR h n) l vs.toList→(∀p v,KR h n p v→P n p v)→P (n+1) (.tup l) (.ref a)):∀n {p:PV} {v:Value},KR h n p v→P n p v
 | 0,_,_,x=>x.elim
 | n+1,_,_,x=>WO.el (P:=P (n+1)) (int n) (str n) (fun l a vs t r=>tup n l a vs t r fun zz zz z=>KR.ind int str tup n z) x
theorem KR.of:∀n {p:PV},rI n p=true→∀{v:Value},VR h as p v→KR h (n+1) p v
 | 0,p,k=>rI.el (P:=fun n p=>n=0→∀{v:Value},VR h as p v→KR h 1 p v) ((by rintro _ i _ _ ⟨t,e⟩;exact e▸.int i t)) ((by rintro _ i _ _ ⟨t,e⟩;exact e▸.str i t)) (fun zz zz zz e=>zC id e rfl) k rfl
 | n+1,p,k=>rI.el (P:=fun m p=>m=n+1→∀{v:Value},VR h as p v→KR h (n+2) p v) ((by rintro _ i _ _ ⟨t,e⟩;exact e▸.int i t)) ((by rintro _ i _ _ ⟨t,e⟩;exact e▸.str i t))
   ((by rintro m l hl e _ ⟨a,vs,e1,t,r⟩;exact e1▸.tup t ((E7.all▸r:ay (VR h as) l vs.toList).QK fun p hp v x=>KR.of n (aeO e▸hl p hp) x))) k rfl
theorem KR.go{h':Heap}(g:∀a vs,IsTup h a vs→IsTup h' a vs):∀n {p:PV} {v:Value},KR h n p v→KR h' n p v
 | 0,_,_,x=>x
 | n+1,_,_,x=>WO.el (P:=WO h' (KR h' n)) .int .str (fun zz zz zz t r=>.tup (g _ _ t) (r.imp fun zz zz=>KR.go g n)) x
theorem KR.inj:∀n {p:PV} {v:Value},KR h n p v→∀{m:Nat} {q:PV},KR h m q v→p=q :=
 KR.ind (P:=fun zz p v=>∀{m:Nat} {q:PV},KR h m q v→p=q)
  (fun zz i t m zz y=>KR.ind (P:=fun zz q v=>v=.int i t→.int i=q) (fun zz zz zz e=>congrArg PV.int (ahj e).1.symm) (fun zz zz zz e=>zC aa6 e rfl) (fun zz zz zz zz zz zz zz e=>zC aa6 e rfl) m y rfl)
  (fun zz i t m zz y=>KR.ind (P:=fun zz q v=>v=.str i t→.str i=q) (fun zz zz zz e=>zC aa6 e rfl) (fun zz zz zz e=>congrArg PV.str (ahi e).1.symm) (fun zz zz zz zz zz zz zz e=>zC aa6 e rfl) m y rfl)
  fun n l a vs t r ih m zz y=>KR.ind (P:=fun zz q v=>v=.ref a→.tup l=q) (fun zz zz zz e=>zC aa6 e rfl) (fun zz zz zz e=>zC aa6 e rfl) (fun m k b ws t' r' zz e=>by
   rw[ad9 e]at t'
   rw[E0 t' t]at r'
   exact congrArg PV.tup ((r.uniq r').imp (by rintro _ _ ⟨v,x,y⟩;exact ih _ v x y)).eq) m y rfl
theorem KR.gw:∀n {p:PV} {v:Value},KR h n p v→∀q,Mine.gw p q=true↔p=q :=
 KR.ind (P:=fun zz p zz=>∀q,Mine.gw p q=true↔p=q) (fun zz i zz=>aaf i) (fun zz i zz=>aag i) fun n l a vs zz r ih=>aci fun p hp=>by
  obtain⟨i,hi,rfl⟩:=ag7.mp hp
  obtain⟨v,zz,x⟩:=r.get (aa8 hi)
  exact ih _ v x
noncomputable def pAt(l:List PV)(j:Nat):PV:=l[j]?.getD .none
theorem tO:∀(l m:List PV),qe l m=((afa (min l.length m.length)).all (fun j=>gw (pAt l j) (pAt m j))&&l.length == m.length)
 | [],[]=>rfl
 | [],_::_=>rfl
 | _::_,[]=>rfl
 | a::r,b::t=>by
  show(gw a b&&qe r t)=_
  rw[tO r t];rw[aaK];rw[aaK];rw[Nat.succ_min_succ];rw[agT];rw[afd];rw[ag1];rw[Bool.and_assoc];rw[show(r.length+1 == t.length+1)=(r.length == t.length)from acr.mpr (beq_iff_eq.trans (Nat.succ_inj.trans beq_iff_eq.symm))]
  rfl
theorem B5{A:Around}{s:Shared}{l m:List PV}{R S:PV→Value→Prop}{vs ws:Array Value}(r:ay R l vs.toList)(z:ay S m ws.toList)(k:∀p v q u,R p v→S q u→EqAt A s v u (gw p q))(j:Nat)(h1:j<vs.size)(h2:j<ws.size) :
  EqAt A s vs[j] ws[j] (gw (pAt l j) (pAt m j)):=by
 have h1':j<l.length:=r.len▸h1
 have WG:j<m.length:=z.len▸h2
 obtain⟨v,e1,e2⟩:=r.get (aa8 h1')
 obtain⟨u,f1,f2⟩:=z.get (aa8 WG)
 rw[ac8,afI h1]at e1
 rw[ac8,afI h2]at f1
 unfold pAt
 rw[aa8 h1'];rw[aa8 WG];rw[aa0 e1];rw[aa0 f1]
 exact k _ _ _ _ e2 f2
variable{A:Around}{s:Shared}{a b:Addr}{vs ws:Array Value}{l m:List PV}{R S:PV→Value→Prop}
theorem Rf(x:IsTup s.heap a vs)(y:IsTup s.heap b ws)(r:ay R l vs.toList)(z:ay S m ws.toList)(hu:A.units<cLine)(k:∀p v q u,R p v→S q u→EqAt A.in1 s v u (gw p q)):RcAt A s (.ref a) (.ref b) (qe l m):=by
 rw[tO];rewrite[← r.len,← z.len]
 exact RcAt.tuples x y hu (B5 r z k)
theorem Yp(x:IsTup s.heap a vs)(y:IsTup s.heap b ws)(r:ay R l vs.toList)(z:ay S m ws.toList)(hu:A.units<cLine)(k:∀p v q u,R p v→S q u→EqAt A.in1 s v u (gw p q)):RcNeAt A s (.ref a) (.ref b) (!qe l m):=by
 rw[tO];rewrite[← r.len,← z.len]
 exact RcNeAt.tuples x y hu (B5 r z k)
theorem Yo(x:IsTup s.heap a vs)(y:IsTup s.heap b ws)(r:ay R l vs.toList)(z:ay S m ws.toList)(hu:A.units<cLine)(k:∀p v q u,R p v→S q u→EqAt A.in1 s v u (gw p q))(e:∀p v q u,v=u→R p v→S q u→p=q)(f:∀p v,R p v→Mine.gw p p=true) :
  EqAt A s (.ref a) (.ref b) (qe l m):=by
 by_cases hab:a=b
 ·subst hab
  rw[E0 y x]at z
  rewrite[← ((r.uniq z).imp (by rintro _ _ ⟨v,x,y⟩;exact e _ v _ v rfl x y)).eq]
  rewrite[show qe l l=true from r.ind (P:=fun l zz=>qe l l=true) rfl fun p v l m x zz ih=>abL.mpr ⟨f p v x,ih⟩]
  exact EqAt.same _
 ·exact EqAt.of_refs hab (Rf x y r z hu k)
theorem fy{k:Nat}{q:PV}{u:Value}(n:Nat){p:PV}{v:Value}(x:KR s.heap n p v)(y:KR s.heap k q u)(hu:A.units+n<cLine):EqAt A s v u (gw p q) :=
 KR.ind (P:=fun n p v=>∀{A:Around} {k:Nat} {q:PV} {u:Value},KR s.heap k q u→A.units+n<cLine→EqAt A s v u (gw p q))
  (fun n i t A k q u y hu=>KR.ind (P:=fun zz q u=>EqAt A s (.int i t) u (gw (.int i) q)) (fun zz j t'=>EqAt.int_int _ _ _ _) (fun zz j t'=>EqAt.int_str _ _ _ _) (fun zz zz zz zz y zz zz=>EqAt.int_tuple _ _ y (by lia)) k y)
  (fun n i t A k q u y hu=>KR.ind (P:=fun zz q u=>EqAt A s (.str i t) u (gw (.str i) q)) (fun zz j t'=>EqAt.str_int _ _ _ _) (fun zz j t'=>EqAt.str_str _ _ _ _) (fun zz zz zz zz y zz zz=>EqAt.str_tuple _ _ y (by lia)) k y)
  (fun n l a vs x r ih A k q u y hu=>KR.ind (P:=fun zz q u=>EqAt A s (.ref a) u (gw (.tup l) q)) (fun zz j t'=>EqAt.tuple_int _ _ x (by lia)) (fun zz j t'=>EqAt.tuple_str _ _ x (by lia))
   (fun k m zz zz y r' zz=>Yo x y r r' (by lia) (fun p v q u h1 h2=>ih p v h1 h2 (by rw[ac9];lia)) (fun p v q u e h1 h2=>KR.inj n h1 (e▸h2)) fun p v z=>(KR.gw n z p).mpr rfl) k y) n x y hu
end
end Mine.Sim
namespace Mine.Sim
open PySem PySem.W PyProof.Rows PySem.Calls PySem.SeqAt
structure Zf(A:Around)(s:Shared)(u v:Value)(c:Bool):Prop where
 eq:EqAt A s u v c
 rc:RcAt A s u v c
 ne:RcNeAt A s u v (!c)
theorem W5{A:Around}{s:Shared}{k:Nat}{q:PV}{u:Value}(n:Nat){p:PV}{v:Value}(x:KR s.heap n p v)(y:KR s.heap k q u)(hu:A.units+n<cLine):Zf A s v u (gw p q) :=
 KR.ind (P:=fun n p v=>KR s.heap n p v→A.units+n<cLine→Zf A s v u (gw p q))
  (fun n i t x hu=>KR.ind (P:=fun k q u=>KR s.heap k q u→Zf A s (.int i t) u (gw (.int i) q)) (fun zz j t' y=>⟨fy _ x y hu,RcAt.int_int _ _ _ _,RcNeAt.int_int _ _ _ _⟩) (fun zz j t' y=>⟨fy _ x y hu,RcAt.int_str _ _ _ _,RcNeAt.int_str _ _ _ _⟩)
   (fun zz zz zz zz z zz zz y=>⟨fy _ x y hu,RcAt.int_tuple _ _ z (by lia),RcNeAt.int_tuple _ _ z (by lia)⟩) k y y)
  (fun n i t x hu=>KR.ind (P:=fun k q u=>KR s.heap k q u→Zf A s (.str i t) u (gw (.str i) q)) (fun zz j t' y=>⟨fy _ x y hu,RcAt.str_int _ _ _ _,RcNeAt.str_int _ _ _ _⟩) (fun zz j t' y=>⟨fy _ x y hu,RcAt.str_str _ _ _ _,RcNeAt.str_str _ _ _ _⟩)
   (fun zz zz zz zz z zz zz y=>⟨fy _ x y hu,RcAt.str_tuple _ _ z (by lia),RcNeAt.str_tuple _ _ z (by lia)⟩) k y y)
  (fun n l a vs z r zz x hu=>KR.ind (P:=fun k q u=>KR s.heap k q u→Zf A s (.ref a) u (gw (.tup l) q)) (fun zz j t' y=>⟨fy _ x y hu,RcAt.tuple_int _ _ z (by lia),RcNeAt.tuple_int _ _ z (by lia)⟩) (fun zz j t' y=>⟨fy _ x y hu,RcAt.tuple_str _ _ z (by lia),RcNeAt.tuple_str _ _ z (by lia)⟩)
   (fun k m zz zz z' r' zz y=>⟨fy _ x y hu,Rf z z' r r' (by lia) fun zz zz zz zz h1 h2=>fy n h1 h2 (by rw[ac9];lia),Yp z z' r r' (by lia) fun zz zz zz zz h1 h2=>fy n h1 h2 (by rw[ac9];lia)⟩) k y y) n x x hu
mutual
noncomputable def ie:PV→Nat
 | .tup l=>tE l+1
 | .int _=>1
 | .str _=>1
 | .none=>0
 | .bool _=>0
 | .ref _=>0
noncomputable def tE:List PV→Nat
 | []=>0
 | p::r=>ie p+tE r
end
section
variable{prog:afR}{w:World}{A:Around}{E:Value→Shared→Prop}{s:Shared}
theorem Rl{α β σ:Type}{R:α→β→Prop}{f:β→σ→Sem (ForInStep σ)}(I:List α→σ→Shared→Prop)(step:∀a v l b s,R a v→I (a::l) b s→wpAny (model prog w) A (f v b) (fun r s'=>∃b',r=.yield b'∧I l b' s') E s){Q:σ→Shared→Prop}(fin:∀b s,I [] b s→Q b s)
  {l:List α} {m:List β} (h:ay R l m):∀{b:σ} {s:Shared},I l b s→wpAny (model prog w) A (forIn m b f) Q E s :=
 h.ind (P:=fun l m=>∀{b:σ} {s:Shared},I l b s→wpAny (model prog w) A (forIn m b f) Q E s) (fun i=>aa1 (fin _ _ i)) fun a v l m r zz ih b s i=>by
  rw[afC]
  exact aat (abr (step a v l b s r i) ((by rintro r s' ⟨b',e,i'⟩;exact by subst e;exact ih i')) fun zz zz e=>e)
theorem lY(n:Nat){p:PV}{v:Value}(x:KR s.heap n p v):∀{A:Around} {E:Value→Shared→Prop} {k:Nat} {Q:Int→Shared→Prop},A.units+n<cLine→Q (km w p) { s with toks:=k+ie p }→wpAny (model prog w) A (pyHash v) Q E { s with toks:=k } :=
 KR.ind (P:=fun n p v=>∀{A:Around} {E:Value→Shared→Prop} {k:Nat} {Q:Int→Shared→Prop},A.units+n<cLine→Q (km w p) { s with toks:=k+ie p }→wpAny (model prog w) A (pyHash v) Q E { s with toks:=k })
  (fun zz zz zz zz zz zz zz zz h=>wpAny_pyHash_int h) (fun zz zz zz zz zz zz zz zz h=>wpAny_pyHash_str h) (fun n l a vs x r ih A E k Q hu h=>by
   have hT:({ s with toks:=k }:Shared).TypeIs (.ref a) "tuple":=IsTup.typeIs (s:={ s with toks:=k }) x
   unfold pyHash
   refine aat (wpAny_cRoomFor_or (.inr (by lia)) ?_)
   refine aat (af6 hT F.slot_tuple_hash.lookup ?_)
   show wpAny _ _ (if(some (Value.builtin "tuple.__hash__") == some Value.none)=true then _ else _) Q E _
   rewrite[if_neg (by rw[beq_builtin_none];exact abS)]
   refine aat (af6 hT F.slot_tuple_hash.lookup ?_)
   show wpAny _ _ (callSpecialIfBoundUnlessNone? (.ref a) "__hash__" _ >>= _) Q E _
   refine aat (wpAny_callSpecialIfBoundUnlessNone?_slot hT F.slot_tuple_hash (adP F.slot_tuple_hash hT F.entry_tuple_hash ?_ (F.args_tuple_hash_1 _)))
   show wpAny _ _ (adx.Tuple.tupleItemsOf (.ref a) >>= _) _ _ _
   refine aat (tupleItemsOf_ (s:={ s with toks:=k }) x (aat ?_))
   rewrite[← ahh]
   refine Rl (R:=KR s.heap n) (fun left b s'=>∃j,s'={ s with toks:=j }∧b.toList++lT w left=lT w l∧j+tE left=k+tE l) (fun p v left b s' hv hh=>?_) (fun b s' hh=>?_) r ⟨k,rfl,rfl,rfl⟩
   ·obtain⟨j,rfl,e2,e3⟩:=hh
    exact aat (ih p v hv (by rw[ac9];lia) (aa1 ⟨_,rfl,_,rfl,by rw[afj];rw[aaW];exact e2,(agg ..).trans e3⟩))
   ·obtain⟨j,rfl,e2,e3⟩:=hh
    rewrite[show j=k+tE l from e3]
    show wpAny _ _ (retInt (adx.Tuple.tupleHashOf b.toList)) _ _ _
    rewrite[show b.toList=lT w l from(abF _).symm.trans e2]
    refine wpAny_ret_mkInt ?_
    show wpAny _ _ (if(decide (-(2:Int) ^ 63≤adx.Tuple.tupleHashOf (lT w l))&&decide (adx.Tuple.tupleHashOf (lT w l)<2 ^ 63))=true then _ else _) Q E _
    unfold km ie reduceHash at h
    split at h <;> rename_i hr
    ·rw[if_pos hr];exact aa1 h
    ·rw[if_neg hr];exact aat (agu (aa1 h))) n x
theorem SE(n:Nat){p:PV}{v:Value}(x:KR s.heap n p v):∀{m:Nat} {A:Around} {E:Value→Shared→Prop} {Q:Bool→Shared→Prop},n≤m→Q true s→wpAny (model prog w) A (eqIsQuiet m v) Q E s :=
 KR.ind (P:=fun n zz v=>∀{m:Nat} {A:Around} {E:Value→Shared→Prop} {Q:Bool→Shared→Prop},n≤m→Q true s→wpAny (model prog w) A (eqIsQuiet m v) Q E s)
  (fun zz zz zz m zz zz zz zz h=>by rw[eqIsQuiet_byValue m rfl];exact aa1 h) (fun zz zz zz m zz zz zz zz h=>by rw[eqIsQuiet_byValue m rfl];exact aa1 h) (fun n l a vs x r ih m A E Q hm h=>by
   induction m with
   | zero=>exact absurd hm (aha _)
   | succ m =>
    unfold eqIsQuiet
    refine aat (af6 x.typeIs F.slot_tuple_eq.lookup ?_)
    show wpAny _ _ (isInstance (.ref a) (.type "tuple") >>= _) _ _ s
    refine aat (agH x.typeIs isSubtype_tuple_tuple ?_)
    obtain⟨o,ho,hc,k,hd⟩:=x
    rewrite[if_neg (show ¬(!true)=true from abS)]
    refine aat (wpAny_seqItems ho hd (aat ?_))
    show wpAny _ _ (forIn vs _ _) _ _ s
    rewrite[← ahh]
    refine Rl (R:=KR s.heap n) (fun zz r s'=>r=(none,PUnit.unit)∧s'=s) (fun p v left b s' hv hh=>?_) (fun b s' hh=>?_) r ⟨rfl,rfl⟩
    ·obtain⟨rfl,rfl⟩:=hh
     exact aat (ih p v hv (agW hm) (aa1 ⟨_,rfl,rfl,rfl⟩))
    ·obtain⟨rfl,rfl⟩:=hh
     exact aa1 h) n x
noncomputable def Xa:DecidableEq (List PV):=fun zz zz=>Classical.propDecidable _
noncomputable def Wl(prog:afR)(w:World):@HeapKind prog w (List PV) Xa :=
 letI:DecidableEq (List PV):=Xa
 {
  is:=fun h k a=>KR h 7 (.tup k) (.ref a)
  hash:=fun k=>km w (.tup k)
  draws:=fun k=>ie (.tup k)
  room:=fun A=>A.units+10<cLine
  inj:=fun hx hy=>PV.tup.inj (KR.inj 7 hx hy)
  keeps:=fun{h h' k a d o es ep} x ho hd hs=>KR.go ((by rintro b vs ⟨ob,hb,hc,n,hdb⟩;exact⟨ob,(hs.2 b (by rintro rfl;rw[ho]at hb;rw[aa0 hb,hdb]at hd;cases hd)).trans hb,hc,n,hdb⟩)) 7 x
  pyHash:=fun hu hk h=>lY 7 hk (by lia) h
  eqBool:=fun{A E s x y a b Q} hu hx hy h=>fy 7 hx hy (by lia) prog w E Q (by
  rewrite[show gw (.tup x) (.tup y)=decide (x=y)from acr.mpr ((KR.gw 7 hx _).trans ⟨fun e=>decide_eq_true (PV.tup.inj e),fun e=>congrArg PV.tup (of_decide_eq_true e)⟩)]
  exact h)
  quiet:=fun hk h=>SE 7 hk (by decide) h
 }
noncomputable abbrev Y7(prog:afR)(w:World):=letI:DecidableEq (List PV):=Xa;entryOfKey (Wl prog w)
end
end Mine.Sim
namespace Mine.Sim
open PySem PySem.W PyProof.Rows PySem.Calls PySem.SeqAt
inductive Found (k:PV) (l:List (PV×PV)):Option Nat→Prop
 | no (f:br k l=none) (p:∀v,gy k v l=l++[(k,v)]):Found k l none
 | yes (i:Nat) (q:PV×PV) (a:l[i]?=some q) (f:br k l=some q.2) (p:∀v,gy k v l=l.modify i fun p=>(p.1,v)) (d:sW k l=l.eraseIdx i):Found k l (some i)
theorem Found.tl{k:PV}{p:PV×PV}{r:List (PV×PV)}(q:gw p.1 k=false){o:Option Nat}:Found k r o→Found k (p::r) (o.map (·+1)):=fun F=>by
 cases F with
 | no f h=>exact .no (by dsimp only[br];rw[q];exact f) fun v=>by dsimp only[gy];rw[q];exact congrArg _ (h v)
 | yes i x a f h d=>exact .yes (i+1) x a (by dsimp only[br];rw[q];exact f) (fun v=>by dsimp only[gy];rw[q];exact congrArg _ (h v)) (by dsimp only[sW];rw[q];exact congrArg _ d)
theorem Qo(k:PV):∀l:List (PV×PV),Found k l (l.findIdx? fun p=>gw p.1 k)
 | []=>.no rfl fun zz=>rfl
 | p::r=>by
  rw[afG]
  generalize q:gw p.1 k=zq;induction zq with
  | true=>exact .yes 0 p rfl (by dsimp only[br];rw[q];rfl) (fun v=>by dsimp only[gy];rw[q];rfl) (by dsimp only[sW];rw[q];rfl)
  | false=>exact(Qo k r).tl q
theorem ye{n:Nat}:∀{l:List (PV×PV)},lU n l=true→∀p∈l,fN p.1=true∧tH p.1=n
 | [],_,_,h=>zM h
 | q::r,e,p,h =>
  have e:=abL.mp e
  have f:=abL.mp e.1
  (aa2.mp h).elim (fun z=>z▸⟨f.1,abX f.2⟩) (ye e.2 p)
theorem yS{k:PV}{l:List (PV×PV)}(h:cy k l=true):fN k=true∧∀p∈l,fN p.1=true∧tH p.1=tH k:=have e:=abL.mp h;⟨e.1,ye e.2⟩
theorem vE{k v:PV}:∀{l:List (PV×PV)},(gy k v l).map (·.1)=l.map (·.1)∨((gy k v l).map (·.1)=l.map (·.1)++[k]∧∀q∈l,gw q.1 k≠true)
 | []=>.inr ⟨rfl,fun zz h=>zM h⟩
 | p::r=>by
  dsimp only[gy]
  generalize q:gw p.1 k=zq;induction zq with
  | true=>exact .inl rfl
  | false=>exact(vE (l:=r)).imp (congrArg (p.1::·)) fun h=>⟨congrArg (p.1::·) h.1,fun x hx=>(aa2.mp hx).elim (fun e=>by rw[e];rw[q];exact abS) (h.2 x)⟩
theorem sX(k:PV):∀l:List (PV×PV),(sW k l).Sublist l
 | []=>.slnil
 | p::r=>by
  dsimp only[sW]
  cases gw p.1 k with
  | true=>exact .cons _ (List.Sublist.refl _)
  | false=>exact .cons₂ _ (sX k r)
theorem KN{k v:PV}{l:List (PV×PV)}:(gy k v l).length≤l.length+1:=by
 rewrite[← aaY (f:=(·.1)),← aaY (as:=l) (f:=(·.1))]
 rcases vE (k:=k) (v:=v) (l:=l)with h | h
 ·rw[h];exact adb _
 ·rw[h.1];rw[aaA];exact aaX _
theorem Keyed.put{l:List (PV×PV)}{k v:PV}(hk:cy k l=true)(x:Keyed l):Keyed (gy k v l):=by
 have f:=yS hk
 have mem:∀{m:List (PV×PV)},(∀p∈m.map (·.1),fN p=true)→∀p∈m,fN p.1=true:=fun h p hp=>h _ (ae4 hp)
 have all:∀p∈l.map (·.1),fN p=true:=fun p hp=>(by obtain⟨q,hq,e⟩:=abi.mp hp;exact e▸x.1 q hq)
 rcases vE (k:=k) (v:=v) (l:=l)with h | ⟨h,n⟩
 ·exact⟨mem (h▸all),h▸x.2⟩
 ·refine⟨mem (h▸fun p hp=>(aa7.mp hp).elim (all p) fun e=>aad.mp e▸f.1),h▸acL.mpr ⟨x.2,acS ..,fun a ha b hb e=>?_⟩⟩
  obtain⟨q,hq,rfl⟩:=abi.mp ha
  exact n q hq ((Mine.lX 6 _ _ (x.1 q hq)).mpr (e.trans (aad.mp hb)))
theorem Keyed.del{l:List (PV×PV)}{k:PV}(x:Keyed l):Keyed (sW k l):=⟨fun p hp=>x.1 p ((sX k l).subset hp),((sX k l).map _).nodup x.2⟩
theorem Of{α K:Type}[DecidableEq K]{xs:List (K×α)}{k:K}(nd:(xs.map (·.1)).Nodup){Q:Option Nat→Prop}(h:Q (xs.findIdx? fun x=>decide (x.1=k))):((∀(j:Nat) (p:α),xs[j]?≠some (k,p))→Q none)∧∀(j:Nat) (p:α),xs[j]?=some (k,p)→Q (some j):=by
 generalize q:(xs.findIdx? fun x=>decide (x.1=k))=zq;induction zq with
 | none =>
  rw[q]at h
  exact⟨fun zz=>h,fun j p e=>(rr ((decide_eq_true (rfl:k=k)).symm.trans (List.findIdx?_eq_none_iff.mp q _ (aea e))))⟩
 | some i =>
  rw[q]at h
  obtain⟨hi,e,zz⟩:=List.findIdx?_eq_some_iff_getElem.mp q
  have e:=of_decide_eq_true e
  refine⟨fun n=>(n i xs[i].2 (by rw[aa8 hi];rewrite[← e];rfl)).elim,fun j p f=>?_⟩
  rewrite[show j=i from((List.getElem?_inj (by rw[aaY];exact hi) nd).mp (by rw[adf];rw[adf];rw[f];rw[aa8 hi];rw[Option.map_some];rw[Option.map_some];rw[e];rfl)).symm]
  exact h
noncomputable def acD:PV→List PV
 | .tup l=>l
 | _=>[]
noncomputable def refOf:Value→Addr
 | .ref a=>a
 | _=>0
noncomputable def Np(p:PV×PV)(e:ac1):List PV×Addr×Value:=(acD p.1,refOf e.key,e.val)
section
variable{W:Wd}{A:Around}{E:Value→Shared→Prop}{s:Shared}{as:List Slot}{h:Heap}{l:List (PV×PV)}{k:PV}{v:Value}{d:Addr}{es:Array ac1}{n:Nat}
theorem SO{es:List ac1}(r:ay (ER W h as) l es):(∀p∈l,fN p.1=true∧tH p.1=3) →
  es=(ae9 Np l es).map (Y7 W.prog W.w)∧(∀x∈ae9 Np l es,KR h 7 (.tup x.1) (.ref x.2.1))∧ay (fun p x=>p.1=PV.tup x.1) l (ae9 Np l es) :=
 r.ind (P:=fun l es=>(∀p∈l,fN p.1=true∧tH p.1=3)→es=(ae9 Np l es).map (Y7 W.prog W.w)∧(∀x∈ae9 Np l es,KR h 7 (.tup x.1) (.ref x.2.1))∧ay (fun p x=>p.1=PV.tup x.1) l (ae9 Np l es))
  (fun zz=>⟨rfl,fun zz h=>(zM h),trivial⟩) fun p e l es x zz ih hk=>by
   obtain⟨i1,i2,i3⟩:=ih fun p hp=>hk p (.tail _ hp)
   obtain⟨k1,k2⟩:=hk p (.head _)
   obtain⟨q,u⟩:=p
   induction q using PV.casesOn with
   | tup m =>
    obtain⟨a,c,b⟩:=x
    have kr:KR h 7 (.tup m) e.key:=KR.of 6 k1 a
    obtain⟨ad,vs,e1,zz⟩:=a
    obtain⟨hh,key,val⟩:=e
    obtain rfl:key=.ref ad:=e1
    refine⟨?_,fun y hy=>(aa2.mp hy).elim (fun e=>e▸kr) (i2 y),rfl,i3⟩
    exact agh.mpr ⟨congrArg (ac1.mk · (.ref ad) val) b,i1⟩
   | _=>cases k2
theorem T5{m:List PV}{Q:Option Nat→Shared→Prop}(hu:A.units+10<cLine)(hk:fN (.tup m)=true)(hl:∀p∈l,fN p.1=true∧tH p.1=3)(hd:Keyed l)(ho:s.heap.get? d=some (eh es n))(he:ay (ER W s.heap as) l es.toList)
  (hv:VR s.heap as (.tup m) v) (h:Q (l.findIdx? fun p=>gw p.1 (.tup m)) s):wpAny (model W.prog W.w) A (dictFind d v (km W.w (.tup m))) Q E s:=by
 letI:DecidableEq (List PV):=Xa
 obtain⟨r1,r2,r3⟩:=SO he hl
 have kv:=KR.of 6 hk hv
 obtain⟨a,vs,rfl,zz⟩:=hv
 have nd:((ae9 Np l es.toList).map (·.1)).Nodup:=by
  have e:l.map (·.1)=(ae9 Np l es.toList).map fun x=>PV.tup x.1:=r3.ind (P:=fun(l:List (PV×PV)) (m:List (List PV×Addr×Value))=>l.map (·.1)=m.map fun x=>PV.tup x.1) rfl fun zz zz zz zz e zz ih=>agh.mpr ⟨e,ih⟩
  have:=afO.mp (e▸hd.2)
  exact afO.mpr (this.imp fun n e=>n (congrArg PV.tup e))
 have q:=Of (k:=m) nd (Q:=fun o=>Q o s) (by
  rewrite[← r3.idx (p:=fun p=>gw p.1 (.tup m)) fun p hp x e=>by
   rw[e,acr,Mine.lX 6 _ _ (e▸(hl p hp).1),decide_eq_true_eq]
   exact⟨PV.tup.inj,congrArg _⟩]
  exact h)
 exact wpAny_dictFind_heap (knd:=Wl W.prog W.w) (k:=m) hu kv ho rfl r1 r2 nd q.1 q.2
theorem Hs{K:Type}[DecidableEq K]{knd:PySem.KeyKind W.prog W.w K}{x:K}{Q:Option Nat→Shared→Prop}(hv:knd.is x v=true)(hh:km W.w k=knd.hash x)(hk:∀p∈l,∀u,VR s.heap as p.1 u→gw p.1 k=knd.is x u∧∃y,knd.is y u=true∧km W.w p.1=knd.hash y)
  (ho:s.heap.get? d=some (eh es n)) (he:ay (ER W s.heap as) l es.toList) (h:Q (l.findIdx? fun p=>gw p.1 k) s):wpAny (model W.prog W.w) A (dictFind d v (km W.w k)) Q E s:=by
 rw[hh]
 refine wpAny_dictFind_of hv ho rfl (fun e hm=>?_) ?_
 ·obtain⟨p,hp,a,zz,c⟩:=he.mem (afX.mpr hm)
  obtain⟨zz,y,h1,h2⟩:=hk p hp _ a
  exact⟨y,h1,c.trans h2⟩
 ·rewrite[show(es.findIdx? fun e=>knd.is x e.key)=es.toList.findIdx? fun e=>knd.is x e.key from by cases es;rw[agZ];rfl,← he.idx fun p hp e a=>(hk p hp _ a.1).1]
  exact h
theorem oo{Q:Option Nat→Shared→Prop}(hu:A.units+10<cLine)(hk:cy k l=true)(hd:Keyed l)(ho:s.heap.get? d=some (eh es n))(he:ay (ER W s.heap as) l es.toList)(hv:VR s.heap as k v)(h:Q (l.findIdx? fun p=>gw p.1 k) s) :
  wpAny (model W.prog W.w) A (dictFind d v (km W.w k)) Q E s:=by
 obtain⟨h1,h2⟩:=yS hk
 induction k using PV.casesOn with
 | int i =>
  obtain⟨t,rfl⟩:=hv
  refine Hs (knd:=intKind W.prog W.w) (x:=i) (decide_eq_true rfl) rfl (fun p hp u hu=>?_) ho he h
  obtain⟨q,zz⟩:=p
  induction q using PV.casesOn with
  | int j=>obtain⟨z,rfl⟩:=hu;exact⟨rfl,j,decide_eq_true rfl,rfl⟩
  | _=>cases (h2 _ hp).2
 | str i =>
  obtain⟨t,rfl⟩:=hv
  refine Hs (knd:=PySem.strKind W.prog W.w) (x:=i) (decide_eq_true rfl) rfl (fun p hp u hu=>?_) ho he h
  obtain⟨q,zz⟩:=p
  induction q using PV.casesOn with
  | str j=>obtain⟨z,rfl⟩:=hu;exact⟨rfl,j,decide_eq_true rfl,rfl⟩
  | _=>cases (h2 _ hp).2
 | tup m=>exact T5 hu h1 h2 hd ho he hv h
 | none=>exact fS h1
 | bool zz=>exact fS h1
 | ref zz=>exact fS h1
end
end Mine.Sim
namespace Mine.Sim
open PySem PySem.W PyProof.Rows PySem.Calls PySem.SeqAt
noncomputable section
noncomputable def WY:Blt→Value
 | .len=>.builtin "len"
 | .all=>.builtin "all"
 | .any=>.builtin "any"
 | .sorted=>.builtin "sorted"
 | .tuple=>.type "tuple"
structure Yx(W:Wd)(c:Str)(C:Addr):Prop where
 cd:∃cd,clsIn W.K C=some cd∧cd.hasDict=true
 ga:findIn W.K (.ref C) "__getattribute__" = some (some (.builtin "object.__getattribute__"))
 abC:findIn W.K (.ref C) "__getattr__" = some none
 sa:findIn W.K (.ref C) "__setattr__" = some (some (.builtin "object.__setattr__"))
 over:plainOver W.K C=true
 field:∀a,W.P.field a=true→findIn W.K (.ref C) a=some none
 IR:∀m k,W.P.IR c m=some k→∃f,W.fns k=some f∧findIn W.K (.ref C) m=some (some (.ref f))∧typeIn W.K (.ref f)=some (.type "function")
 make:∀i,W.P.init c=some i→makesIn W.K C=true
 init:∀k,W.P.init c=some (some k)→∃f,W.fns k=some f∧findIn W.K (.ref C) "__init__" = some (some (.ref f))∧typeIn W.K (.ref f)=some (.type "function")
 abV:W.P.init c=some none→findIn W.K (.ref C) "__init__" = some (some (.builtin "object.__init__"))
structure WL(W:Wd)(r:la)(f:Addr):Prop where
 keep:keepIn W.K (.ref f)=true
 obj:∃o fd,W.K.lookup f=some o∧o.data=.func fd∧fd.body=.stmts r.body∧fd.scope=r.scope∧fd.closure=[]∧fd.globals=adk∧fd.builtins=builtinsNs∧codeIn W.K fd.code fd.qualname=true ∧
  ∀(s:Shared) (vals:List Value),W.K.In s.heap→vals.length=r.params.length→BindsTo s fd ⟨vals,[]⟩ (r.params.zip vals)
 co:r.scope.isCoroutine=false
 gen:r.scope.isGenerator=false
 kind:r.scope.kind=.function
 par:∀x∈r.params,look x r.scope.names=some .local∨look x r.scope.names=some .cell
 sL:r.params.Nodup
 names:(r.scope.names.map (·.1)).Nodup
 dbg:∀p∈r.scope.names,(p.1 == ("__debug__" : Str))=false
 free:∀p∈r.scope.names,p.2=.local∨p.2=.cell∨p.2=.globalImplicit
structure Bn(W:Wd):Prop where
 kin:W.K.In W.hT
 top:∃p loose mg mb,TopRead p loose mg mb W.hT
 glob:∀x p,W.P.gl x=some p→∃v,nsIn W.K adk x=some (some v)∧∀h as,W.hT.StaysIn h→as[0]?=some (W.fT,W.fT)→VR h as p v
 cls:∀c C,W.cls c=some C→Yx W c C
 fns:∀k f,W.fns k=some f→∃r,W.P.fn k=some r∧WL W r f
 kfn:∀x,W.P.kind x=some .fn→∃f,W.fns x=some f∧nsIn W.K adk x=some (some (.ref f))
 aex:∀x,W.P.kind x=some .cls→∃C,W.cls x=some C∧nsIn W.K adk x=some (some (.ref C))∧keepIn W.K (.ref C)=true
 aew:∀x b,W.P.kind x=some (.blt b)→nsIn W.K adk x=some none∧af9 x=some (WY b)∧x≠"__name__"
 Uu:nsIn W.K adk (Str.ofString "range")=some none∧af9 (Str.ofString "range")=some (.type "range")
noncomputable def Rm(n:Nat)(A:Around):Prop:=A.handled=none∧A.depth+2*n+2≤recursionLimit∧A.units+16*n+40<cLine
noncomputable def Rc(n:Nat)(A:Around):Prop:=A.handled=none∧A.depth+2*n+1≤recursionLimit∧A.units+16*n+30<cLine
theorem Rm.call{n:Nat}{A:Around}(r:Rm n A):Rc n A:=⟨r.1,afQ r.2.1,Nat.lt_of_add_right_lt (k:=10) r.2.2⟩
noncomputable def oz(k:ac0):Prop:=k=.cell∨k=.free
noncomputable def Fe(env:Env):Addr→Prop:=fun b=>b=env.locals∨∃x,env.cells.lookup x=some b
structure Fx(W:Wd)(env:Env)(sc:Scope):Prop where
 glob:env.globals=adk
 blt:env.builtins=builtinsNs
 kind:env.scope.kind=.function
 kl:∀x,look x sc.names=some .local→env.kindOf x=some .local
 kc:∀x k,look x sc.names=some k→oz k→env.kindOf x=some .cell∧∃c,env.cells.lookup x=some c
 kg:∀x,look x sc.names=some .globalImplicit→env.kindOf x=some .globalImplicit
 dbg:∀x k,look x sc.names=some k→(x == ("__debug__" : Str))=false
 top:∀b,Fe env b→W.hT.get? b=none
 apart:∀x c,env.cells.lookup x=some c→c≠env.locals
 ci:∀x y c,env.cells.lookup x=some c→env.cells.lookup y=some c→x=y
structure Fd(env:Env)(sc:Scope)(h:Heap)(as:List Slot)(ρ:bg):Prop where
 len:ρ.length=sc.names.length
 loc:∃m,h.Ns env.locals m∧∀x p,look x sc.names=some .local→ρ[idx x sc.names]?=some (some p)→∃v,m x=some v∧VR h as p v
 Tz:∀x c,env.cells.lookup x=some c→∃v,h.IsCell c v∧∀p k,look x sc.names=some k→oz k→ρ[idx x sc.names]?=some (some p)→∃u,v=some u∧VR h as p u
 no:∀b,Fe env b→¬gm as b
structure Fr where
 W:Wd
 n:Nat
 A:Around
 E:Value→Shared→Prop
 env:Env
 sc:Scope
 h0:Heap
 as0:List Slot
 F:Addr→Prop
 L:Rr
 cl:Str→List PV→CM PV
structure bf(Γ:Fr)(ρ:bg) where
 s:Shared
 as:List Slot
 H:CH
 inv:Inv Γ.W s.heap as H
 st:St Γ.W s
 fm:Fd Γ.env Γ.sc s.heap as ρ
 fO:fc Γ.F Γ.h0 Γ.as0 s.heap as
noncomputable abbrev Fr.mod(Γ:Fr):=model Γ.W.prog Γ.W.w
section
variable{Γ:Fr}{ρ:bg}{h h':Heap}{as lg:List Slot}{env:Env}{sc:Scope}
noncomputable abbrev bf.V(σ:bf Γ ρ)(p:PV)(v:Value):Prop:=VR σ.s.heap σ.as p v
noncomputable abbrev bf.Vs(σ:bf Γ ρ)(l:List PV)(m:List Value):Prop:=ay (VR σ.s.heap σ.as) l m
theorem Fd.has(M:Fd env sc h as ρ){b:Addr}:Fe env b→∃o,h.get? b=some o
 | .inl e=>(by obtain⟨zz,⟨o,zz,zz,ho,zz⟩,zz⟩:=M.loc;exact⟨o,e▸ho⟩)
 | .inr ⟨x,e⟩=>(by obtain⟨zz,⟨o,ho,zz⟩,zz⟩:=M.Tz x b e;exact⟨o,ho⟩)
theorem Fd.kept(M:Fd env sc h as ρ)(g:Goes h as h' lg)(fresh:∀b,gm lg b→gm as b∨h.get? b=none)(hk:∀b o,Fe env b→h.get? b=some o→h'.get? b=some o):Fd env sc h' lg ρ :=
 ⟨M.len,(by obtain⟨m,⟨o,es,ep,ho,r⟩,hm⟩:=M.loc;exact⟨m,⟨o,es,ep,hk _ _ (.inl rfl) ho,r⟩,fun x p h1 h2=>(hm x p h1 h2).imp fun zz hv=>⟨hv.1,hv.2.go g⟩⟩),
  fun x c e=>(by obtain⟨v,⟨o,ho,hd⟩,hv⟩:=M.Tz x c e;exact⟨v,⟨o,hk _ _ (.inr ⟨x,e⟩) ho,hd⟩,fun p k h1 h2 h3=>(hv p k h1 h2 h3).imp fun zz hu=>⟨hu.1,hu.2.go g⟩⟩),
  fun b hb hO=>(fresh b hO).elim (M.no b hb) fun z=>(by obtain⟨zz,ho⟩:=M.has hb;exact db ho z)⟩
theorem Fd.fO{F:Addr→Prop}(M:Fd env sc h as ρ)(P:fc F h as h' lg)(hF:∀b,F b→¬Fe env b):Fd env sc h' lg ρ:=M.kept P.toGoes P.fresh fun b o hb ho=>P.keep b o ho (M.no b hb) fun hf=>hF b hf hb
noncomputable def bf.to(σ:bf Γ ρ){s:Shared}{as:List Slot}{H:CH}(I:Inv Γ.W s.heap as H)(S:St Γ.W s)(P:fc gF σ.s.heap σ.as s.heap as):bf Γ ρ:=⟨s,as,H,I,S,σ.fm.fO P fun zz f=>f.elim,σ.fO.PR P⟩
noncomputable def bf.tok(σ:bf Γ ρ)(k:Nat):bf Γ ρ:={ σ with s:={ σ.s with toks:=k } }
noncomputable def bf.kept(σ:bf Γ ρ){G:Addr→Prop}(K:Kept Γ.W G σ.s.heap σ.as h')(hG:∀b,G b→Γ.h0.get? b=none∧¬Fe Γ.env b)(k:Nat):bf Γ ρ :=
 ⟨{ σ.s with heap:=h',toks:=k },σ.as,σ.H,K.inv σ.inv,σ.st,σ.fm.kept K.go (fun zz x=>.inl x) fun b o f e=>K.keep b o e fun g=>(hG b g).2 f,K.fO σ.fO fun b g=>(hG b g).1⟩
noncomputable def bf.grow(σ:bf Γ ρ)(hk:∀b o,σ.s.heap.get? b=some o→h'.get? b=some o)(k:Nat):bf Γ ρ:=σ.kept (Kept.grow hk) (fun zz f=>f.elim) k
theorem bf.iI(σ:bf Γ ρ)(hk:∀b o,σ.s.heap.get? b=some o→h'.get? b=some o):Goes σ.s.heap σ.as h' σ.as:=(Kept.grow (W:=Γ.W) (as:=σ.as) hk).go
noncomputable def bf.new(σ:bf Γ ρ)(hk:∀b o,σ.s.heap.get? b=some o→h'.get? b=some o)(p:Slot)(n:∀x,(x=p.1∨x=p.2)→σ.s.heap.get? x=none){co:CO}(r:nX Γ.W h' (σ.as++[p]) p co)(k:Nat):bf Γ ρ :=
 have K:=Kept.grow (W:=Γ.W) (as:=σ.as) hk
 σ.to (s:={ σ.s with heap:=h',toks:=k }) ((K.inv σ.inv).more r fun x hx=>⟨σ.inv.free (n x hx),σ.inv.top (n x hx)⟩) σ.st ((K.fO fc.refl fun zz f=>f.elim).more n)
theorem bf.OH(σ:bf Γ ρ)(hk:∀b o,σ.s.heap.get? b=some o→h'.get? b=some o)(p:Slot):Goes σ.s.heap σ.as h' (σ.as++[p]):=(Kept.grow (W:=Γ.W) (as:=σ.as) hk).go.trans ⟨abY ..,fun zz zz x=>x⟩
theorem bf.IV(σ:bf Γ ρ){p:Slot}:VR h' (σ.as++[p]) (.ref σ.H.length) (.ref p.1):=⟨p,by rewrite[← σ.inv.len];exact QC ..,rfl⟩
noncomputable def bf.chg(σ:bf Γ ρ){i:Nat}{p:Slot}{x:Addr}{co Zw:CO}(c:S6 σ.as σ.H σ.s.heap h' i p x co)(r:nX Γ.W h' σ.as p Zw)(k:Nat):bf Γ ρ :=
 σ.to (s:={ σ.s with heap:=h',toks:=k }) (c.inv σ.inv r) σ.st (c.fO σ.inv)
inductive Out (Γ:Fr) (ρ:bg) (l:List PV) (m:List Value) (r:PV×CH):Value→Shared→Prop
 | mk (v:Value) (τ:bf Γ ρ) (e:τ.H=r.2) (x:τ.Vs (r.1::l) (v::m)):Out Γ ρ l m r v τ.s
inductive sN (Γ:Fr) (ρ:bg) (l:List PV) (m:List Value) (r:Bool×CH):Bool→Shared→Prop
 | mk (τ:bf Γ ρ) (e:τ.H=r.2) (x:τ.Vs l m):sN Γ ρ l m r r.1 τ.s
inductive pX (Γ:Fr) (ρ:bg) (l:List PV) (m:List Value) (r:Unit×CH):Unit→Shared→Prop
 | mk (τ:bf Γ ρ) (e:τ.H=r.2) (x:τ.Vs l m):pX Γ ρ l m r () τ.s
inductive Zg (Γ:Fr) (ρ:bg) (l:List PV) (m:List Value) (r:List PV×CH):List Value→Shared→Prop
 | mk (vs:List Value) (τ:bf Γ ρ) (e:τ.H=r.2) (x:τ.Vs r.1 vs) (y:τ.Vs l m):Zg Γ ρ l m r vs τ.s
inductive sK (Γ:Fr) (K:bg→CM PV) (r:PV×CH):Flow→Shared→Prop
 | next (ρ:bg) (τ:bf Γ ρ) (e:K ρ τ.H=some r):sK Γ K r .next τ.s
 | ret (ρ:bg) (v:Value) (s:Shared) (o:Out Γ ρ [] [] r v s):sK Γ K r (.ret v) s
variable{l:List PV}{m:List Value}{r:PV×CH}{E:Value→Shared→Prop}{s:Shared}{A:Around}
theorem Out.el{Q:Value→Shared→Prop}(k:∀v (τ:bf Γ ρ),τ.H=r.2→τ.Vs (r.1::l) (v::m)→Q v τ.s){v:Value}(o:Out Γ ρ l m r v s):Q v s:=by
 induction o with
 | mk τ e x=>exact k v τ e x
theorem cn{α β:Type}{x:CM α}{f:α→CM β}{H:CH}{r:β×CH}{P:Prop}(e:aa x f H=some r)(k:∀q,x H=some q→f q.1 q.2=some r→P):P:=by
 unfold aa at e
 generalize q:x H=zq;induction zq with
 | none=>rw[q]at e;exact du e
 | some p=>rw[q]at e;exact k p q e
section
variable{β:Type}{r:β×CH}{H:CH}
theorem acu{x:CM PV}{f:PV→CM β}{t:Sem Value}{Q:Value→Shared→Prop}(e:aa x f H=some r)(y:∀q,x H=some q→wpAny Γ.mod A t (Out Γ ρ l m q) E s)
  (k:∀p v (τ:bf Γ ρ),τ.Vs (p::l) (v::m)→f p τ.H=some r→Q v τ.s):wpAny Γ.mod A t Q E s :=
 cn e fun q h1 h2=>abr (y q h1) (fun zz zz=>Out.el fun v τ e x=>k _ v τ x (e▸h2)) fun zz zz e=>e
theorem act{x:CM Bool}{f:Bool→CM β}{t:Sem Bool}{Q:Bool→Shared→Prop}(e:aa x f H=some r)(y:∀q,x H=some q→wpAny Γ.mod A t (sN Γ ρ l m q) E s)
  (k:∀b (τ:bf Γ ρ),τ.Vs l m→f b τ.H=some r→Q b τ.s):wpAny Γ.mod A t Q E s :=
 cn e fun q h1 h2=>abr (y q h1) (fun zz zz o=>by induction o with | mk τ e x=>exact k _ τ x (e▸h2)) fun zz zz e=>e
theorem Wa{x:CM Unit}{f:Unit→CM β}{t:Sem Unit}{Q:Unit→Shared→Prop}(e:aa x f H=some r)(y:∀q,x H=some q→wpAny Γ.mod A t (pX Γ ρ l m q) E s)
  (k:∀(τ:bf Γ ρ),τ.Vs l m→f () τ.H=some r→Q () τ.s):wpAny Γ.mod A t Q E s :=
 cn e fun q h1 h2=>abr (y q h1) (fun zz zz o=>by induction o with | mk τ e x=>exact k τ x (e▸h2)) fun zz zz e=>e
theorem Nx{x:CM (List PV)}{f:List PV→CM β}{t:Sem (List Value)}{Q:List Value→Shared→Prop}(e:aa x f H=some r)(y:∀q,x H=some q→wpAny Γ.mod A t (Zg Γ ρ l m q) E s)
  (k:∀p v (τ:bf Γ ρ),τ.Vs p v→τ.Vs l m→f p τ.H=some r→Q v τ.s):wpAny Γ.mod A t Q E s :=
 cn e fun q h1 h2=>abr (y q h1) (fun zz zz o=>by induction o with | mk τ e x y=>exact k _ _ τ x y (e▸h2)) fun zz zz e=>e
end
end
end
end Mine.Sim
namespace Mine.Sim
open PySem PySem.W PyProof.Rows PySem.Calls PySem.SeqAt
noncomputable section
section
variable{β:Type}{H:CH}{r:β×CH}{a b:PV}{u v:Value}{h:Heap}{as:List Slot}
theorem di{x:β}(e:ret x H=some r):r=(x,H):=(aa0 e).symm
theorem bq{c:Bool}{m:CM β}(e:fM c m H=some r):c=true∧m H=some r:=match c,e with
 | true,e=>⟨rfl,e⟩
theorem eu{α:Type}{o:Option α}{f:α→CM β}(e:gN o f H=some r):∃x,o=some x∧f x H=some r:=match o,e with
 | some x,e=>⟨x,rfl,e⟩
theorem lV{o:Option β}(e:LU o H=some r):o=some r.1∧r.2=H:=match o,e with
 | some _,e=>by cases di e;exact⟨rfl,rfl⟩
theorem Q0{f:CH→Option β}(e:rd f H=some r):f H=some r.1∧r.2=H:=by
 unfold rd at e
 generalize q:f H=zq;induction zq with
 | none=>rw[q]at e;exact du e
 | some p=>rw[q]at e;replace e:=zI e;subst e;exact⟨rfl,rfl⟩
theorem Cu{i:Nat}{o:CO}{r:Unit×CH}(e:put i o H=some r):2≤i∧r.2=H.set i o:=by
 induction i with
 | zero=>exact du e
 | succ i=>induction i with
  | zero=>exact du e
  | succ i=>replace e:=zI e;subst e;exact⟨adV ..,rfl⟩
theorem Zl{r:PV×CH}(e:Mine.binop .Add a b H=some r):(∃x,a=.int x∧fD b (fun y=>ret (.int (x+y))) H=some r)∨gv a (fun zz l=>gv b fun zz m=>fM (decide (l.length+m.length<ax)) (new (.list (l++m)))) H=some r:=by
 induction a using PV.casesOn with
 | int x=>exact .inl ⟨x,rfl,e⟩
 | ref zz=>exact .inr e
 | _=>exact du e
theorem Ys{op:UnaryOp}{r:PV×CH}(e:Mine.unop op a H=some r):(op=.USub∧fD a (fun x=>ret (.int (-x))) H=some r)∨∃x,op=.Not∧a=.bool x∧ret (.bool !x) H=some r:=by
 induction op with
 | USub=>exact .inl ⟨rfl,e⟩
 | Not=>induction a using PV.casesOn with
  | bool x=>exact .inr ⟨x,rfl,rfl,e⟩
  | _=>exact du e
 | _=>exact du e
theorem Wm{r:Bool×CH}(e:Mine.truth a H=some r):(∃x,a=.bool x∧ret x H=some r)∨(a=.none∧ret false H=some r)∨gv a (fun zz l=>ret (!l.isEmpty)) H=some r:=by
 induction a using PV.casesOn with
 | bool x=>exact .inl ⟨x,rfl,e⟩
 | none=>exact .inr (.inl ⟨rfl,e⟩)
 | ref zz=>exact .inr (.inr e)
 | _=>exact du e
theorem fX{P:Value→Prop}{f:Int→CM β}(e:fD a f H=some r)(x:VR h as a v)(k:∀i t,f i H=some r→P (.int i t)):P v:=by
 induction a using PV.casesOn with
 | int i=>exact x.elim fun t q=>q▸k i t e
 | _=>exact du e
theorem iP{P:Value→Prop}{f:Nat→CM β}(e:tM a f H=some r)(x:VR h as a v)(k:∀n t,f n H=some r→P (.int (.ofNat n) t)):P v:=by
 induction a using PV.casesOn with
 | int z=>induction z with
  | ofNat n=>exact x.elim fun t q=>q▸k n t e
  | negSucc zz=>exact du e
 | _=>exact du e
@[elab_as_elim] theorem Yq{α β:Type}{R:α→β→Prop}{a b:α}{P:List β→Prop}{m:List β}(x:ay R [a,b] m)(k:∀u v,R a u→R b v→P [u,v]):P m:=by
 induction m with
 | nil=>exact x.elim
 | cons u m=>induction m with
  | nil=>exact x.2.elim
  | cons v m=>induction m with
   | nil=>exact k u v x.1 x.2.1
   | cons _ _=>exact x.2.2.elim
theorem Cr{R:PV→Value→Prop}{P:List Value→Prop}{l:List PV}{m:List Value}{f:PV→CM β}(e:iQ l f H=some r)(x:ay R l m)(k:∀p v,R p v→f p H=some r→P [v]):P m:=by
 induction l with
 | nil=>exact du e
 | cons p l=>induction l with
  | cons _ _=>exact du e
  | nil=>induction m with
   | nil=>exact x.elim
   | cons v m=>induction m with
    | nil=>exact k p v x.1 e
    | cons _ _=>exact x.2.elim
end
section
variable{Γ:Fr}{ρ:bg}
noncomputable def kK(σ:bf Γ ρ)(i:Nat)(l:List PV):Type:={ x:Slot×Array Value×Nat // σ.as[i]?=some x.1∧σ.H[i]?=some (.list l)∧l.length<ax∧x.1.2=x.1.1∧σ.s.heap.get? x.1.1=some (ky x.2.1 x.2.2)∧ay (VR σ.s.heap σ.as) l x.2.1.toList }
noncomputable def lH(σ:bf Γ ρ)(i:Nat)(l:List (PV×PV)):Type:={ x:Slot×Array ac1×Nat // σ.as[i]?=some x.1∧σ.H[i]?=some (.dict l)∧l.length<ax∧x.1.2=x.1.1∧Keyed l∧σ.s.heap.get? x.1.1=some (eh x.2.1 x.2.2)∧ay (ER Γ.W σ.s.heap σ.as) l x.2.1.toList }
noncomputable def vy(σ:bf Γ ρ)(i:Nat)(c:Str)(l:List (Str×PV)):Type:={ x:Slot×Addr×Array ac1×Nat // σ.as[i]?=some x.1∧σ.H[i]?=some (.inst c l)∧l.length<ax∧Γ.W.cls c=some x.2.1∧σ.s.heap.get? x.1.1=some (instObj x.2.1 x.1.2)∧σ.s.heap.get? x.1.2=some (eh x.2.2.1 x.2.2.2)∧ay (FR σ.s.heap σ.as) l x.2.2.1.toList }
section
variable{σ:bf Γ ρ}{i:Nat}{nm:Str}{l:List PV}{d:List (PV×PV)}{fs:List (Str×PV)}
noncomputable abbrev kK.p(c:kK σ i l):Slot:=c.1.1
noncomputable abbrev kK.vs(c:kK σ i l):Array Value:=c.1.2.1
noncomputable abbrev kK.n(c:kK σ i l):Nat:=c.1.2.2
theorem kK.at'(c:kK σ i l):σ.as[i]?=some c.p:=c.2.1
theorem kK.co(c:kK σ i l):σ.H[i]?=some (.list l):=c.2.2.1
theorem kK.lt(c:kK σ i l):l.length<ax:=c.2.2.2.1
theorem kK.eq(c:kK σ i l):c.p.2=c.p.1:=c.2.2.2.2.1
theorem kK.g(c:kK σ i l):σ.s.heap.get? c.p.1=some (ky c.vs c.n):=c.2.2.2.2.2.1
theorem kK.r(c:kK σ i l):ay (VR σ.s.heap σ.as) l c.vs.toList:=c.2.2.2.2.2.2
noncomputable abbrev lH.p(c:lH σ i d):Slot:=c.1.1
noncomputable abbrev lH.es(c:lH σ i d):Array ac1:=c.1.2.1
noncomputable abbrev lH.n(c:lH σ i d):Nat:=c.1.2.2
theorem lH.at'(c:lH σ i d):σ.as[i]?=some c.p:=c.2.1
theorem lH.co(c:lH σ i d):σ.H[i]?=some (.dict d):=c.2.2.1
theorem lH.lt(c:lH σ i d):d.length<ax:=c.2.2.2.1
theorem lH.eq(c:lH σ i d):c.p.2=c.p.1:=c.2.2.2.2.1
theorem lH.k(c:lH σ i d):Keyed d:=c.2.2.2.2.2.1
theorem lH.g(c:lH σ i d):σ.s.heap.get? c.p.1=some (eh c.es c.n):=c.2.2.2.2.2.2.1
theorem lH.r(c:lH σ i d):ay (ER Γ.W σ.s.heap σ.as) d c.es.toList:=c.2.2.2.2.2.2.2
noncomputable abbrev vy.p(c:vy σ i nm fs):Slot:=c.1.1
noncomputable abbrev vy.C(c:vy σ i nm fs):Addr:=c.1.2.1
noncomputable abbrev vy.es(c:vy σ i nm fs):Array ac1:=c.1.2.2.1
noncomputable abbrev vy.n(c:vy σ i nm fs):Nat:=c.1.2.2.2
theorem vy.at'(c:vy σ i nm fs):σ.as[i]?=some c.p:=c.2.1
theorem vy.co(c:vy σ i nm fs):σ.H[i]?=some (.inst nm fs):=c.2.2.1
theorem vy.hC(c:vy σ i nm fs):Γ.W.cls nm=some c.C:=c.2.2.2.2.1
theorem vy.g1(c:vy σ i nm fs):σ.s.heap.get? c.p.1=some (instObj c.C c.p.2):=c.2.2.2.2.2.1
theorem vy.g2(c:vy σ i nm fs):σ.s.heap.get? c.p.2=some (eh c.es c.n):=c.2.2.2.2.2.2.1
theorem vy.r(c:vy σ i nm fs):ay (FR σ.s.heap σ.as) fs c.es.toList:=c.2.2.2.2.2.2.2
end
variable{l:List PV}{m:List Value}{r:PV×CH}{E:Value→Shared→Prop}{A:Around}{β:Type}{q:β×CH}{P:Value→Prop}{a b p:PV}{u v:Value}{h':Heap}
theorem iR(σ:bf Γ ρ){f:Nat→CO→CM β}(e:mO a f σ.H=some q)(x:σ.V a v)(kl:∀i l (c:kK σ i l),f i (.list l) σ.H=some q→P (.ref c.p.1))(kd:∀i l (c:lH σ i l),f i (.dict l) σ.H=some q→P (.ref c.p.1))
  (ki:∀i n l (c:vy σ i n l),f i (.inst n l) σ.H=some q→P (.ref c.p.1)):P v:=by
 induction a using PV.casesOn with
 | ref i =>
  obtain⟨p,e1,rfl⟩:=x
  refine cn e fun z h1 h2=>?_
  unfold get at h1
  generalize h3:σ.H[i]?=zq;induction zq with
  | none=>rw[h3]at h1;exact du h1
  | some o =>
   rw[h3]at h1
   replace h1:=zI h1;subst h1
   have c:=σ.inv.rel i p o e1 h3
   induction o with
   | list l=>obtain⟨vs,n,z,w,g,r⟩:=c;exact kl i l ⟨(p,vs,n),e1,h3,z,w,g,r⟩ h2
   | dict l=>obtain⟨vs,n,z,w,k,g,r⟩:=c;exact kd i l ⟨(p,vs,n),e1,h3,z,w,k,g,r⟩ h2
   | inst c l=>obtain⟨C,vs,n,z,w,k,g,r⟩:=c;exact ki i _ l ⟨(p,C,vs,n),e1,h3,z,w,k,g,r⟩ h2
 | _=>exact du e
theorem eS(σ:bf Γ ρ){f:Nat→List PV→CM β}(e:gv a f σ.H=some q)(x:σ.V a v)(k:∀i l (c:kK σ i l),f i l σ.H=some q→P (.ref c.p.1)):P v:=iR σ e x k (fun zz zz zz e=>du e) fun zz zz zz zz e=>du e
theorem LO(σ:bf Γ ρ){f:Nat→List (PV×PV)→CM β}(e:QL a f σ.H=some q)(x:σ.V a v)(k:∀i l (c:lH σ i l),f i l σ.H=some q→P (.ref c.p.1)):P v:=iR σ e x (fun zz zz zz e=>du e) k fun zz zz zz zz e=>du e
theorem LP(σ:bf Γ ρ){f:Nat→Str→List (Str×PV)→CM β}(e:QM a f σ.H=some q)(x:σ.V a v)(k:∀i n l (c:vy σ i n l),f i n l σ.H=some q→P (.ref c.p.1)):P v:=iR σ e x (fun zz zz zz e=>du e) (fun zz zz zz e=>du e) k
theorem kK.len{σ:bf Γ ρ}{i:Nat}{l:List PV}(c:kK σ i l):c.vs.size=l.length:=c.r.len
theorem kK.small{σ:bf Γ ρ}{i:Nat}{l:List PV}(c:kK σ i l):c.vs.size<10000000:=c.len.symm▸c.lt
theorem kK.size{σ:bf Γ ρ}{i:Nat}{l:List PV}(c:kK σ i l):c.vs.size≤sizeLine:=by have:=c.small;rw[afe];lia
theorem kK.is{σ:bf Γ ρ}{i:Nat}{l:List PV}(c:kK σ i l):σ.s.heap.IsList c.p.1 c.vs:=⟨_,c.g,rfl,c.n,rfl⟩
theorem kK.get{σ:bf Γ ρ}{i:Nat}{l:List PV}(c:kK σ i l){j:Nat}(e:l[j]?=some p):∃v,c.vs[j]?=some v∧σ.V p v:=(by obtain⟨v,h,x⟩:=c.r.get e;exact⟨v,ac8.symm.trans h,x⟩)
theorem lH.sys{σ:bf Γ ρ}{i:Nat}{l:List (PV×PV)}(c:lH σ i l):c.p.1≠aef:=fun h=>σ.inv.sys (h▸fz c.at' (.inl rfl))
theorem lH.size{σ:bf Γ ρ}{i:Nat}{l:List (PV×PV)}(c:lH σ i l):c.es.size≤sizeLine:=by have h:=c.r.len;have k:=c.lt;rw[af1]at h;unfold ax at k;rw[afe];lia
theorem Out.ret(τ:bf Γ ρ)(e:Mine.ret p τ.H=some r)(x:τ.V p v)(V:τ.Vs l m):Out Γ ρ l m r v τ.s:=by cases di e;exact .mk v τ rfl ⟨x,V⟩
theorem sN.ret(τ:bf Γ ρ){b:Bool}{r:Bool×CH}(e:Mine.ret b τ.H=some r)(V:τ.Vs l m):sN Γ ρ l m r b τ.s:=by cases di e;exact .mk τ rfl V
noncomputable def bf.list(σ:bf Γ ρ){a:Addr}{l:List PV}{vs:Array Value}{n:Nat}(hk:∀b o,σ.s.heap.get? b=some o→h'.get? b=some o)(ha:σ.s.heap.get? a=none)(g:h'.get? a=some (ky vs n))(hl:l.length<ax)(r:σ.Vs l vs.toList)(k:Nat):bf Γ ρ :=
 σ.new (co:=.list l) hk (a,a) (fun x hx=>hx.elim (fun e=>e▸ha) fun e=>e▸ha) (.mk vs n hl rfl g (VR.pK (σ.OH hk _) r)) k
theorem Out.list(σ:bf Γ ρ){a:Addr}{k:List PV}{vs:Array Value}{n t:Nat}(e:Mine.new (.list k) σ.H=some r)(hk:∀b o,σ.s.heap.get? b=some o→h'.get? b=some o)(ha:σ.s.heap.get? a=none)(g:h'.get? a=some (ky vs n))(hl:k.length<ax)(x:σ.Vs k vs.toList)(V:σ.Vs l m) :
  Out Γ ρ l m r (.ref a) { σ.s with heap:=h',toks:=t }:=by
 replace e:=zI e;subst e
 exact .mk (.ref a) (σ.list hk ha g hl x t) rfl ⟨σ.IV,VR.pK (σ.OH hk (a,a)) V⟩
theorem Out.push(σ:bf Γ ρ){k:List PV}{vs:Array Value}{t:Nat}(e:Mine.new (.list k) σ.H=some r)(hl:k.length<ax)(x:σ.Vs k vs.toList)(V:σ.Vs l m) :
  Out Γ ρ l m r (.ref σ.s.heap.objs.size) { σ.s with heap:=σ.s.heap.push { cls:=.type "list",data:=.seq vs },toks:=t } :=
 Out.list σ e (fun zz zz e=>aa5 _ e) gO (n:=0) (abP _ rfl) hl x V
theorem Ui{x y:Int}(hx:x.natAbs<1000000):IntMulOk x y:=by
 refine .of_left ?_
 unfold adx.Int.intBits
 split
 ·decide
 ·rename_i h0
  have:x.natAbs.log2<20:=(Nat.log2_lt (by simpa using h0)).mpr (by lia)
  lia
theorem bf.binop(σ:bf Γ ρ){op:agq}(e:binop op a b σ.H=some r)(x:σ.V a u)(y:σ.V b v)(V:σ.Vs l m):wpAny Γ.mod A (binaryOp op u v) (Out Γ ρ l m r) E σ.s:=by
 induction op with
 | Add =>
  obtain⟨i,rfl,e⟩ | e:=Zl e
  ·obtain⟨t,rfl⟩:=x
   exact fX (P:=fun v=>wpAny Γ.mod A (binaryOp .Add (.int i t) v) (Out Γ ρ l m r) E σ.s) e y fun j zz e=>add_int (.ret (σ.tok _) e ⟨_,rfl⟩ V)
  ·refine eS (P:=fun u=>wpAny Γ.mod A (binaryOp .Add u v) (Out Γ ρ l m r) E σ.s) σ e x fun i k c e=>?_
   refine eS (P:=fun v=>wpAny Γ.mod A (binaryOp .Add (.ref c.p.1) v) (Out Γ ρ l m r) E σ.s) σ e y fun j k' d e=>?_
   obtain⟨h,e⟩:=bq e
   have h:=of_decide_eq_true h
   refine P.add_list c.g d.g (.push σ e (by rw[aaA];exact h) (by rw[Array.toList_append];exact c.r.append d.r) V) ?_
   rw[c.len];rw[d.len];rw[afe];unfold ax at h;lia
 | Sub=>exact fX (P:=fun u=>wpAny Γ.mod A (binaryOp .Sub u v) (Out Γ ρ l m r) E σ.s) e x fun i t e=>fX (P:=fun v=>wpAny Γ.mod A (binaryOp .Sub (.int i t) v) (Out Γ ρ l m r) E σ.s) e y fun j zz e=>sub_int (.ret (σ.tok _) e ⟨_,rfl⟩ V)
 | Mult =>
  exact fX (P:=fun u=>wpAny Γ.mod A (binaryOp .Mult u v) (Out Γ ρ l m r) E σ.s) e x fun i t e=>fX (P:=fun v=>wpAny Γ.mod A (binaryOp .Mult (.int i t) v) (Out Γ ρ l m r) E σ.s) e y fun j zz e=>have g:=bq e;mul_int (.ret (σ.tok _) g.2 ⟨_,rfl⟩ V) (Ui (of_decide_eq_true g.1))
 | Mod =>
  refine fX (P:=fun u=>wpAny Γ.mod A (binaryOp .Mod u v) (Out Γ ρ l m r) E σ.s) e x fun i t e=>fX (P:=fun v=>wpAny Γ.mod A (binaryOp .Mod (.int i t) v) (Out Γ ρ l m r) E σ.s) e y fun j zz e=>have g:=bq e;have h:=of_decide_eq_true g.1;mod_int (Int.ne_of_gt h) ?_
  rw[Int.fmod_eq_emod_of_nonneg _ (ag8 h)]
  exact .ret (σ.tok _) g.2 ⟨_,rfl⟩ V
 | BitAnd =>
  refine iP (P:=fun u=>wpAny Γ.mod A (binaryOp .BitAnd u v) (Out Γ ρ l m r) E σ.s) e x fun i t e=>iP (P:=fun v=>wpAny Γ.mod A (binaryOp .BitAnd (.int (.ofNat i) t) v) (Out Γ ρ l m r) E σ.s) e y fun j zz e=>and_int ?_
  rewrite[show adx.bitAnd (aeJ i) (aeJ j)=aeJ (i &&& j)from bitAnd_pp (aey i) (aey j)]
  exact .ret (σ.tok _) e ⟨_,rfl⟩ V
 | _=>exact du e
theorem bf.unop(σ:bf Γ ρ){op:UnaryOp}(e:unop op a σ.H=some r)(x:σ.V a u)(V:σ.Vs l m):wpAny Γ.mod A (unaryOp op u) (Out Γ ρ l m r) E σ.s:=by
 obtain⟨rfl,e⟩ | ⟨b,rfl,rfl,e⟩:=Ys e
 ·exact fX (P:=fun u=>wpAny Γ.mod A (unaryOp .USub u) (Out Γ ρ l m r) E σ.s) e x fun i t e=>neg_int (.ret (σ.tok _) e ⟨_,rfl⟩ V)
 ·obtain rfl:=x;exact PySem.not_value (aed (.ret σ e rfl V))
theorem bf.truth(σ:bf Γ ρ){r:Bool×CH}(e:truth a σ.H=some r)(x:σ.V a u)(V:σ.Vs l m):wpAny Γ.mod A (truthy u) (sN Γ ρ l m r) E σ.s:=by
 obtain⟨b,rfl,e⟩ | ⟨rfl,e⟩ | e:=Wm e
 ·obtain rfl:=x;exact aed (.ret σ e V)
 ·obtain rfl:=x;exact truthy_none (.ret σ e V)
 ·refine eS (P:=fun u=>wpAny Γ.mod A (truthy u) (sN Γ ρ l m r) E σ.s) σ e x fun i k c e=>wpAny_truthy_list c.is (by have:=c.small;lia) ?_
  rewrite[show(!c.vs.isEmpty)=!k.isEmpty from by rewrite[Array.isEmpty];rw[c.len];cases k <;> rfl]
  exact .ret (σ.tok _) e V
end
end
end Mine.Sim
namespace Mine.Sim
open PySem PySem.W PyProof.Rows PySem.Calls PySem.SeqAt
noncomputable section
theorem jY:∀{l:List PV} {x:List Int},ib l=some x→l=x.map .int:=fun{l}=>by
 induction l with
 | nil=>intro x h;replace h:=zI h;subst h;rfl
 | cons p r ih=>intro x h;induction p using PV.casesOn with
  | int i =>
   dsimp only[ib]at h
   generalize q:ib r=zq;induction zq with
   | none=>rw[q]at h;exact du h
   | some y=>rw[q]at h;replace h:=zI h;subst h;exact congrArg _ (ih q)
  | _=>exact du h
theorem HH:∀x y:List Int,(x == y)=qe (x.map .int) (y.map .int)
 | [],[]=>rfl
 | [],_::_=>rfl
 | _::_,[]=>rfl
 | a::r,b::t=>congrArg ((a == b)&&·) (HH r t)
theorem Z0{a b:List PV}{c:Bool}(e:ZZ a b=some c):c=qe a b∧(a.length=b.length→∀p,p∈a∨p∈b→fN p=true):=by
 have keys:∀{x:List Int} {p:PV},p∈x.map PV.int→fN p=true:=fun h=>(by obtain⟨zz,zz,e⟩:=abi.mp h;exact e▸rfl)
 have one:UP a b=some c→c=qe a b∧(a.length=b.length→∀p,p∈a∨p∈b→fN p=true):=fun e=>match a,b,e with
  | [],_::_,e=>⟨(aa0 e).symm,fun e=>zC id e rfl⟩
  | _::_,[],e=>⟨(aa0 e).symm,fun e=>zC id e rfl⟩
 unfold ZZ Bt at e
 generalize hx:ib a=zq;induction zq with
 | none=>rw[hx]at e;exact one e
 | some x =>
  generalize hy:ib b=zq;induction zq with
  | none=>rw[hx,hy]at e;exact one e
  | some y =>
   rw[hx,hy]at e
   replace e:=zI e;subst e
   obtain rfl:=jY hx
   obtain rfl:=jY hy
   exact⟨HH ..,fun zz p hp=>hp.elim keys keys⟩
inductive Zj (H:CH):PV→PV→Bool→Prop
 | bool (a b:Bool):Zj H (.bool a) (.bool b) (a == b)
 | key (a b:PV) (h:fN a=true) (k:fN b=true):Zj H a b (gw a b)
 | list (i j:Nat) (l m:List PV) (n:i≠j) (h:H[i]?=some (.list l)) (k:H[j]?=some (.list m)) (c:Bool) (e:ZZ l m=some c):Zj H (.ref i) (.ref j) c
 | dict (i j:Nat) (n:i≠j) (h:H[i]?=some (.dict [])) (k:H[j]?=some (.dict [])):Zj H (.ref i) (.ref j) true
theorem Ur{H:CH}{a b:PV}{c:Bool}(e:Uq a b=some c):Zj H a b c:=by
 unfold Uq at e
 generalize h:fN a=zq;induction zq with
 | false=>rw[h]at e;exact du e
 | true =>
  generalize k:fN b=zq;induction zq with
  | false=>rw[h,k]at e;exact du e
  | true=>rw[h,k]at e;replace e:=zI e;subst e;exact .key a b h k
theorem W6{o q:CO}{c:Bool}(e:Zx o q=some c):(∃l m,o=.list l∧q=.list m∧ZZ l m=some c)∨(o=.dict []∧q=.dict []∧true=c):=by
 induction o with
 | list l=>induction q with
  | list m=>exact .inl ⟨l,m,rfl,rfl,e⟩
  | _=>exact du e
 | dict l=>induction q with
  | dict m=>induction l with
   | nil=>induction m with
    | nil=>exact .inr ⟨rfl,rfl,aa0 e⟩
    | cons _ _=>exact du e
   | cons _ _=>exact du e
  | _=>induction l with | nil=>exact du e | cons _ _=>exact du e
 | inst _ _=>exact du e
theorem V2{H:CH}{i j:Nat}{c:Bool}(e:Nk H i j=some c):Zj H (.ref i) (.ref j) c:=by
 unfold Nk at e
 generalize n:ael i j=zq;induction zq with
 | true=>rw[n]at e;exact du e
 | false =>
  generalize h:H[i]?=zq;induction zq with
  | none=>rw[n,h]at e;exact du e
  | some o =>
   generalize k:H[j]?=zq;induction zq with
   | none=>rw[n,h,k]at e;exact du e
   | some q =>
    rw[n,h,k]at e
    have n:=afk n
    obtain⟨l,m,rfl,rfl,e⟩ | ⟨rfl,rfl,rfl⟩:=W6 e
    ·exact .list i j _ _ n h k c e
    ·exact .dict i j n h k
theorem aaL{H:CH}{a b:PV}{c:Bool}(e:H4 H a b=some c):Zj H a b c:=by
 induction a using PV.casesOn with
 | bool x=>induction b using PV.casesOn with
  | bool zz=>replace e:=zI e;subst e;exact .bool _ _
  | _=>exact du e
 | ref i=>induction b using PV.casesOn with
  | ref zz=>exact V2 e
  | _=>exact du e
 | _=>exact Ur e
section
variable{A:Around}{E:Value→Shared→Prop}{s:Shared}
theorem RE{l m:List PV}{R:PV→Value→Prop}{vs ws:Array Value}{a b:Addr}(lx:s.heap.IsList a vs)(ly:s.heap.IsList b ws)(hu:A.units<cLine)(r:ay R l vs.toList)(z:ay R m ws.toList)(n:a≠b)
  (k:l.length=m.length→∀p v q u,p∈l→q∈m→R p v→R q u→EqAt A.in1 s v u (gw p q)):Zf A s (.ref a) (.ref b) (qe l m):=by
 have hz:vs.size=l.length:=r.len
 have hw:ws.size=m.length:=z.len
 have fin:RcAt A s (.ref a) (.ref b) (qe l m)∧RcNeAt A s (.ref a) (.ref b) (!qe l m):=by
  rw[tO];rewrite[← hz,← hw]
  by_cases hl:vs.size=ws.size
  ·have he:=B5 (l:=l) (m:=m) (R:=fun p v=>p∈l∧R p v) (S:=fun p v=>p∈m∧R p v) (A:=A.in1) (s:=s) (r.QK fun zz h zz x=>⟨h,x⟩) (z.QK fun zz h zz x=>⟨h,x⟩) fun p v q u x y=>k (hz.symm.trans (hl.trans hw)) p v q u x.1 y.1 x.2 y.2
   rw[show(vs.size == ws.size)=true from beq_iff_eq.mpr hl];rw[agL];rewrite[← hl];rw[Nat.min_self]
   exact⟨RcAt.lists lx ly hl hu he,RcNeAt.lists lx ly hl hu he⟩
  ·rw[show(vs.size == ws.size)=false from beq_eq_false_iff_ne.mpr hl];rw[agF]
   exact⟨RcAt.lists_lengths lx ly (bne_iff_ne.mpr hl) hu,RcNeAt.lists_lengths lx ly (bne_iff_ne.mpr hl) hu⟩
 exact⟨EqAt.of_refs n fin.1,fin.1,fin.2⟩
theorem ET{prog:afR}{w:World}{l b:Addr}{n n2:Nat}{name:String}(hl:s.heap.get? l=some (eh #[] n))(hb:s.heap.get? b=some (eh #[] n2))(ZP:l≠aef)(hb0:b≠aef){Q:Bool→Shared→Prop}(h:Q true s):wpAny (model prog w) A (adx.Dict.samePairs name l b) Q E s:=by
 unfold adx.Dict.samePairs adx.Dict.showsAll
 rewrite[if_neg (by simpa using ZP),if_neg (by simpa using hb0)]
 refine aat (aa1 (aat (aa1 ?_)))
 refine aat (afW hl rfl ?_)
 refine aat (afW hb rfl ?_)
 refine aat (wpAny_dictEpoch hl rfl ?_)
 refine aat ?_
 rw[Std.Legacy.Range.forIn_eq_forIn_range']
 exact(show wpAny _ _ (pure (none,())) _ _ s from aa1 (aa1 h))
end
end
end Mine.Sim
namespace Mine.Sim
open PySem PySem.W PyProof.Rows PySem.Calls PySem.SeqAt
noncomputable section
theorem VR.only{h:Heap}{as:List Slot}(D:Dis as)(N:∀a vs,IsTup h a vs→¬gm as a){p:PV}{v:Value}(x:VR h as p v):∀{q:PV},VR h as q v→p=q :=
 VR.ind (P:=fun p v=>∀{q:PV},VR h as q v→p=q)
  (fun{q} y=>VR.ind (P:=fun q v=>v=.none→.none=q) (fun zz=>rfl) (fun zz e=>zC aa6 e rfl) (fun zz zz e=>zC aa6 e rfl) (fun zz zz e=>zC aa6 e rfl) (fun zz zz zz e=>zC aa6 e rfl) (fun zz zz zz zz zz zz e=>zC aa6 e rfl) y rfl)
  (fun b {q} y=>VR.ind (P:=fun q v=>v=.bool b→.bool b=q) (fun e=>zC aa6 e rfl) (fun zz e=>congrArg PV.bool (agD.inj e).symm) (fun zz zz e=>zC aa6 e rfl) (fun zz zz e=>zC aa6 e rfl) (fun zz zz zz e=>zC aa6 e rfl) (fun zz zz zz zz zz zz e=>zC aa6 e rfl) y rfl)
  (fun i t {q} y=>VR.ind (P:=fun q v=>v=.int i t→.int i=q) (fun e=>zC aa6 e rfl) (fun zz e=>zC aa6 e rfl) (fun zz zz e=>congrArg PV.int (ahj e).1.symm) (fun zz zz e=>zC aa6 e rfl) (fun zz zz zz e=>zC aa6 e rfl) (fun zz zz zz zz zz zz e=>zC aa6 e rfl) y rfl)
  (fun i t {q} y=>VR.ind (P:=fun q v=>v=.str i t→.str i=q) (fun e=>zC aa6 e rfl) (fun zz e=>zC aa6 e rfl) (fun zz zz e=>zC aa6 e rfl) (fun zz zz e=>congrArg PV.str (ahi e).1.symm) (fun zz zz zz e=>zC aa6 e rfl) (fun zz zz zz zz zz zz e=>zC aa6 e rfl) y rfl)
  (fun i p e1 {q} y=>VR.ind (P:=fun q v=>v=.ref p.1→.ref i=q) (fun e=>zC aa6 e rfl) (fun zz e=>zC aa6 e rfl) (fun zz zz e=>zC aa6 e rfl) (fun zz zz e=>zC aa6 e rfl)
   (fun j q e2 e=>congrArg PV.ref (Decidable.byContradiction fun n=>(D i j p q n e1 e2 p.1 (.inl rfl)).1 (ad9 e).symm)) (fun zz zz zz t zz zz e=>(N _ _ t (fz e1 (.inl (ad9 e)))).elim) y rfl)
  (fun l a vs t _ r {q} y=>VR.ind (P:=fun q v=>v=.ref a→.tup l=q) (fun e=>zC aa6 e rfl) (fun zz e=>zC aa6 e rfl) (fun zz zz e=>zC aa6 e rfl) (fun zz zz e=>zC aa6 e rfl)
   (fun j q e2 e=>(N _ _ t (fz e2 (.inl (ad9 e).symm))).elim) (fun k b ws t' z zz e=>congrArg PV.tup (by
    rw[ad9 e]at t'
    rw[E0 t' t,E7.all]at z
    exact((r.uniq z).imp (by rintro _ _ ⟨_,f,y⟩;exact f y)).eq)) y rfl) x
theorem VR.QJ{h:Heap}{as:List Slot}{p:PV}{v:Value}(x:VR h as p v):p≠.none→v≠.none :=
 VR.ind (P:=fun p v=>p≠.none→v≠.none) (fun n=>(n rfl).elim) (fun zz zz=>(fun z=>zC aa6 z rfl)) (fun zz zz zz=>(fun z=>zC aa6 z rfl)) (fun zz zz zz=>(fun z=>zC aa6 z rfl)) (fun zz zz zz zz=>(fun z=>zC aa6 z rfl)) (fun zz zz zz zz zz zz zz=>(fun z=>zC aa6 z rfl)) x
theorem Ud{H:CH}{x:PV}:∀{l:List PV} {c:Bool},has H x l=some c→(∀p∈l,H4 H p x=some ((H4 H p x).getD false))∧(l.any fun p=>(H4 H p x).getD false)=c
 | [],c,h=>⟨fun zz h=>(zM h),aa0 h⟩
 | y::r,c,h=>by
  dsimp only[has]at h
  generalize q:H4 H y x=zq;induction zq with
  | none=>rw[q]at h;exact du h
  | some b =>
   generalize q':has H x r=zq;induction zq with
   | none=>rw[q,q']at h;exact du h
   | some b' =>
    rw[q,q']at h
    have i:=Ud q'
    exact⟨fun p hp=>(aa2.mp hp).elim (fun e=>by rw[e];rw[q];rfl) (i.1 p),by rw[aeL];rw[i.2];rw[q];exact aa0 h⟩
section
variable{Γ:Fr}{ρ:bg}{l:List PV}{m:List Value}{r:PV×CH}{E:Value→Shared→Prop}{A:Around}{a b x p:PV}{u v:Value}{c:Bool}
theorem bf.cmp(σ:bf Γ ρ)(e:H4 σ.H a b=some c)(hu:A.units+10<cLine)(x:σ.V a u)(y:σ.V b v):Zf A σ.s u v c:=by
 cases aaL e with
 | bool a b=>obtain rfl:=x;obtain rfl:=y;exact⟨EqAt.bool_bool _ _,RcAt.bool_bool _ _,RcNeAt.bool_bool _ _⟩
 | key a b h k=>exact W5 7 (KR.of 6 h x) (KR.of 6 k y) (by lia)
 | list i j l m n h k c e =>
  obtain⟨p,e1,rfl⟩:=x
  obtain⟨q,e2,rfl⟩:=y
  obtain⟨vs,n1,zz,zz,g,r⟩:=σ.inv.rel i p _ e1 h
  obtain⟨ws,n2,zz,zz,g',r'⟩:=σ.inv.rel j q _ e2 k
  obtain⟨rfl,k⟩:=Z0 e
  exact RE ⟨_,g,rfl,n1,rfl⟩ ⟨_,g',rfl,n2,rfl⟩ (by lia) r r' (σ.inv.ZA i j p q n e1 e2 p.1 (.inl rfl)).1 fun hl p v q u hp hq x y=>fy 7 (KR.of 6 (k hl p (.inl hp)) x) (KR.of 6 (k hl q (.inr hq)) y) (by rw[ac9];lia)
 | dict i j n h k =>
  obtain⟨p,e1,rfl⟩:=x
  obtain⟨q,e2,rfl⟩:=y
  obtain⟨es,n1,zz,zz,zz,g,r⟩:=σ.inv.rel i p _ e1 h
  obtain⟨Oc,n2,zz,zz,zz,g',r'⟩:=σ.inv.rel j q _ e2 k
  obtain rfl:es=#[]:=afo r.len
  obtain rfl:Oc=#[]:=afo r'.len
  have y1:p.1≠aef:=fun h=>σ.inv.sys (h▸fz e1 (.inl rfl))
  have y2:q.1≠aef:=fun h=>σ.inv.sys (h▸fz e2 (.inl rfl))
  have rc:RcAt A σ.s (.ref p.1) (.ref q.1) true:=fun prog w E Q h =>
   richCompare_meets_room (op:=.Eq) ⟨_,g,rfl⟩ ⟨_,g',rfl⟩ F.slot_dict_eq F.entry_dict_eq (F.args_dict_eq_2 _ _) (.of_wp (S:=fun zz R s=>s.heap.get? p.1=some (eh #[] n1)∧s.heap.get? q.1=some (eh #[] n2)∧R (.ok (.ret (.bool true))) s) fun prog w A R s h=>by
    obtain⟨hl,hb,h⟩:=h
    show wpAny _ _ (isInstance (.ref q.1) (.type "dict") >>= _) _ _ s
    refine aat (agH ⟨_,hb,rfl⟩ isSubtype_dict_dict ?_)
    show wpAny _ _ (adx.Dict.samePairs _ p.1 q.1 >>= _) _ _ s
    exact aat (ET hl hb y1 y2 (aa1 ⟨_,rfl,h⟩))) ⟨g,g',show agD true≠agV∧Q (.bool true) σ.s from⟨(fun z=>zC aa6 z rfl),h⟩⟩ (by lia)
  have ne:RcNeAt A σ.s (.ref p.1) (.ref q.1) false:=fun prog w E Q h =>
   richCompare_meets_room (op:=.NotEq) ⟨_,g,rfl⟩ ⟨_,g',rfl⟩ F.slot_dict_ne F.entry_dict_ne (F.args_dict_ne_2 _ _) (.of_wp (S:=fun zz R s=>s.heap.get? p.1=some (eh #[] n1)∧s.heap.get? q.1=some (eh #[] n2)∧R (.ok (.ret (.bool false))) s) fun prog w A R s h=>by
    obtain⟨hl,hb,h⟩:=h
    show wpAny _ _ (isInstance (.ref q.1) (.type "dict") >>= _) _ _ s
    refine aat (agH ⟨_,hb,rfl⟩ isSubtype_dict_dict ?_)
    show wpAny _ _ (adx.Dict.samePairs _ p.1 q.1 >>= _) _ _ s
    exact aat (ET hl hb y1 y2 (aa1 ⟨_,rfl,h⟩))) ⟨g,g',show agD false≠agV∧Q (.bool false) σ.s from⟨(fun z=>zC aa6 z rfl),h⟩⟩ (by lia)
  exact⟨EqAt.of_refs (σ.inv.ZA i j p q n e1 e2 p.1 (.inl rfl)).1 rc,rc,ne⟩
theorem bf.has(σ:bf Γ ρ){l:List PV}{vs:Array Value}(e:has σ.H x l=some c)(hu:A.units+11<cLine)(r:σ.Vs l vs.toList)(hv:σ.V x u):∃f:Value→Bool,(∀y,y∈vs→EqAt A.in1 σ.s y u (f y))∧vs.any f=c:=by
 classical
 obtain⟨h1,rfl⟩:=Ud e
 let g:PV→Bool:=fun p=>(H4 σ.H p x).getD false
 let f:Value→Bool:=fun v=>decide (∃p,σ.V p v∧g p=true)
 have R:ay (fun p v=>f v=g p∧EqAt A.in1 σ.s v u (g p)) l vs.toList:=r.QK fun p hp v y=>⟨(by
  generalize q:g p=zq;induction zq with
  | true=>exact decide_eq_true ⟨p,y,q⟩
  | false=>exact decide_eq_false (by rintro⟨p',y',q'⟩;exact by rw[VR.only σ.inv.ZA (fun zz zz=>σ.inv.aab) y y',q']at q;exact rr q)),(σ.cmp (A:=A.in1) (h1 p hp) (by rw[ac9];lia) y hv).eq⟩
 refine⟨f,fun y hy=>(by obtain⟨p,zz,e,h⟩:=R.mem (afX.mpr hy);exact by rw[e];exact h),?_⟩
 rewrite[← Array.any_toList]
 exact R.ind (P:=fun l m=>m.any f=l.any g) rfl fun p v l m e zz ih=>by rw[aeL];rw[aeL];rw[e.1];rw[ih];rfl
end
end
end Mine.Sim
namespace Mine.Sim
open PySem PySem.W PyProof.Rows PySem.Calls PySem.SeqAt
noncomputable section
noncomputable def ORV(h:Heap)(as:List Slot):Option PV→Option Value→Prop
 | none,none=>True
 | some p,some v=>VR h as p v
 | none,some _=>False
 | some _,none=>False
section
variable{W:Wd}{A:Around}{E:Value→Shared→Prop}{s:Shared}{as:List Slot}{l:List (PV×PV)}{k:PV}{v:Value}{d:Addr}{es:Array ac1}{n:Nat}
theorem rB{Q:Option Value→Shared→Prop}(hu:A.units+10<cLine)(hk:cy k l=true)(hd:Keyed l)(ho:s.heap.get? d=some (eh es n))(he:ay (ER W s.heap as) l es.toList)(hv:VR s.heap as k v)
  (h:∀o t,ORV s.heap as (br k l) o→Q o { s with toks:=t }):wpAny (model W.prog W.w) A (dictGet d v) Q E s:=by
 unfold dictGet
 refine abK (aat (lY (s:=s) (k:=s.toks) 7 (KR.of 6 (yS hk).1 hv) (by lia) ?_))
 refine aat (oo (s:={ s with toks:=s.toks+ie k }) hu hk hd ho he hv ?_)
 have f:=Qo k l
 generalize (l.findIdx? fun p=>gw p.1 k)=o at f ⊢
 induction f with
 | no f _=>exact aa1 (h none _ (by rw[f];trivial))
 | yes i q a f _ _ =>
  obtain⟨e,b,zz,c,zz⟩:=he.get a
  refine aat (afW (s:={ s with toks:=s.toks+ie k }) ho rfl (aa1 ?_))
  rewrite[← ac8];rw[b]
  exact h (some _) _ (by rw[f];exact c)
noncomputable def Put(W:Wd)(as:List Slot)(s:Shared)(d:Addr)(l:List (PV×PV))(s':Shared):Prop :=
 ∃h' es n t,s'={ s with heap:=h',toks:=t }∧h'.get? d=some (eh es n)∧ay (ER W s.heap as) l es.toList∧adO d s.heap h'
theorem N5{vv:PV}{u:Value}{Q:Unit→Shared→Prop}(hu:A.units+10<cLine)(hk:cy k l=true)(hd:Keyed l)(ho:s.heap.get? d=some (eh es n))(he:ay (ER W s.heap as) l es.toList)(hv:VR s.heap as k v)(YM:VR s.heap as vv u)(hz:es.size≤sizeLine)
  (h:∀s',Put W as s d (gy k vv l) s'→Q () s'):wpAny (model W.prog W.w) A (dictSet d v u) Q E s:=by
 unfold dictSet
 refine abK (aat (lY (s:=s) (k:=s.toks) 7 (KR.of 6 (yS hk).1 hv) (by lia) ?_))
 unfold dictSetHashed
 refine abK (aat (oo (s:={ s with toks:=s.toks+ie k }) hu hk hd ho he hv ?_))
 have f:=Qo k l
 generalize (l.findIdx? fun p=>gw p.1 k)=o at f ⊢
 induction f with
 | no _ p =>
  refine aat (agu (wpAny_updateDictKeys (hz:=hz) (s:={ s with toks:=s.toks+ie k }) ho rfl (h _ ⟨_,es.push ⟨km W.w k,v,u⟩,n+1,_,rfl,afq _ ho rfl,?_,adh ..⟩)))
  rw[p];rw[afj]
  exact he.append ⟨⟨hv,YM,rfl⟩,trivial⟩
 | yes i q _ _ p _ =>
  refine aat (agu (aat (wpAny_updateDict (s:={ s with toks:=s.toks+ie k }) ho rfl (wpAny_point (h _ ⟨_,es.modify i fun e=>{ e with val:=u },n,_,rfl,afq _ ho rfl,?_,adh ..⟩)))))
  rw[p];rw[ag9]
  exact he.modify (fun zz zz x=>⟨x.1,YM,x.2.2⟩) i
theorem qL{Q:Bool→Shared→Prop}(hu:A.units+12<cLine)(hs:d≠aef)(hk:cy k l=true)(hd:Keyed l)(ho:s.heap.get? d=some (eh es n))(he:ay (ER W s.heap as) l es.toList)(hv:VR s.heap as k v)(h:∀n,Q (br k l).isSome { s with toks:=n }) :
  wpAny (model W.prog W.w) A (PySem.contains (.ref d) v) Q E s:=by
 have hT:s.TypeIs (.ref d) "dict":=⟨_,ho,rfl⟩
 refine contains_slot hT slot_dict_contains (adP slot_dict_contains hT entry_dict_contains ?_ (args_dict_contains _ _))
 show wpAny _ _ (dictGet d v >>= _) _ _ s
 refine aat (rB (by rw[ac9];lia) hk hd ho he hv fun o t ho=>?_)
 generalize br k l=f at ho h
 induction o with
 | none =>
  induction f with
  | some zz=>exact ho.elim
  | none =>
   show wpAny _ _ (adx.Dict.pendingKey? d v >>= _) _ _ _
   exact aat (wpAny_pendingKey_other (by simpa using hs) (aa1 ⟨_,rfl,aed (h _)⟩))
 | some u =>
  induction f with
  | none=>exact ho.elim
  | some p=>exact aa1 ⟨_,rfl,aed (h _)⟩
end
section
variable{Γ:Fr}{ρ:bg}{l:List PV}{m:List Value}{r:Bool×CH}{E:Value→Shared→Prop}{A:Around}{a b x c:PV}{u v:Value}{op:CmpOp}
noncomputable def WN(Γ:Fr)(A:Around)(E:Value→Shared→Prop)(s:Shared)(u v:Value)(c:Bool):Prop:=∀{Q:Value→Shared→Prop},((∀k,Q (.bool c) { s with toks:=k })→wpAny Γ.mod A (afy .In u v) Q E s)∧((∀k,Q (.bool !c) { s with toks:=k })→wpAny Γ.mod A (afy .NotIn u v) Q E s)
theorem KF{H:CH}(e:Mine.contains x c H=some r):(∃l,c=.tup l∧rd (fun H=>has H x l) H=some r)∨mO c (fun zz q=>match q with
  | .list l=>rd fun H=>has H x l
  | .dict l=>fM (cy x l) (ret (br x l).isSome)
  | .inst _ _=>bc) H=some r:=by
 induction c using PV.casesOn with
 | tup l=>exact .inl ⟨l,rfl,e⟩
 | ref zz=>exact .inr e
 | _=>exact du e
theorem bf.contains(σ:bf Γ ρ)(e:Mine.contains x c σ.H=some r)(hu:A.units+12<cLine)(hx:σ.V x u)(hc:σ.V c v):WN Γ A E σ.s u v r.1∧r.2=σ.H:=by
 have lst:∀i l (d:kK σ i l),rd (fun H=>Mine.has H x l) σ.H=some r→WN Γ A E σ.s u (.ref d.p.1) r.1∧r.2=σ.H:=fun i l d e=>by
  obtain⟨e,z⟩:=Q0 e
  obtain⟨f,f1,f2⟩:=σ.has (A:=A) e (by lia) d.r hx
  exact⟨⟨fun h=>in_listAt f d.is f1 (f2▸h _),fun h=>notIn_listAt f d.is f1 (f2▸h _)⟩,z⟩
 have dct:∀i l (d:lH σ i l),fM (cy x l) (ret (br x l).isSome) σ.H=some r→WN Γ A E σ.s u (.ref d.p.1) r.1∧r.2=σ.H:=fun i l d e=>by
  obtain⟨h,e⟩:=bq e
  cases di e
  refine⟨⟨fun k=>?_,fun k=>?_⟩,rfl⟩
  ·show wpAny _ _ (do return agD (← PySem.contains (.ref d.p.1) u)) _ E _
   exact aat (qL hu d.sys h d.k d.g d.r hx fun zz=>aa1 (k _))
  ·show wpAny _ _ (do return agD (!(← PySem.contains (.ref d.p.1) u))) _ E _
   exact aat (qL hu d.sys h d.k d.g d.r hx fun zz=>aa1 (k _))
 obtain⟨l,rfl,e'⟩ | e':=KF e
 ·obtain⟨e',z⟩:=Q0 e'
  obtain⟨t,vs,rfl,ht,r⟩:=hc
  obtain⟨f,f1,f2⟩:=σ.has (A:=A) e' (by lia) (E7.all▸r) hx
  exact⟨⟨fun h=>in_tupleAt f ht f1 (f2▸h _),fun h=>notIn_tupleAt f ht f1 (f2▸h _)⟩,z⟩
 ·exact iR (P:=fun v=>WN Γ A E σ.s u v r.1∧r.2=σ.H) σ e' hc lst dct fun zz zz zz zz e=>du e
theorem Qx{H:CH}(e:Xz a b H=some r):b=.none∧r.2=H∧((a=.none∧r.1=true)∨(a≠.none∧r.1=false)):=by
 induction b using PV.casesOn with
 | none=>induction a using PV.casesOn with
  | none=>cases di e;exact⟨rfl,rfl,.inl ⟨rfl,rfl⟩⟩
  | ref zz=>cases di e;exact⟨rfl,rfl,.inr ⟨(fun z=>zC PV.ctorIdx z rfl),rfl⟩⟩
  | int zz=>cases di e;exact⟨rfl,rfl,.inr ⟨(fun z=>zC PV.ctorIdx z rfl),rfl⟩⟩
  | _=>exact du e
 | _=>exact du e
theorem bf.ae(σ:bf Γ ρ)(e:Mine.ae op a b σ.H=some r)(hu:A.units+12<cLine)(x:σ.V a u)(y:σ.V b v)(V:σ.Vs l m):wpAny Γ.mod A (afy op u v) (Out Γ ρ l m (.bool r.1,r.2)) E σ.s:=by
 have fin:∀{c:Bool} (k:Nat),c=r.1→r.2=σ.H→Out Γ ρ l m (.bool r.1,r.2) (.bool c) { σ.s with toks:=k }:=fun k h e=>by subst h;exact .mk _ (σ.tok k) e.symm ⟨rfl,V⟩
 have int:∀{f:Int→Int→Bool},fD a (fun x=>fD b fun y=>ret (f x y)) σ.H=some r→(∀x y t t',Out Γ ρ l m (.bool r.1,r.2) (.bool (f x y)) σ.s→wpAny Γ.mod A (afy op (.int x t) (.int y t')) (Out Γ ρ l m (.bool r.1,r.2)) E σ.s)→wpAny Γ.mod A (afy op u v) (Out Γ ρ l m (.bool r.1,r.2)) E σ.s:=fun{f} e k =>
  fX (P:=fun u=>wpAny Γ.mod A (afy op u v) (Out Γ ρ l m (.bool r.1,r.2)) E σ.s) e x fun i t e=>fX (P:=fun v=>wpAny Γ.mod A (afy op (.int i t) v) (Out Γ ρ l m (.bool r.1,r.2)) E σ.s) e y fun j t' e=>k i j t t' (fin σ.s.toks (congrArg (·.1) (di e)).symm (congrArg (·.2) (di e)))
 induction op with
 | Eq=>obtain⟨e,z⟩:=Q0 (f:=fun H=>H4 H a b) e;exact EqBoolInt.of_rc (σ.cmp e (by lia) x y).rc (fin σ.s.toks rfl z)
 | NotEq=>exact cn (x:=rd fun H=>H4 H a b) (f:=fun r=>ret (!r)) e fun q h1 h2=>by obtain⟨e',z⟩:=Q0 h1;cases di h2;exact EqBoolInt.of_rcne (σ.cmp e' (by lia) x y).ne (fin σ.s.toks rfl z)
 | Lt=>exact int e fun zz zz zz zz=>lt_int
 | LtE=>exact int e fun zz zz zz zz=>le_int
 | Gt=>exact int e fun zz zz zz zz=>gt_int
 | GtE=>exact int e fun zz zz zz zz=>ge_int
 | Is =>
  obtain⟨rfl,z,⟨rfl,h⟩ | ⟨n,h⟩⟩:=Qx e
  ·obtain rfl:=x;obtain rfl:=y;exact is_none_none (fin σ.s.toks h.symm z)
  ·obtain rfl:=y;exact is_none_ne (x.QJ n) (fin σ.s.toks h.symm z)
 | IsNot =>
  exact cn (x:=Xz a b) (f:=fun r=>ret (!r)) e fun q h1 h2=>by
   cases di h2
   obtain⟨rfl,z,⟨rfl,h⟩ | ⟨n,h⟩⟩:=Qx h1
   ·obtain rfl:=x;obtain rfl:=y;exact isnot_none_none (fin σ.s.toks (congrArg not h).symm z)
   ·obtain rfl:=y;exact isnot_none_ne (x.QJ n) (fin σ.s.toks (congrArg not h).symm z)
 | In=>have h:=σ.contains (E:=E) e hu x y;exact h.1.1 fun k=>fin k rfl h.2
 | NotIn=>exact cn (x:=Mine.contains a b) (f:=fun r=>ret (!r)) e fun q h1 h2=>by cases di h2;have h:=σ.contains (E:=E) h1 hu x y;exact h.1.2 fun k=>fin k rfl h.2
end
end
end Mine.Sim
namespace Mine.Sim
open PySem PySem.W PyProof.Rows PySem.Calls PySem.SeqAt
noncomputable section
theorem XK{l:List PV}{n:Int}{p:PV}(h:nth l n=some p)(hl:l.length<ax):∃j,seqIndex? n l.length=some j∧l[j]?=some p∧-(2 ^ 63)≤n∧n<2 ^ 63:=by
 unfold ax at hl
 induction n with
 | ofNat n =>
  have hn:=(aa9.mp h).1
  exact⟨n,seqIndex_of (aey n) (Int.ofNat_lt.mpr hn),h,by simp only[afx];lia⟩
 | negSucc n =>
  dsimp only[nth]at h
  generalize q:afh (n+1) l.length=zq;induction zq with
  | false=>rw[q]at h;exact du h
  | true =>
   rw[q]at h
   have hq:=acT q
   have e:Int.negSucc n+(l.length:Int)=((l.length-(n+1):Nat):Int):=(Int.add_comm _ _).trans (Int.ofNat_sub hq).symm
   exact⟨l.length-(n+1),(PySem.MeetsSeq.seqIndex_neg (Int.negSucc_lt_zero n) (e▸aey _)).trans (by rw[e];rw[Int.toNat_natCast];rfl),h,by rw[Int.negSucc_eq];lia⟩
noncomputable def jq(s:Shared)(u:Value):Prop:=∃T id,s.TypeIs u T∧typeLookup (.type T) "__getitem__" = pure (some (.builtin id))
section
variable{Γ:Fr}{ρ:bg}{l:List PV}{m:List Value}{r:PV×CH}{E:Value→Shared→Prop}{A:Around}{a b c x p:PV}{u v w:Value}{z:Unit×CH}
theorem kK.has{σ:bf Γ ρ}{i:Nat}{k:List PV}(c:kK σ i k):jq σ.s (.ref c.p.1):=⟨_,_,⟨_,c.g,rfl⟩,slot_list_getitem.lookup⟩
theorem lH.has{σ:bf Γ ρ}{i:Nat}{k:List (PV×PV)}(c:lH σ i k):jq σ.s (.ref c.p.1):=⟨_,_,⟨_,c.g,rfl⟩,agw.lookup⟩
noncomputable def kK.chg{σ:bf Γ ρ}{i:Nat}{k k':List PV}{h':Heap}{vs:Array Value}{n:Nat}(c:kK σ i k)(hi:2≤i)(hs:adO c.p.1 σ.s.heap h')(g:h'.get? c.p.1=some (ky vs n))(hl:k'.length<ax)(r:σ.Vs k' vs.toList)(t:Nat):bf Γ ρ :=
 have C:S6 σ.as σ.H σ.s.heap h' i c.p c.p.1 (.list k):=⟨c.at',hi,.inl rfl,c.co,hs,by rw[g];rfl⟩
 σ.chg (Zw:=.list k') C (.mk vs n hl c.eq g (VR.pK (C.go σ.inv) r)) t
theorem kK.vA{σ:bf Γ ρ}{i:Nat}{k:List PV}{h':Heap}{vs:Array Value}{n:Nat}(c:kK σ i k)(hi:2≤i)(hs:adO c.p.1 σ.s.heap h')(g:h'.get? c.p.1=some (ky vs n)):Goes σ.s.heap σ.as h' σ.as :=
 S6.go (co:=.list k) ⟨c.at',hi,.inl rfl,c.co,hs,by rw[g];rfl⟩ σ.inv
noncomputable def lH.chg{σ:bf Γ ρ}{i:Nat}{k k':List (PV×PV)}{h':Heap}{es:Array ac1}{n:Nat}(c:lH σ i k)(hi:2≤i)(hs:adO c.p.1 σ.s.heap h')(g:h'.get? c.p.1=some (eh es n))(hl:k'.length<ax)(hk:Keyed k')(r:ay (ER Γ.W σ.s.heap σ.as) k' es.toList)(t:Nat):bf Γ ρ :=
 have C:S6 σ.as σ.H σ.s.heap h' i c.p c.p.1 (.dict k):=⟨c.at',hi,.inl rfl,c.co,hs,by rw[g];rfl⟩
 σ.chg (Zw:=.dict k') C (.mk es n hl c.eq hk g (r.imp (ER.go (C.go σ.inv)))) t
theorem lH.vA{σ:bf Γ ρ}{i:Nat}{k:List (PV×PV)}{h':Heap}{es:Array ac1}{n:Nat}(c:lH σ i k)(hi:2≤i)(hs:adO c.p.1 σ.s.heap h')(g:h'.get? c.p.1=some (eh es n)):Goes σ.s.heap σ.as h' σ.as :=
 S6.go (co:=.dict k) ⟨c.at',hi,.inl rfl,c.co,hs,by rw[g];rfl⟩ σ.inv
theorem pX.list{σ:bf Γ ρ}{i:Nat}{k k':List PV}{h':Heap}{vs:Array Value}{n t:Nat}(c:kK σ i k)(e:put i (.list k') σ.H=some z)(V:σ.Vs l m)(hs:adO c.p.1 σ.s.heap h')(g:h'.get? c.p.1=some (ky vs n))(hl:k'.length<ax)(r:σ.Vs k' vs.toList) :
  pX Γ ρ l m z () { σ.s with heap:=h',toks:=t }:=by
 obtain⟨hi,e⟩:=Cu e
 exact .mk (c.chg hi hs g hl r t) e.symm (VR.pK (c.vA hi hs g) V)
theorem pX.dict{σ:bf Γ ρ}{i:Nat}{k k':List (PV×PV)}{s':Shared}(c:lH σ i k)(e:put i (.dict k') σ.H=some z)(V:σ.Vs l m)(h:Put Γ.W σ.as σ.s c.p.1 k' s')(hl:k'.length<ax)(hk:Keyed k'):pX Γ ρ l m z () s':=by
 obtain⟨hi,e⟩:=Cu e
 obtain⟨h',es,n,t,rfl,g,r,hs⟩:=h
 exact .mk (c.chg hi hs g hl hk r t) e.symm (VR.pK (c.vA hi hs g) V)
theorem bf.Xl{σ:bf Γ ρ}{i:Nat}{k:List (PV×PV)}(c:lH σ i k)(hk:cy b k=true)(e:LU (br b k) σ.H=some r)(hu:A.units+12<cLine)(y:σ.V b v)(V:σ.Vs l m):wpAny Γ.mod A (PySem.getItem (.ref c.p.1) v) (Out Γ ρ l m r) E σ.s:=by
 obtain⟨e,z⟩:=lV e
 have hT:σ.s.TypeIs (.ref c.p.1) "dict":=⟨_,c.g,rfl⟩
 refine getItem_slot hT (by decide) agw (adP agw hT entry_dict_getitem ?_ (args_dict_getitem _ _))
 show wpAny _ _ (dictGet c.p.1 v >>= _) _ _ σ.s
 refine aat (rB (by rw[ac9];lia) hk c.k c.g c.r y fun o t ho=>?_)
 rw[e]at ho
 induction o with
 | none=>exact ho.elim
 | some u=>exact aa1 ⟨u,rfl,.mk _ (σ.tok t) z.symm ⟨ho,V⟩⟩
theorem Ol{H:CH}(e:Mine.getItem a b H=some r):(∃l,a=.tup l∧fD b (fun n=>fM (decide (l.length<ax)) (LU (nth l n))) H=some r)∨mO a (fun zz q=>match q with
  | .list l=>tM b fun n=>LU l[n]?
  | .dict l=>fM (cy b l) (LU (br b l))
  | .inst _ _=>bc) H=some r:=by
 induction a using PV.casesOn with
 | tup l=>exact .inl ⟨l,rfl,e⟩
 | ref zz=>exact .inr e
 | _=>exact du e
theorem bf.getItem(σ:bf Γ ρ)(e:Mine.getItem a b σ.H=some r)(hu:A.units+12<cLine)(x:σ.V a u)(y:σ.V b v)(V:σ.Vs l m):jq σ.s u∧wpAny Γ.mod A (PySem.getItem u v) (Out Γ ρ l m r) E σ.s:=by
 obtain⟨k,rfl,e'⟩ | e':=Ol e
 ·obtain⟨a,vs,rfl,ht,r'⟩:=x
  refine⟨⟨_,_,ht.typeIs,F.slot_tuple_getitem.lookup⟩,fX (P:=fun v=>wpAny Γ.mod A (PySem.getItem (.ref a) v) (Out Γ ρ l m r) E σ.s) e' y fun n t e=>?_⟩
  obtain⟨hz,e⟩:=bq e
  obtain⟨e,z⟩:=lV e
  obtain⟨j,j1,j2,j3,j4⟩:=XK e (of_decide_eq_true hz)
  rw[E7.all]at r'
  obtain⟨u,g1,g2⟩:=r'.get j2
  exact PyProof.Rows.getItem_tuple ht j3 j4 (show seqIndex? n vs.toList.length=_ from r'.len▸j1) (ac8.symm.trans g1) (.mk _ σ z.symm ⟨g2,V⟩)
 ·exact iR (P:=fun u=>jq σ.s u∧wpAny Γ.mod A (PySem.getItem u v) (Out Γ ρ l m r) E σ.s) σ e' x
   (fun i k c e=>⟨c.has,iP (P:=fun v=>wpAny Γ.mod A (PySem.getItem (.ref c.p.1) v) (Out Γ ρ l m r) E σ.s) e y fun n t e=>by
    obtain⟨e,z⟩:=lV e
    obtain⟨u,g1,g2⟩:=c.get e
    have h1:=(aa9.mp e).1
    have h2:=c.lt
    unfold ax at h2
    exact wpAny_getItem_list c.is (aey n) (by simp only[afx];lia) (x:=u) g1 (.mk _ σ z.symm ⟨g2,V⟩)⟩)
   (fun i k c e=>have g:=bq e;⟨c.has,bf.Xl c g.1 g.2 hu y V⟩) fun zz zz zz zz e=>du e
theorem vo{M:afR}{W:World}{s:Shared}{o i x:Value}{T id:String}{Q:Unit→Shared→Prop}(hT:s.TypeIs o T)(hn:seqItemTypes.contains T=false)(slot:PySem.Slot T "__setitem__" id)(hc:wpAny (model M W) A (call (.builtin id) [o,i,x]) (fun zz=>Q ()) E s):wpAny (model M W) A (PySem.setItem o i x) Q E s:=by
 unfold PySem.setItem
 try with_reducible refine abK ?_
 refine aat (wpAny_sequenceKey hT hn ?_)
 exact aat (wpAny_callSpecial?_slot (name:=Str.ofString "__setitem__") hT slot (abr hc (fun v s' h'=>aa1 h') fun zz zz e=>e))
theorem jm{M:afR}{W:World}{s:Shared}{d:Addr}{vs:Array Value}{n j:Nat}{K:Int}{t:Tok}{Q:Unit→Shared→Prop}(g:s.heap.get? d=some (ky vs n))(hj:j<vs.size)(h0:0≤K)(hK:K.toNat=j)(h1:K<2 ^ 63)
  (h:Q () { s with heap:=s.heap.update d (Obj.mapSeq (·.setIfInBounds j w)) }):wpAny (model M W) A (PySem.setItem (.ref d) (.int K t) w) Q E s:=by
 have hT:s.TypeIs (.ref d) "list":=⟨_,g,rfl⟩
 refine vo hT (by decide) slot_list_setitem (adP slot_list_setitem hT entry_list_setitem ?_ (args_list_setitem _ _ _))
 show wpAny _ _ (adx.List.listSubscript? (.int K t) >>= _) _ _ s
 refine aat (wpAny_listSubscript_int (fitsIndex_of h0 h1) ?_)
 clear h1
 obtain⟨i,rfl⟩:=Int.eq_ofNat_of_zero_le h0
 obtain rfl:i=j:=hK
 show wpAny _ _ ((seqItemAt d i >>= fun r=>pure (r.map (i,·))) >>= _) _ _ s
 refine aat (aat (wpAny_seqItemAt g rfl (aa1 ?_)))
 rw[afI hj]
 show wpAny _ _ (setSeqItemAt d i w >>= _) _ _ s
 exact aat (wpAny_setSeqItemAt g rfl (aa1 ⟨.none,rfl,h⟩))
theorem bf.setItem(σ:bf Γ ρ)(e:Mine.setItem a b c σ.H=some z)(hu:A.units+12<cLine)(x:σ.V a u)(y:σ.V b v)(hw:σ.V c w)(V:σ.Vs l m):wpAny Γ.mod A (PySem.setItem u v w) (pX Γ ρ l m z) E σ.s :=
 iR (P:=fun u=>wpAny Γ.mod A (PySem.setItem u v w) (pX Γ ρ l m z) E σ.s) σ e x
  (fun i k d e=>iP (P:=fun v=>wpAny Γ.mod A (PySem.setItem (.ref d.p.1) v w) (pX Γ ρ l m z) E σ.s) e y fun n t e=>by
   obtain⟨hn,e⟩:=bq e
   have hn:n<k.length:=acT hn
   have hj:n<d.vs.size:=d.len▸hn
   have h2:=d.lt
   unfold ax at h2
   refine jm d.g hj (aey n) rfl (by simp only[afx];lia) (.list d (t:=σ.s.toks) e V (adh ..) (IsL.update (n:=d.n) d.g (·.setIfInBounds n w)) (by rw[adj];exact d.lt) ?_)
   rw[Array.toList_setIfInBounds]
   exact d.r.set hw n)
  (fun i k d e=>by
   obtain⟨hk,e⟩:=bq e
   obtain⟨hl,e⟩:=bq e
   have hl:=of_decide_eq_true hl
   have hT:σ.s.TypeIs (.ref d.p.1) "dict":=⟨_,d.g,rfl⟩
   refine vo hT (by decide) slot_dict_setitem (adP slot_dict_setitem hT entry_dict_setitem ?_ (args_dict_setitem _ _ _))
   show wpAny _ _ (adx.Dict.notOrdered "__setitem__" ⟨[.ref d.p.1,v,w],[]⟩ >>= _) _ _ σ.s
   refine aat (wpAny_notOrdered_dict hT ?_)
   show wpAny _ _ (dictSet d.p.1 v w >>= _) _ _ σ.s
   exact aat (N5 (by rw[ac9];lia) hk d.k d.g d.r y hw d.size fun s' h=>aa1 ⟨.none,rfl,.dict d e V h (ac6 KN hl) (d.k.put hk)⟩))
  fun zz zz zz zz e=>du e
theorem bf.delItem(σ:bf Γ ρ)(e:Mine.delItem a b σ.H=some z)(hu:A.units+12<cLine)(x:σ.V a u)(y:σ.V b v)(V:σ.Vs l m):wpAny Γ.mod A (PySem.delItem u v) (pX Γ ρ l m z) E σ.s :=
 LO (P:=fun u=>wpAny Γ.mod A (PySem.delItem u v) (pX Γ ρ l m z) E σ.s) σ e x fun i k d e=>by
  obtain⟨hk,e⟩:=bq e
  obtain⟨hi,e⟩:=bq e
  have hT:σ.s.TypeIs (.ref d.p.1) "dict":=⟨_,d.g,rfl⟩
  refine wpAny_delItem_slot hT (by decide) F.slot_dict_delitem (adP F.slot_dict_delitem hT F.entry_dict_delitem ?_ (F.args_dict_delitem_2 _ _))
  unfold adx.«dict.__delitem__»
  refine aat ?_
  unfold adx.Dict.dictSlotArgs
  refine aat (wpAny_notOrdered_dict hT (aa1 ?_))
  show wpAny _ _ (adx.Dict.takeOut d.p.1 v >>= _) _ _ σ.s
  refine aat ?_
  unfold adx.Dict.takeOut
  refine abK (aat (lY (s:=σ.s) (k:=σ.s.toks) 7 (KR.of 6 (yS hk).1 y) (by rw[ac9];lia) ?_))
  refine aat (oo (s:={ σ.s with toks:=σ.s.toks+ie b }) (by rw[ac9];lia) hk d.k d.g d.r y ?_)
  have f:=Qo b k
  generalize (k.findIdx? fun p=>gw p.1 b)=o at f ⊢
  induction f with
  | no f _=>rw[f]at hi;exact fS hi
  | yes j q a f _ dd =>
   obtain⟨en,h1,zz⟩:=d.r.get a
   refine aat (afW (s:={ σ.s with toks:=σ.s.toks+ie b }) d.g rfl ?_)
   rewrite[← ac8];rw[h1]
   refine aat (wpAny_updateDictKeys (hz:=d.size) (s:={ σ.s with toks:=σ.s.toks+ie b }) d.g rfl (aa1 ?_))
   refine aat (wpAny_letGo (aa1 ⟨.none,rfl,.dict d e V ⟨_,d.es.eraseIdxIfInBounds j,d.n+1,_,rfl,afq _ d.g rfl,?_,adh ..⟩ (ac6 (sX b k).length_le d.lt) d.k.del⟩))
   have hj:j<d.es.size:=(aa9.mp h1).1
   rw[dd];rewrite[agG];rw[dif_pos hj];rw[agU]
   exact d.r.erase j
end
end
end Mine.Sim
namespace Mine.Sim
open PySem PySem.W PyProof.Rows PySem.Calls PySem.SeqAt
noncomputable section
noncomputable def Rs(h:Heap)(as:List Slot):Option PV→Value→Prop
 | none,v=>v=.none
 | some p,v=>VR h as p v
theorem Rs.go{h h':Heap}{as lg:List Slot}(g:Goes h as h' lg):∀{o:Option PV} {v:Value},Rs h as o v→Rs h' lg o v
 | none,_,x=>x
 | some _,_,x=>VR.go g x
section
variable{Γ:Fr}{ρ:bg}{l:List PV}{m:List Value}{r:PV×CH}{E:Value→Shared→Prop}{A:Around}{a b c x p:PV}{u v w vl vu vk:Value}{z:Unit×CH}{sl:Addr}
theorem Xy(h:abW a=true):a=.int (-1):=by
 induction a using PV.casesOn with
 | int zz=>exact congrArg _ (of_decide_eq_true h)
 | _=>exact fS h
theorem bf.slice(σ:bf Γ ρ){lo hi st:Option PV}(e:Mine.slice a lo hi st σ.H=some r)(x:σ.V a u)(hs:σ.s.heap.IsSliceOf sl vl vu vk)(r1:Rs σ.s.heap σ.as lo vl)(r2:Rs σ.s.heap σ.as hi vu)(r3:Rs σ.s.heap σ.as st vk)(V:σ.Vs l m) :
  jq σ.s u∧wpAny Γ.mod A (PySem.getItem u (.ref sl)) (Out Γ ρ l m r) E σ.s :=
 eS (P:=fun u=>jq σ.s u∧wpAny Γ.mod A (PySem.getItem u (.ref sl)) (Out Γ ρ l m r) E σ.s) σ e x fun i k c e=>⟨c.has,by
  induction lo with
  | some zz=>exact du e
  | none =>
   obtain rfl:=r1
   induction hi with
   | some h =>
    induction st with
    | some zz=>exact du e
    | none =>
     obtain rfl:=r3
     refine iP (P:=fun vu=>σ.s.heap.IsSliceOf sl .none vu .none→wpAny Γ.mod A (PySem.getItem (.ref c.p.1) (.ref sl)) (Out Γ ρ l m r) E σ.s) e r2 (fun n t e hs=>?_) hs
     refine wpAny_getItem_list_slice c.is hs .none (.int _ _) .none (fun z=>du z) ?_ c.size
     rw[show(some (aeJ n))=some (n:Int)from rfl];rw[slicePick_upto']
     exact .push σ (t:=σ.s.toks) e (ac6 (List.length_take_le' ..) c.lt) (c.r.take n) V
   | none =>
    obtain rfl:=r2
    obtain⟨k',rfl,e⟩:=eu e
    obtain⟨h,e⟩:=bq e
    obtain rfl:=Xy h
    obtain⟨t,rfl⟩:=r3
    refine wpAny_getItem_list_slice c.is hs .none .none (.int _ _) (fun e=>nomatch e,e) ?_ c.size
    rw[krv_pick]
    exact .push σ (t:=σ.s.toks) e (by rw[ahf];exact c.lt) c.r.reverse V⟩
theorem bf.pH(σ:bf Γ ρ){lo:PV}(e:Mine.pH a lo σ.H=some z)(x:σ.V a u)(hs:σ.s.heap.IsSliceOf sl vl .none .none)(r1:σ.V lo vl)(V:σ.Vs l m):wpAny Γ.mod A (PySem.delItem u (.ref sl)) (pX Γ ρ l m z) E σ.s :=
 eS (P:=fun u=>wpAny Γ.mod A (PySem.delItem u (.ref sl)) (pX Γ ρ l m z) E σ.s) σ e x fun i k c e=>by
  obtain rfl:k=[]:=by
   induction k with
   | nil=>rfl
   | cons _ _=>exact iP (P:=fun zz=>_) e r1 fun zz zz e=>du e
  refine iP (P:=fun vl=>σ.s.heap.IsSliceOf sl vl .none .none→wpAny Γ.mod A (PySem.delItem (.ref c.p.1) (.ref sl)) (pX Γ ρ l m z) E σ.s) e r1 (fun n t e hs=>?_) hs
  refine wpAny_delItem_slot ⟨_,c.g,rfl⟩ (by decide) F.slot_list_delitem (adP F.slot_list_delitem ⟨_,c.g,rfl⟩ F.entry_list_delitem ?_ (F.args_list_delitem_2 _ _))
  obtain⟨os,hos,hcs,Ta⟩:=id hs
  have hTs:σ.s.TypeIs (.ref sl) "slice":=⟨os,hos,hcs⟩
  show wpAny _ _ (adx.List.listSubscript? (.ref sl) >>= _) _ _ σ.s
  refine aat ?_
  unfold adx.List.listSubscript?
  refine aat (af6 hTs slice_no_index ?_)
  simp only[Option.isNone_none,if_true]
  refine aa1 ?_
  show wpAny _ _ (typeOf (.ref sl) >>= _) _ _ σ.s
  refine aat (wpAny_typeOf hTs ?_)
  rewrite[if_neg (by decide)]
  rw[listSliceParts_eq]
  refine aat (aat (wpAny_field hos Ta (x:=.none) rfl (aat (wpAny_listPart .none ?_))))
  rewrite[if_neg (by exact abS)]
  refine aat (wpAny_field hos Ta (x:=.int (aeJ n) t) rfl (aat (wpAny_listPart (.int _ _) ?_)))
  refine aat (wpAny_field hos Ta (x:=.none) rfl (aat (wpAny_listPart .none (aa1 ?_))))
  refine aat (m:=adx.List.listItems (.ref c.p.1)) ?_
  unfold adx.List.listItems
  refine aat (wpAny_seqItems c.g rfl (aa1 ?_))
  refine aat (agN (sliceIndices_raw (some (aeJ n)) none none c.vs.size (by simp)) ?_)
  generalize sliceBounds (some (aeJ n)) none none c.vs.size=q
  obtain⟨q1,q2,q3⟩:=q
  refine aat (agu ?_)
  have hv:c.vs=#[]:=afo c.len
  have step:∀(f:Array Value→Array Value) {Q:Unit→Shared→Prop},f #[]=#[]→(∀h' n',h'.get? c.p.1=some (ky #[] n')→adO c.p.1 σ.s.heap h'→Q () { σ.s with heap:=h' })→wpAny Γ.mod A.in1 (updateSeq c.p.1 f) Q (fun e s'=>E e s') σ.s:=by
   intro f Q hf hQ
   refine wpAny_updateSeq c.g rfl ?_ c.size (by rw[hv];rw[hf];exact acV _)
   have:=IsL.update (n:=c.n) c.g f
   rw[hv,hf]at this
   exact hQ _ _ this (adh ..)
  refine aat (step _ rfl fun h' n' g' hs'=>?_)
  exact aat (wpAny_letGo (aa1 ⟨.none,rfl,.list c (t:=σ.s.toks) e V hs' g' c.lt trivial⟩))
end
end
end Mine.Sim
namespace Mine.Sim
open PySem PySem.W PyProof.Rows PySem.Calls PySem.SeqAt
noncomputable section
section
variable{h:Heap}{as:List Slot}{fs:List (Str×PV)}{es:List ac1}
theorem FR.key{q:Str×PV}{e:ac1}(x:FR h as q e)(a:Str):e.key.isStr a=qM a q.1:=by
 obtain⟨⟨u,hu⟩,zz⟩:=x
 rw[hu];rw[A0]
 exact acr.mpr (beq_iff_eq.trans (eq_comm.trans beq_iff_eq.symm))
theorem FR.noRef(r:ay (FR h as) fs es):es.any (·.refKey)=false :=
 r.ind (P:=fun zz es=>es.any (·.refKey)=false) rfl fun zz zz zz zz x zz ih=>by
  obtain⟨⟨u,hu⟩,zz⟩:=x
  rw[aeL];rw[ih];rw[Bool.or_false]
  unfold ac1.refKey
  rw[hu];rfl
theorem FR.find(a:Str)(r:ay (FR h as) fs es):(∀p,look a fs=some p→∃e,es.find? (·.key.isStr a)=some e∧VR h as p e.val)∧(look a fs=none→es.find? (·.key.isStr a)=none) :=
 r.ind (P:=fun fs es=>(∀p,look a fs=some p→∃e,es.find? (·.key.isStr a)=some e∧VR h as p e.val)∧(look a fs=none→es.find? (·.key.isStr a)=none)) ⟨fun zz h=>(du h),fun zz=>rfl⟩ fun q e l m x zz ih=>by
  rw[List.find?_cons];rw[x.key a]
  dsimp only[look]
  cases qM a q.1 with
  | true=>exact⟨fun p hp=>⟨e,rfl,aa0 hp▸x.2⟩,fun h=>(zSn h)⟩
  | false=>exact ih
theorem FR.put{a:Str}{p:PV}{v:Value}(hv:VR h as p v)(key:Value)(hh:Int)(hk:∃u,key=.str a u)(r:ay (FR h as) fs es):ay (FR h as) (vL a p fs) (match es.findIdx? (·.key.isStr a)with | some i=>es.modify i fun e=>{ e with val:=v } | none=>es++[⟨hh,key,v⟩]) :=
 r.ind (P:=fun fs es=>ay (FR h as) (vL a p fs) (match es.findIdx? (·.key.isStr a)with | some i=>es.modify i fun e=>{ e with val:=v } | none=>es++[⟨hh,key,v⟩])) ⟨⟨hk,hv⟩,trivial⟩ fun q e l m x z ih=>by
  dsimp only[vL]
  rw[afG];rw[x.key a]
  cases qM a q.1 with
  | true=>exact⟨⟨x.1,hv⟩,z⟩
  | false =>
   generalize hi:m.findIdx? (·.key.isStr a)=i at ih ⊢
   induction i with
   | none=>exact⟨x,ih⟩
   | some i=>exact⟨x,ih⟩
theorem ya(a:Str)(v:PV):∀l:List (Str×PV),(vL a v l).length≤l.length+1
 | []=>aaX _
 | p::r=>by
  dsimp only[vL]
  cases qM a p.1 with
  | true=>exact adb _
  | false=>exact afw (ya a v r)
end
section
variable{Γ:Fr}{ρ:bg}{l:List PV}{m:List Value}{r:PV×CH}{E:Value→Shared→Prop}{A:Around}{a b c x p:PV}{u v w:Value}{z:Unit×CH}{i:Nat}{k n:Str}{fs:List (Str×PV)}{σ:bf Γ ρ}
theorem VR.handed{h:Heap}{as:List Slot}{p:PV}{v:Value}(x:VR h as p v):handedIn v=true:=VR.ind (P:=fun zz v=>handedIn v=true) rfl (fun zz=>rfl) (fun zz zz=>rfl) (fun zz zz=>rfl) (fun zz zz zz=>rfl) (fun zz zz zz zz zz zz=>rfl) x
theorem vy.inst(c:vy σ i n fs):InstAt σ.s.heap c.p.1 (instObj c.C c.p.2) c.C (some (eh c.es c.n)):=⟨c.g1,rfl,rfl,c.g2⟩
theorem bf.K(σ:bf Γ ρ)(O:Bn Γ.W):Γ.W.K.In σ.s.heap:=O.kin.keeps σ.inv.keep
theorem vy.look(c:vy σ i n fs)(a:Str):(∀p,look a fs=some p→∃w,lookIn a (eh c.es c.n)=some (some w)∧σ.V p w)∧(look a fs=none→lookIn a (eh c.es c.n)=some none):=by
 obtain⟨h1,h2⟩:=FR.find a c.r
 have e:lookIn a (eh c.es c.n)=match c.es.toList.find? (·.key.isStr a)with | some e=>some (some e.val) | none=>if c.es.toList.any (·.refKey)then none else some none:=rfl
 refine⟨fun p hp=>?_,fun hn=>?_⟩
 ·obtain⟨en,he,hv⟩:=h1 p hp
  exact⟨en.val,by rw[e];rw[he];rfl,hv⟩
 ·rw[e];rw[h2 hn];rw[FR.noRef c.r];rfl
theorem bf.ar(σ:bf Γ ρ){ex:Bool}(O:Bn Γ.W)(hf:Γ.W.P.field k=true)(e:Mine.ar a k σ.H=some r)(x:σ.V a u)(V:σ.Vs l m):wpAny Γ.mod A (getAttr u k ex) (Out Γ ρ l m r) E σ.s :=
 LP (P:=fun u=>wpAny Γ.mod A (getAttr u k ex) (Out Γ ρ l m r) E σ.s) σ e x fun i n fs c e=>by
  obtain⟨e,z⟩:=lV e
  obtain⟨w,l1,l2⟩:=(c.look k).1 _ e
  have O':=O.cls n c.C c.hC
  obtain⟨cd,ZM,hd⟩:=O'.cd
  refine get_value (σ.K O) c.inst O'.ga (v:=w) ?_ l2.handed (.mk w (σ.tok _) z.symm ⟨l2,V⟩)
  unfold findObj
  rw[ZM];rw[ac7];rw[O'.field k hf];rw[ac7]
  dsimp only
  rw[ac7];rw[ac7]
  unfold PySem.W.ownOf
  rw[hd];rw[if_pos rfl]
  show(lookIn k (eh c.es c.n)).bind _=_
  rw[l1]
  rfl
theorem putName(c:vy σ i n fs)(hb:σ.V b v)(t:Nat):∃es n',Obj.putName k (PyData.keyHash Γ.W.w.params k) (.str k t) v (eh c.es c.n)=eh es n'∧ay (FR σ.s.heap σ.as) (vL k b fs) es.toList:=by
 rw[Obj.putName_eq]
 have:=FR.put hb (.str k t) (PyData.keyHash Γ.W.w.params k) ⟨_,rfl⟩ c.r
 unfold Obj.putNameByArray eh
 dsimp only
 rewrite[show c.es.findIdx? (·.key.isStr k)=c.es.toList.findIdx? (·.key.isStr k)from by cases c.es;rw[agZ];rfl]
 generalize c.es.toList.findIdx? (·.key.isStr k)=o at this ⊢
 induction o with
 | none=>exact⟨_,_,rfl,by rw[afj];exact this⟩
 | some i=>exact⟨_,_,rfl,by rw[ag9];exact this⟩
theorem bf.ee(σ:bf Γ ρ)(O:Bn Γ.W)(e:Mine.ee Γ.W.P.field a k b σ.H=some z)(x:σ.V a u)(hb:σ.V b v)(V:σ.Vs l m):wpAny Γ.mod A (setAttr u k v) (pX Γ ρ l m z) E σ.s :=
 LP (P:=fun u=>wpAny Γ.mod A (setAttr u k v) (pX Γ ρ l m z) E σ.s) σ e x fun i n fs c e=>by
  obtain⟨hf,e⟩:=bq e
  obtain⟨hz,e⟩:=bq e
  obtain⟨hi,e⟩:=Cu e
  have hz:=of_decide_eq_true hz
  have O':=O.cls n c.C c.hC
  have X:=σ.K O
  obtain⟨cd,ZM,hd⟩:=O'.cd
  refine set_plain X c.inst O'.sa ?_
  refine osa_open (r:=none) (s:={ σ.s with toks:=σ.s.toks+1 }) X c.inst O'.over (by unfold takerIn;rw[O'.field k hf];rfl) fun bb=>?_
  refine aat (aa1 (aat (aat (wpAny_loadPart c.g1 (aat (Looks.here (s:={ σ.s with toks:=σ.s.toks+1 }) (looks_clsIn X ZM) ?_))))))
  rw[hd]
  refine aa1 (a:=some c.p.2) (aat (aa1 (aat ?_)))
  unfold nsSet
  refine aat (aat (wpAny_askSetting (aa1 (aat (wpAny_mkText (aat (wpAny_loadPart (s:={ σ.s with toks:=σ.s.toks+1+1 }) c.g2 ?_)))))))
  dsimp only[eh]
  rw[aRefKeyMayBeTheName_at];rewrite[show(!c.es.any (·.key.isStr k)&&c.es.any (·.refKey))=false from by rewrite[← Array.any_toList (p:=fun e:ac1=>e.refKey)];rw[FR.noRef c.r];rw[agF];rfl]
  obtain⟨es,n',q1,q2⟩:=putName (k:=k) c hb (σ.s.toks+1)
  have hl:es.size=_:=q2.len
  have Ll:=ya k b fs
  have D:(σ.s.heap.update c.p.2 (Obj.putName k (PyData.keyHash Γ.W.w.params k) (.str k (σ.s.toks+1)) v)).get? c.p.2=some (eh es n'):=by
   rewrite[← q1];exact afq _ c.g2 (by rw[q1];rfl)
  refine wpAny_updatePart c.g2 ?_
  refine aat (wpAny_lookBehind D (by exact pastItsLine_dict (by rw[afe];unfold ax at hz;lia)) (aa1 ?_))
  have hs:=adh σ.s.heap c.p.2 (Obj.putName k (PyData.keyHash Γ.W.w.params k) (.str k (σ.s.toks+1)) v)
  have C:S6 σ.as σ.H σ.s.heap _ i c.p c.p.2 (.inst n fs):=⟨c.at',hi,.inr rfl,c.co,hs,by rw[D];rfl⟩
  have qc:c.p.1≠c.p.2:=fun h=>by
   have h1:=c.g1
   rw[h,c.g2]at h1;cases h1
  exact .mk (σ.chg (Zw:=.inst n (vL k b fs)) C (.mk c.C es n' (ac6 Ll hz) c.hC ((hs.2 _ qc).trans c.g1) D (q2.imp (FR.go (C.go σ.inv)))) (σ.s.toks+1+1)) e.symm (VR.pK (C.go σ.inv) V)
end
end
end Mine.Sim
namespace Mine.Sim
open PySem PySem.W PyProof.Rows PySem.Calls PySem.SeqAt
noncomputable section
theorem NU:∀{l:List PV} {x:List Bool},bools l=some x→l=x.map .bool:=fun{l}=>by
 induction l with
 | nil=>intro x h;replace h:=zI h;subst h;rfl
 | cons p r ih=>intro x h;induction p using PV.casesOn with
  | bool i =>
   dsimp only[bools]at h
   generalize q:bools r=zq;induction zq with
   | none=>rw[q]at h;exact du h
   | some y=>rw[q]at h;replace h:=zI h;subst h;exact congrArg _ (ih q)
  | _=>exact du h
theorem oA(a:Int):∀l:List Int,(jw a l).Perm (a::l)
 | []=>.refl _
 | b::r=>by
  dsimp only[jw]
  cases decide (a≤b)with
  | true=>exact .refl _
  | false=>exact((oA a r).cons b).trans (.swap ..)
theorem hU:∀l:List Int,(hM l).Perm l
 | []=>.refl _
 | a::r=>(oA a _).trans ((hU r).cons a)
theorem qR(a:Int):∀{l:List Int},l.Pairwise (·≤·)→(jw a l).Pairwise (·≤·)
 | [],_=>acS ..
 | b::r,h=>by
  obtain⟨h1,h2⟩:=adZ.mp h
  dsimp only[jw]
  generalize q:(decide (a≤b))=zq;induction zq with
  | true =>
   have q:=of_decide_eq_true q
   exact adZ.mpr ⟨fun c hc=>(aa2.mp hc).elim (fun e=>e▸q) fun hc=>Int.le_trans q (h1 c hc),h⟩
  | false =>
   have q:=ag8 (Int.not_le.mp (of_decide_eq_false q))
   exact adZ.mpr ⟨fun c hc=>(aa2.mp ((oA a r).subset hc)).elim (fun e=>e▸q) (h1 c),qR a h2⟩
theorem jT:∀l:List Int,(hM l).Pairwise (·≤·)
 | []=>.nil
 | a::r=>qR a (jT r)
theorem yE{l m:List Int}(p:l.Perm m)(h:l.Pairwise (·≤·))(k:m.Pairwise (·≤·)):l=m:=p.eq_of_pairwise (fun zz zz zz zz=>Int.le_antisymm) h k
theorem ay.of{α β:Type}{R:α→β→Prop}:∀{l:List α} {m:List β},m.length=l.length→(∀(j:Nat) (b:β),m[j]?=some b→∃a,l[j]?=some a∧R a b)→ay R l m:=fun{l}=>by
 induction l with
 | nil=>intro m e h;induction m with
  | nil=>trivial
  | cons _ _=>exact zC id e rfl
 | cons a l ih=>intro m e h;induction m with
  | nil=>exact zC id e rfl
  | cons b m=>exact⟨by obtain⟨c,h1,h2⟩:=h 0 b rfl;exact aa0 h1▸h2,ih (aeO e) fun j=>h (j+1)⟩
theorem ints_of{h:Heap}{as:List Slot}:∀{x:List Int} {vs:List Value},ay (VR h as) (x.map .int) vs→IntsAre vs x:=fun{x}=>by
 induction x with
 | nil=>intro vs r;induction vs with
  | nil=>exact .nil
  | cons _ _=>exact r.elim
 | cons a x ih=>intro vs r;induction vs with
  | nil=>exact r.elim
  | cons v vs=>exact r.1.elim fun t e=>e▸.cons _ t (ih r.2)
theorem Qw{h:Heap}{as:List Slot}:∀{x:List Int} {vs:List Value},IntsAre vs x→ay (VR h as) (x.map .int) vs:=fun r=>by
 induction r with
 | nil=>trivial
 | cons _ t _ ih=>exact⟨⟨t,rfl⟩,ih⟩
theorem pA(f:List Nat→(Nat→Bool)→Bool)(g:List Bool→(Bool→Bool)→Bool)(e0:∀p q,f [] p=g [] q)(e1:∀a (x:List Bool) (p:Nat→Bool) q,p 0=q a→f ((afa x.length).map Nat.succ) p=g x q→f (0::(afa x.length).map Nat.succ) p=g (a::x) q)
  (e2:∀l p,f (List.map Nat.succ l) p=f l (fun i=>p (i+1))):∀x:List Bool,f (afa x.length) (fun i=>x[i]?.getD false)=g x id
 | []=>e0 _ _
 | a::x=>by
  rw[aaK];rw[agT]
  exact e1 a x _ id rfl ((e2 _ _).trans (pA f g e0 e1 e2 x))
section
variable{Γ:Fr}{ρ:bg}{l ps:List PV}{m vs:List Value}{r:PV×CH}{E:Value→Shared→Prop}{A:Around}{σ:bf Γ ρ}{i:Nat}{k:List PV}{d:List (PV×PV)}
theorem Out.kept{h':Heap}{p:PV}{v:Value}{t:Nat}(σ:bf Γ ρ)(e:Mine.ret p σ.H=some r)(hk:∀b o,σ.s.heap.get? b=some o→h'.get? b=some o)(x:VR h' σ.as p v)(V:σ.Vs l m):Out Γ ρ l m r v { σ.s with heap:=h',toks:=t } :=
 .ret (σ.grow hk t) e x (VR.pK (σ.iI hk) V)
structure aba(c:kK σ i k)(x:List Bool):Prop where
 len:c.vs.size=x.length
 tr:∀A,TruthOf Γ.W.prog Γ.W.w A (fun i v=>c.vs[i]?=some v) (fun i=>x[i]?.getD false)
theorem kK.bools(c:kK σ i k){x:List Bool}(h:Mine.bools k=some x):aba c x:=by
 obtain rfl:=NU h
 have hl:c.vs.size=x.length:=c.len.trans (aaY ..)
 refine⟨hl,fun A i v s' Q E hv hQ=>?_⟩
 have hx:i<x.length:=hl▸(agt.mp hv).1
 obtain⟨w,e1,e2⟩:=c.get (j:=i) (p:=.bool x[i]) (by rw[adf];rw[aa8 hx];rfl)
 rw[hv]at e1
 obtain rfl:=(aa0 e1).trans e2
 dsimp only at hQ
 rw[aa8 hx]at hQ
 exact aed hQ
theorem LN(c:kK σ i k){h':Heap}(o:Obj)(hk:∀b ob,b∉[σ.s.heap.objs.size]→(σ.s.heap.push o).get? b=some ob→h'.get? b=some ob):∀b ob,σ.s.heap.get? b=some ob→h'.get? b=some ob:=fun b ob hb=>hk b ob (by simp [afr (ad0 hb)]) (aa5 _ hb)
theorem lH.flat{K:Type}[DecidableEq K]{knd:PySem.KeyKind Γ.W.prog Γ.W.w K}{wrap:K→PV}(c:lH σ i d){ks:List K}(hk:d.map (·.1)=ks.map wrap)(his:∀k v,σ.V (wrap k) v→knd.is k v=true∧km Γ.W.w (wrap k)=knd.hash k) :
  ∃Lr:List (K×Value),Lr.map (·.1)=ks∧σ.s.heap.DictAt knd c.p.1 Lr c.n:=by
 have R:∀{l:List (PV×PV)} {es:List ac1},ay (ER Γ.W σ.s.heap σ.as) l es→∀{ks:List K},l.map (·.1)=ks.map wrap→∃Lr:List (K×Value),Lr.map (·.1)=ks∧Pairs knd es Lr∧∀e∈es,∃k,knd.is k e.key=true∧e.hash=knd.hash k:=fun r =>
  r.ind (P:=fun l es=>∀{ks:List K},l.map (·.1)=ks.map wrap→∃Lr:List (K×Value),Lr.map (·.1)=ks∧Pairs knd es Lr∧∀e∈es,∃k,knd.is k e.key=true∧e.hash=knd.hash k) (fun{ks} e=>⟨[],(af3.mp e.symm).symm,.nil,fun zz h=>zM h⟩) fun p e l es x zz ih ks hk=>by
   induction ks with
   | nil=>cases hk
   | cons k ks =>
    obtain⟨h1,h2⟩:=afH hk
    obtain⟨Lr,rfl,i2,i3⟩:=ih h2
    obtain⟨a,zz,b⟩:=x
    rw[show p.1=wrap k from h1]at a b
    have q:=his k _ a
    exact⟨(k,e.val)::Lr,rfl,.cons q.1 rfl i2,fun e' he=>(aa2.mp he).elim (fun h=>h▸⟨k,q.1,b.trans q.2⟩) (i3 e')⟩
 obtain⟨Lr,rfl,h2,h3⟩:=R c.r hk
 exact⟨Lr,rfl,_,c.es,c.g,⟨rfl,rfl,rfl⟩,rfl,fun e he=>h3 e (afX.mpr he),h2,(afO.mp (hk▸c.k.2)).imp fun h e=>h (congrArg wrap e)⟩
theorem lH.sorted{K:Type}[DecidableEq K]{knd:PySem.KeyKind Γ.W.prog Γ.W.w K}{wrap:K→PV}(c:lH σ i d){ks:List K}{out:List PV}(hh:A.handled=none)(hk:d.map (·.1)=ks.map wrap)(his:∀k v,σ.V (wrap k) v→knd.is k v=true∧km Γ.W.w (wrap k)=knd.hash k)(hn:ks.length<64)(ho:out.length<64)
  (hs:∀(a:Addr) (vs:List Value) (dm:Shared) (P:Fin→Shared→Prop) (A':Around) (E':Value→Shared→Prop),ay (fun k v=>knd.is k v=true) ks vs→dm.heap.get? a=some (seqObj "list" vs.toArray 0)→(∀o:Array Value,ay (VR σ.s.heap σ.as) out o.toList→P (.done (.ret .none)) { dm with heap:=sortedHeap dm.heap a vs o })→wpAny Γ.mod A' (adx.«list.sort» ⟨[.ref a],[]⟩) P E' dm)
  (e:Mine.new (.list out) σ.H=some r) (V:σ.Vs l m):wpAny Γ.mod A (call (.builtin "sorted") [.ref c.p.1]) (Out Γ ρ l m r) E σ.s:=by
 obtain⟨Lr,rfl,Xn⟩:=c.flat hk his
 have hn:Lr.length<64:=aaY (f:=Prod.fst) (as:=Lr)▸hn
 have hz:Lr.length≤sizeLine:=by rw[afe];lia
 refine Calls.call_function_entry kind_sorted plain_sorted entry_sorted (args_sorted1 _) ?_
 unfold adx.«sorted»
 refine aat (m:=checkCount "sorted" 1 1 _) (aa1 ?_)
 refine aat (kdu_collect (kdl_dict (knd:=knd) (by simpa using c.sys)) (by exact hh) Xn hz fun h' tk acc k1 k2=>?_)
 have ht:ay (fun k v=>knd.is k v=true) (Lr.map (·.1)) acc.toList:=ay.of (by rw[aaY];exact k2.1) fun j v hj=>by
  obtain⟨k,x,b1,b2⟩:=k2.2 j v (ac8.symm.trans hj)
  exact⟨k,by rw[adf];rw[b1];rfl,b2⟩
 refine aat (wpAny_newList (hsz:=by rw[af1];rewrite[k2.1];exact hz) ?_)
 have hoL:(h'.push (seqObj "list" acc.toList.toArray 0)).get? h'.objs.size=some (seqObj "list" acc.toList.toArray 0):=abP _ rfl
 refine aat (abK (adP slot_list_sort ⟨_,hoL,rfl⟩ entry_list_sort (hs h'.objs.size acc.toList { σ.s with heap:=h'.push (seqObj "list" acc.toList.toArray 0),toks:=tk } _ _ _ ht hoL fun o aei=>⟨_,rfl,?_⟩) (args_list_sort _)))
 obtain⟨n,Xn⟩:=sortedHeap_at (out:=o) hoL
 refine aa1 ⟨_,rfl,.list σ e (fun b ob hb=>?_) (abQ.mpr fun ob q=>db (k1 _ _ q) gO) Xn (Nat.lt_trans ho (by decide)) aei V⟩
 have h1:=k1 b ob hb
 have IE:=ad0 h1
 rewrite[sortedHeap_old (afr IE) (by rw[af0];exact Nat.lt_succ_of_lt IE)]
 exact aa5 _ h1
theorem Yi:∀{x:List Str} {vs:List Value},ay (fun k v=>Value.isStrOf k v=true) x vs→StrsAre vs x:=fun r=>r.ind (P:=fun x vs=>StrsAre vs x) .nil fun zz zz zz zz h zz ih=>(Value.isStrOf_shape h).elim fun t e=>e▸.cons _ t ih
theorem Yj{h:Heap}{as:List Slot}:∀{x:List Str} {vs:List Value},StrsAre vs x→ay (VR h as) (x.map .str) vs:=fun r=>by
 induction r with
 | nil=>trivial
 | cons _ t _ ih=>exact⟨⟨t,rfl⟩,ih⟩
theorem Ny{k out:List PV}(h:vq k=some out):(∃x:List Int,k=x.map .int∧x.length<64∧out=(hM x).map .int)∨∃w,k=[.str w]∧out=[.str w]:=by
 unfold vq at h
 generalize q:ib k=zq;induction zq with
 | some x =>
  rw[q]at h
  generalize q':(decide (x.length<64))=zq;induction zq with
  | true=>dsimp only at h;rw[q']at h;replace h:=zI h;subst h;exact .inl ⟨x,jY q,of_decide_eq_true q',rfl⟩
  | false=>dsimp only at h;rw[q']at h;exact du h
 | none =>
  rw[q]at h
  induction k with
  | nil=>exact du h
  | cons p k=>induction k with
   | cons _ _=>exact du h
   | nil=>induction p using PV.casesOn with
    | str w=>replace h:=zI h;subst h;exact .inr ⟨w,rfl,rfl⟩
    | _=>exact du h
theorem ZY{H:CH}{v:PV} (e:(match v with
   | .tup l=>fM (decide (l.length<ax)) (ret (.int l.length))
   | v=>gv v fun zz l=>ret (.int l.length):CM PV) H=some r):(∃k,v=.tup k∧fM (decide (k.length<ax)) (ret (.int k.length)) H=some r)∨gv v (fun zz l=>ret (.int l.length)) H=some r:=by
 induction v using PV.casesOn with
 | tup k=>exact .inl ⟨k,rfl,e⟩
 | ref zz=>exact .inr e
 | _=>exact du e
theorem bf.blt(σ:bf Γ ρ){f:Blt}(hh:A.handled=none)(e:Mine.blt f ps σ.H=some r)(x:σ.Vs ps vs)(V:σ.Vs l m):wpAny Γ.mod A (call (WY f) vs) (Out Γ ρ l m r) E σ.s:=by
 refine Cr (P:=fun vs=>wpAny Γ.mod A (call (WY f) vs) (Out Γ ρ l m r) E σ.s) e x fun p v x e=>?_
 induction f with
 | len =>
  obtain⟨k,rfl,e⟩ | e:=ZY e
  ·obtain⟨a,vs,rfl,ht,r'⟩:=x
   obtain⟨q,e⟩:=bq e
   have hl:vs.size=k.length:=ay.len (E7.all▸r')
   exact PyProof.Rows.len_tuple ht (by have q:=of_decide_eq_true q;unfold ax at q;lia) (by rw[hl];exact .ret (σ.tok _) e ⟨_,rfl⟩ V)
  ·exact eS (P:=fun v=>wpAny Γ.mod A (call (.builtin "len") [v]) (Out Γ ρ l m r) E σ.s) σ e x fun i k c e=>call_len_list c.is (by have:=c.small;lia) (by rw[c.len];exact .ret (σ.tok _) e ⟨_,rfl⟩ V)
 | all =>
  refine eS (P:=fun v=>wpAny Γ.mod A (call (.builtin "all") [v]) (Out Γ ρ l m r) E σ.s) σ e x fun i k c e=>?_
  obtain⟨x,q,e⟩:=eu e
  have b:=c.bools q
  refine call_all_walk (agv c.is ⟨_,_,_,_,_,_,fun i=>x[i]?.getD false,rfl,Walks.list (by exact hh) σ.s.heap.objs.size c.p.1 (afr (ad0 c.g)) c.vs,⟨⟨_,abP _ rfl,rfl,rfl⟩,c.is.push _⟩,b.tr _,fun h' tk k=>?_⟩)
  rw[b.len];rewrite[pA List.all List.all (fun zz zz=>rfl) (fun zz zz zz zz h h'=>by rw[afd];rw[afd];rw[h];rw[h'];rfl) (fun zz zz=>ag1)]
  exact .kept σ e (LN c _ k) rfl V
 | any =>
  refine eS (P:=fun v=>wpAny Γ.mod A (call (.builtin "any") [v]) (Out Γ ρ l m r) E σ.s) σ e x fun i k c e=>?_
  obtain⟨x,q,e⟩:=eu e
  have b:=c.bools q
  refine call_any_walk (agv c.is ⟨_,_,_,_,_,_,fun i=>x[i]?.getD false,rfl,Walks.list (by exact hh) σ.s.heap.objs.size c.p.1 (afr (ad0 c.g)) c.vs,⟨⟨_,abP _ rfl,rfl,rfl⟩,c.is.push _⟩,b.tr _,fun h' tk k=>?_⟩)
  rw[b.len];rewrite[pA List.any List.any (fun zz zz=>rfl) (fun zz zz zz zz h h'=>by rw[aeL];rw[aeL];rw[h];rw[h'];rfl) (fun zz zz=>List.any_map)]
  exact .kept σ e (LN c _ k) rfl V
 | sorted =>
  refine iR (P:=fun v=>wpAny Γ.mod A (call (.builtin "sorted") [v]) (Out Γ ρ l m r) E σ.s) σ e x (fun i k c e=>?_) (fun i d c e=>?_) fun zz zz zz zz e=>du e
  ·obtain⟨x,q,e'⟩:=eu e
   obtain⟨hx,e'⟩:=bq e'
   have hx:=of_decide_eq_true hx
   obtain rfl:=jY q
   refine sorted_ints (vs:=c.vs.toList) c.is (ints_of c.r) (by rw[c.r.len];rw[aaY];exact hx) fun out ns' a1 a2 a3=>?_
   obtain⟨n',Xn⟩:=sortedAll_at σ.s.heap c.vs.toList out
   obtain rfl:ns'=hM x:=yE (a2.trans (hU x).symm) a3 (jT x)
   exact .list (t:=σ.s.toks) σ e' (fun b o hb=>sortedAll_old hb) (abQ.mpr fun zz q=>aa3 _ (ag5 (ad0 q))) Xn (by rw[aaY];rw[(hU x).length_eq];exact Nat.lt_trans hx (by decide)) (Qw a1) V
  ·obtain⟨out,q,e⟩:=eu e
   obtain⟨x,h1,h2,rfl⟩ | ⟨w,h1,rfl⟩:=Ny q
   ·refine c.sorted (knd:=intKind Γ.W.prog Γ.W.w) hh h1 ((by rintro k v ⟨t,e⟩;exact e▸⟨decide_eq_true rfl,rfl⟩)) h2 (by rw[aaY];rw[(hU x).length_eq];exact h2) (fun a vs dm P A' E' ht ho hP=>?_) e V
    refine list_sort_tree ho (ints_of (ht.ind (P:=fun x vs=>ay (VR σ.s.heap σ.as) (x.map .int) vs) trivial fun k v zz zz h zz ih=>⟨Value.isInt_shape h,ih⟩)) (by rw[ht.len];exact h2) fun out ns' a1 a2 a3=>?_
    obtain rfl:ns'=hM x:=yE (a2.trans (hU x).symm) a3 (jT x)
    exact hP out (Qw a1)
   ·refine c.sorted (knd:=PySem.strKind Γ.W.prog Γ.W.w) (wrap:=.str) (ks:=[w]) hh h1 ((by rintro k v ⟨t,e⟩;exact e▸⟨decide_eq_true rfl,rfl⟩)) (out:=[.str w]) (show 1<64 by decide) (show 1<64 by decide) (fun a vs dm P A' E' ht ho hP=>?_) e V
    have ht':=Yi ht
    refine list_sort_treeK strKind_oneLt ho ht'.keysOf (fun ahH ahI rest e=>keyKind_strs (by rewrite[← e];exact ht')) (by rw[ht.len];exact(show 1<64 by decide)) fun st' hp hs=>?_
    obtain⟨ss',h1,h2,h3⟩:=sorted_out_str ht' hp hs
    rw[List.perm_singleton.mp h2]at h1
    exact hP _ (Yj (x:=[w]) h1)
 | tuple=>exact eS (P:=fun v=>wpAny Γ.mod A (call (.type "tuple") [v]) (Out Γ ρ l m r) E σ.s) σ e x fun i k c e=>call_tuple_list c.is (fun h' hk=>.kept (t:=σ.s.toks) σ e (fun b o hb=>aa5 _ (hk b o hb)) ⟨_,c.vs,rfl,⟨_,abP _ rfl,rfl,_,rfl⟩,E7.all▸VR.pK (σ.iI fun b o hb=>aa5 _ (hk b o hb)) c.r⟩ V) c.size
end
end
end Mine.Sim
namespace Mine.Sim
open PySem PySem.W PyProof.Rows PySem.Calls PySem.SeqAt
noncomputable section
noncomputable def UG(W:Wd)(m:Meth)(f:Value):Prop:=match m with
 | .fn k=>∃a,W.fns k=some a∧f=.ref a
 | .append=>f=.builtin "list.append"
 | .pop=>f=.builtin "list.pop"
 | .KM=>f=.builtin "dict.get"
section
variable{Γ:Fr}{ρ:bg}{l ps:List PV}{m vs:List Value}{r:PV×CH}{E:Value→Shared→Prop}{A:Around}{i:Nat}{k:List PV}{d:List (PV×PV)}{a b:PV}{u v f:Value}{x:Str}{σ:bf Γ ρ}
theorem bf.au(σ:bf Γ ρ){q:Meth×CH}{pl:Sem Bool}{Q:Value×List Value→Shared→Prop}(O:Bn Γ.W)(e:Mine.au Γ.W.P a x σ.H=some q)(y:σ.V a u)(hQ:q.2=σ.H→∀f,UG Γ.W q.1 f→Q (f,[u]) σ.s):wpAny Γ.mod A (getMethod u x pl) Q E σ.s :=
 iR (P:=fun u=>(q.2=σ.H→∀f,UG Γ.W q.1 f→Q (f,[u]) σ.s)→wpAny Γ.mod A (getMethod u x pl) Q E σ.s) σ e y
  (fun i k c e hQ=>by
   have hT:σ.s.TypeIs (.ref c.p.1) "list":=⟨_,c.g,rfl⟩
   generalize h:qM x (Str.ofString "append")=zq;induction zq with
   | true =>
    dsimp only at e
    rw[h]at e
    cases di e
    rw[(gg _ _).mp h]
    exact agx hT F.plainAttrs_list F.slot_list_append F.type_list_append (fun a h=>by cases h;exact⟨_,c.g,rfl⟩) (hQ rfl _ rfl)
   | false =>
    dsimp only at e
    rw[h]at e
    obtain⟨h,e⟩:=bq e
    cases di e
    rw[(gg _ _).mp h]
    exact agx hT F.plainAttrs_list F.slot_list_pop F.type_list_pop (fun a h=>by cases h;exact⟨_,c.g,rfl⟩) (hQ rfl _ rfl))
  (fun i k c e hQ=>by
   obtain⟨h,e⟩:=bq e
   cases di e
   rw[(gg _ _).mp h]
   exact agx ⟨_,c.g,rfl⟩ F.plainAttrs_dict F.slot_dict_get F.type_dict_get (fun a h=>by cases h;exact⟨_,c.g,rfl⟩) (hQ rfl _ rfl))
  (fun i n fs c e hQ=>by
   generalize h:look x fs=zq;induction zq with
   | some zz=>dsimp only at e;rw[h]at e;exact du e
   | none =>
    dsimp only at e
    rw[h]at e
    obtain⟨key,q2,e⟩:=eu e
    cases di e
    have O':=O.cls n c.C c.hC
    obtain⟨f,f1,f2,f3⟩:=O'.IR x key q2
    exact method_fn (σ.K O) c.inst O'.ga O'.abC f2 f3 (by unfold shadowIn;dsimp only;rw[(c.look x).2 h];rfl) (hQ rfl _ ⟨f,f1,rfl⟩)) hQ
theorem Hp(c:lH σ i d){o:Value}{dp:PV}(hu:A.units+12<cLine)(hk:cy a d=true)(e:Mine.ret ((br a d).getD dp) σ.H=some r)(y:σ.V a v)(hd:σ.V dp o)(V:σ.Vs l m){Q:PySem.Fin→Shared→Prop}(hQ:∀v s,Out Γ ρ l m r v s→Q (.done (.ret v)) s)(dflt:Option Value)(hdf:dflt.getD .none=o) :
  wpAny Γ.mod A.in1 (do
    if let some v ← dictGet c.p.1 v then return ← PySem.ret v
    match ← adx.Dict.missed c.p.1 v with
    | some v=>PySem.ret v
    | none=>PySem.ret (dflt.getD .none)) Q E σ.s:=by
 refine aat (rB (by rw[ac9];lia) hk c.k c.g c.r y fun w t ho=>?_)
 generalize br a d=f at ho e
 induction w with
 | none =>
  induction f with
  | some zz=>exact ho.elim
  | none =>
   show wpAny _ _ (adx.Dict.missed c.p.1 v >>= _) _ _ _
   exact aat (wpAny_missed_other (by simpa using c.sys) (aa1 (hQ _ _ (.ret (σ.tok t) e (hdf▸hd) V))))
 | some u =>
  induction f with
  | none=>exact ho.elim
  | some p=>exact aa1 (hQ _ _ (.ret (σ.tok t) e ho V))
theorem Uv(c:kK σ i k){x:PV}(e:k.getLast?=some x):∃v,c.vs[c.vs.size-1]?=some v∧σ.V x v:=by
 rw[List.getLast?_eq_getElem?]at e
 rw[c.len]
 exact c.get e
theorem bf.aj(σ:bf Γ ρ){cl:Str→List PV→CM PV}{q:Meth}(hm:∀k,q≠.fn k)(hu:A.units+12<cLine)(e:Mine.aj cl q a ps σ.H=some r)(hf:UG Γ.W q f)(x:σ.V a u)(y:σ.Vs ps vs)(V:σ.Vs l m):wpAny Γ.mod A (call f (u::vs)) (Out Γ ρ l m r) E σ.s:=by
 induction q with
 | fn k=>exact absurd rfl (hm k)
 | append =>
  obtain rfl:=hf
  refine Cr (P:=fun vs=>wpAny Γ.mod A (call (.builtin "list.append") (u::vs)) (Out Γ ρ l m r) E σ.s) e y fun p v hv e=>?_
  refine eS (P:=fun u=>wpAny Γ.mod A (call (.builtin "list.append") [u,v]) (Out Γ ρ l m r) E σ.s) σ e x fun i k c e=>?_
  obtain⟨h,e⟩:=bq e
  refine cn e fun q e1 e2=>?_
  obtain⟨hi,e1⟩:=Cu e1
  refine call_meets F.slot_list_append ⟨_,c.g,rfl⟩ F.entry_list_append (F.args_list_append_2 _ _) (list_append c.p.1 c.vs c.n v c.size) ⟨c.g,?_⟩
  have g':=IsL.update (n:=c.n) c.g (·.push v)
  have hs:=adh σ.s.heap c.p.1 (Obj.mapSeq (fun xs:Array Value=>xs.push v))
  rw[e1]at e2
  exact .ret (c.chg hi hs g' (by rw[aaA];exact of_decide_eq_true h) (by rw[afj];exact c.r.append ⟨hv,trivial⟩) σ.s.toks) e2 rfl (VR.pK (c.vA hi hs g') V)
 | pop =>
  obtain rfl:=hf
  induction ps with
  | cons _ _=>exact du e
  | nil=>induction vs with
   | cons _ _=>exact y.elim
   | nil =>
    refine eS (P:=fun u=>wpAny Γ.mod A (call (.builtin "list.pop") [u]) (Out Γ ρ l m r) E σ.s) σ e x fun i k c e=>?_
    obtain⟨z,h,e⟩:=eu e
    refine cn e fun q e1 e2=>?_
    obtain⟨hi,e1⟩:=Cu e1
    obtain⟨w,w1,w2⟩:=Uv c h
    refine call_meets F.slot_list_pop ⟨_,c.g,rfl⟩ F.entry_list_pop (F.args_list_pop_1 _) (MeetsSeq.list_pop_last c.p.1 c.vs c.n w w1 c.size) ⟨c.g,?_⟩
    have g':=IsL.update (n:=c.n) c.g (fun xs=>xs.eraseIdxIfInBounds (c.vs.size-1))
    have hs:=adh σ.s.heap c.p.1 (Obj.mapSeq (fun xs:Array Value=>xs.eraseIdxIfInBounds (c.vs.size-1)))
    have hj:c.vs.size-1<c.vs.size:=(agt.mp w1).1
    rw[e1]at e2
    have hr:σ.Vs k.dropLast (c.vs.eraseIdxIfInBounds (c.vs.size-1)).toList:=by
     rewrite[agG];rw[dif_pos hj];rw[agU];rewrite[List.eraseIdx_eq_dropLast (by rw[af1];exact afJ (ac6 (acV _) hj))];rw[ag0];rw[ag0];rw[c.r.len]
     exact c.r.take _
    exact .ret (c.chg hi hs g' (ac6 (by rw[List.length_dropLast];exact Nat.sub_le ..) c.lt) hr σ.s.toks) e2 (VR.go (c.vA hi hs g') w2) (VR.pK (c.vA hi hs g') V)
 | KM =>
  obtain rfl:=hf
  induction ps with
  | nil=>exact du e
  | cons p ps=>induction vs with
   | nil=>exact y.elim
   | cons v vs =>
    refine LO (P:=fun u=>wpAny Γ.mod A (call (.builtin "dict.get") (u::v::vs)) (Out Γ ρ l m r) E σ.s) σ e x fun i d c e=>?_
    have hT:σ.s.TypeIs (.ref c.p.1) "dict":=⟨_,c.g,rfl⟩
    obtain⟨hk,e⟩:=bq e
    induction ps with
    | nil=>induction vs with
     | cons _ _=>exact y.2.elim
     | nil=>exact adP F.slot_dict_get hT F.entry_dict_get (Hp c hu hk e y.1 (o:=.none) (dp:=.none) rfl V (Q:=fun fin s'=>∃v,fin=PySem.Fin.done (Flow.ret v)∧Out Γ ρ l m r v s') (fun v s h=>⟨v,rfl,h⟩) none rfl) (F.args_dict_get_2 _ _)
    | cons z ps=>induction ps with
     | cons _ _=>exact du e
     | nil=>induction vs with
      | nil=>exact y.2.elim
      | cons w vs=>induction vs with
       | cons _ _=>exact y.2.2.elim
       | nil=>exact adP F.slot_dict_get hT F.entry_dict_get (Hp c hu hk e y.1 y.2.1 V (Q:=fun fin s'=>∃v,fin=PySem.Fin.done (Flow.ret v)∧Out Γ ρ l m r v s') (fun v s h=>⟨v,rfl,h⟩) (some w) rfl) (F.args_dict_get_3 _ _ _)
end
end
end Mine.Sim
namespace Mine.Sim
open PySem PySem.W PyProof.Rows PySem.Calls PySem.SeqAt
noncomputable section
noncomputable def Ij(x:Str):List PV:=x.cps.toList.map fun c=>.str ⟨#[c]⟩
inductive mI (h:Heap) (as:List Slot) (it:Addr) (i:Nat):It→Prop
 | live (r:Nat) (p:Slot) (e:as[r]?=some p) (x:h.IsListIter it p.1 i):mI h as it i (.live r)
 | tup (l:List PV) (a:Addr) (vs:Array Value) (t:IsTup h a vs) (r:ay (VR h as) l vs.toList) (x:h.IsTupleIter it a i):mI h as it i (.snap l)
 | str (x:Str) (t:Tok) (y:h.IsStrIter it "str_ascii_iterator" x t i):mI h as it i (.snap (Ij x))
 | range (n:Nat) (k:i≤n) (y:IsRangeIter h it (i:Int) ((n:Int)-(i:Int)) 1):mI h as it i (.snap (jR n))
theorem kX:∀n,(jR n).length=n
 | 0=>rfl
 | n+1=>by rewrite[show jR (n+1)=jR n++[.int n]from rfl];rw[aaA];rw[kX n];rfl
theorem EK{i:Nat}{p:PV}:∀{n:Nat},(jR n)[i]?=some p→p=.int i∧i<n
 | n+1,h=>(kH (l:=jR n) (x:=.int n) h).elim (fun h=>(EK h).imp_right Nat.lt_succ_of_lt) fun e=>by
  rw[kX]at e
  exact⟨e.1▸e.2,e.1▸agr _⟩
theorem mI.go{h h':Heap}{as lg:List Slot}{it:Addr}{i:Nat}{t:It}(x:mI h as it i t)(g:Goes h as h' lg)(hk:h'.get? it=h.get? it):mI h' lg it i t:=by
 induction x with
 | live r p e x=>exact(by obtain⟨o,ho,z⟩:=x;exact .live r p (g.at e) ⟨o,hk.trans ho,z⟩)
 | tup l a vs t r x=>exact(by obtain⟨o,ho,z⟩:=x;exact .tup l a vs (g.tup _ _ t) (VR.pK g r) ⟨o,hk.trans ho,z⟩)
 | str x t y=>exact(by obtain⟨o,ho,z⟩:=y;exact .str x t ⟨o,hk.trans ho,z⟩)
 | range n k y=>exact .range n k (hk.trans y)
theorem mI.solid{h:Heap}{as:List Slot}{it:Addr}{i:Nat}{t:It}(x:mI h as it i t):Ky h it:=by
 induction x with
 | live r p e x=>exact(by obtain⟨o,ho,hc,zz⟩:=x;exact⟨o,ho,by rw[hc];decide⟩)
 | tup l a vs t r x=>exact(by obtain⟨o,ho,hc,zz⟩:=x;exact⟨o,ho,by rw[hc];decide⟩)
 | str x t y=>exact(by obtain⟨o,ho,hc,zz⟩:=y;exact⟨o,ho,by rw[hc];decide⟩)
 | range n k y=>exact⟨_,y,by show(Value.type "range_iterator")≠_;decide⟩
section
variable{Γ:Fr}{ρ hZ:bg}{l:List PV}{m:List Value}{r:PV×CH}{E:Value→Shared→Prop}{A:Around}{i:Nat}{a b p:PV}{u v:Value}{σ:bf Γ ρ}{it:Addr}{t:It}{h':Heap}
structure Bl(σ:bf Γ ρ)(it:Addr)(i:Nat)(t:It):Prop where
 rel:mI σ.s.heap σ.as it i t
 no:¬gm σ.as it
 top:Γ.W.hT.get? it=none
 free:Γ.h0.get? it=none∧¬Fe Γ.env it
theorem Bl.step(I:Bl σ it i t){G:Addr→Prop}{τ:bf Γ hZ}(P:fc G σ.s.heap σ.as τ.s.heap τ.as)(hG:¬G it):Bl τ it i t :=
 have ⟨_,ho,_⟩:=I.rel.solid
 ⟨I.rel.go P.toGoes ((P.keep _ _ ho I.no hG).trans ho.symm),fun h=>(P.fresh it h).elim I.no (db ho),I.top,I.free⟩
theorem Bl.kept(I:Bl σ it i t)(hk:afD it σ.s.heap h'):Kept Γ.W (fun b=>b=it) σ.s.heap σ.as h':=.ext I.no I.top I.rel.solid hk
noncomputable def Bl.mv(I:Bl σ it i t)(hk:afD it σ.s.heap h')(k:Nat):bf Γ ρ:=σ.kept (I.kept hk) (fun zz e=>e▸I.free) k
structure Mvd(it:Addr)(σ τ:bf Γ ρ):Prop where
 as:τ.as=σ.as
 H:τ.H=σ.H
 go:Goes σ.s.heap σ.as τ.s.heap σ.as
 keep:∀b o,b≠it→σ.s.heap.get? b=some o→τ.s.heap.get? b=some o
theorem Bl.mvd(I:Bl σ it i t)(hk:afD it σ.s.heap h')(k:Nat):Mvd it σ (I.mv hk k):=⟨rfl,rfl,(I.kept hk).go,hk⟩
theorem Bl.next(I:Bl σ it i t){q:PV×CH}{Q:Option Value→Shared→Prop}(e:Ov t i σ.H=some q)(V:σ.Vs l m)(k:∀v (τ:bf Γ ρ),τ.Vs (q.1::l) (v::m)→Mvd it σ τ→q.2=σ.H→Bl τ it (i+1) t→Q (some v) τ.s):wpAny Γ.mod A (pyNext (.ref it)) Q E σ.s:=by
 have fin:∀{h':Heap} {v:Value} {j:Nat} (hk:afD it σ.s.heap h'),q.2=σ.H→VR h' σ.as q.1 v→mI h' σ.as it (i+1) t→Q (some v) { σ.s with heap:=h',toks:=j }:=fun{h' v j} hk z x y=>k v (I.mv hk j) ⟨x,VR.pK (I.kept hk).go V⟩ (I.mvd hk j) z ⟨y,I.no,I.top,I.free⟩
 cases I.rel with
 | live r p e1 x =>
  refine eS (P:=fun u=>u=.ref p.1→wpAny Γ.mod A (pyNext (.ref it)) Q E σ.s) σ (a:=.ref r) e ⟨p,e1,rfl⟩ (fun j k' c e h=>?_) rfl
  obtain⟨e,z⟩:=lV e
  obtain⟨w,w1,w2⟩:=c.get e
  rw[← ad9 h]at x
  exact wpAny_pyNext_list_item x c.is w1 fun h' Oo hs=>fin hs.extBut z (w2.go (I.kept hs.extBut).go) (.live r p e1 (ad9 h▸Oo))
 | tup l a vs t r x =>
  obtain⟨e,z⟩:=lV e
  obtain⟨w,w1,w2⟩:=r.get e
  exact wpAny_pyNext_tuple_item x t (ac8.symm.trans w1) fun h' Oo hs=>have g:=(I.kept hs.extBut).go;fin hs.extBut z (w2.go g) (.tup l a vs (g.tup _ _ t) (VR.pK g r) Oo)
 | str x t y =>
  obtain⟨e,z⟩:=lV e
  unfold Ij at e
  rw[adf]at e
  obtain⟨c,h1,h2⟩:=aem.mp e
  exact wpAny_pyNext_ascii_item y (ac8.symm.trans h1) fun h' Oo hs=>fin hs.extBut z (h2▸⟨_,rfl⟩) (.str x t Oo)
 | range n k' y =>
  obtain⟨e,z⟩:=lV e
  obtain⟨h1,IE⟩:=EK e
  refine wpAny_pyNext_range_item y (by lia) fun h' Oo hs=>fin hs.extBut z (h1▸⟨_,rfl⟩) (.range n IE ?_)
  rw[show(((i+1:Nat):Int))=(i:Int)+1 from rfl];rw[show(n:Int)-((i:Int)+1)=(n:Int)-(i:Int)-1 by lia]
  exact Oo
theorem Bl.last(I:Bl σ it i t){q:Unit×CH}{Q:Option Value→Shared→Prop}(hh:A.handled=none)(e:qS t i σ.H=some q)(V:σ.Vs l m)(k:∀(τ:bf Γ ρ),τ.Vs l m→Mvd it σ τ→q.2=σ.H→Q none τ.s):wpAny Γ.mod A (pyNext (.ref it)) Q E σ.s:=by
 have fin:∀{h':Heap} {j:Nat} (hk:afD it σ.s.heap h'),q.2=σ.H→Q none { σ.s with heap:=h',toks:=j }:=fun{h' j} hk z=>k (I.mv hk j) (VR.pK (I.kept hk).go V) (I.mvd hk j) z
 refine cn e fun n e1 e2=>?_
 have hn:ael n.1 i=true∧q.2=n.2:=by
  generalize h:ael n.1 i=zq;induction zq with
  | true=>rw[h]at e2;cases di e2;exact⟨rfl,rfl⟩
  | false=>rw[h]at e2;exact du e2
 have hi:n.1=i:=abX hn.1
 cases I.rel with
 | live r p e3 x =>
  refine eS (P:=fun u=>u=.ref p.1→wpAny Γ.mod A (pyNext (.ref it)) Q E σ.s) σ (a:=.ref r) e1 ⟨p,e3,rfl⟩ (fun j k' c e h=>?_) rfl
  cases di e
  rw[← ad9 h]at x
  exact wpAny_pyNext_list_end hh x c.is (afV (adT (c.len.trans hi))) fun h' hs=>fin (j:=σ.s.toks) hs hn.2
 | tup l a vs t r x =>
  cases di e1
  exact wpAny_pyNext_tuple_end hh x t (afV (adT (r.len.trans hi))) fun h' hs=>fin (j:=σ.s.toks) hs hn.2
 | str x t y =>
  cases di e1
  exact wpAny_pyNext_ascii_end hh y (afV (adT ((aaY (as:=x.cps.toList) (f:=fun c=>PV.str ⟨#[c]⟩)).symm.trans hi))) fun h' hs=>fin (j:=σ.s.toks) hs hn.2
 | range n k' y =>
  cases di e1
  have hi:=(kX n).symm.trans hi
  exact wpAny_pyNext_range_end hh y (by lia) fun h' hs=>fin (j:=σ.s.toks) hs hn.2
theorem Bl.self{Q:Value→Shared→Prop}(I:Bl σ it i t)(h:Q (.ref it) σ.s):wpAny Γ.mod A (pyIter (.ref it)) Q E σ.s:=by
 cases I.rel with
 | live r p e x=>exact wpAny_pyIter_listiter x h
 | tup l a vs t r x=>exact wpAny_pyIter_tupleiter x h
 | str x t y=>exact wpAny_pyIter_striter_ascii y h
 | range n k y=>exact wpAny_pyIter_rangeiter y h
inductive Ia (Γ:Fr) (ρ:bg) (l:List PV) (m:List Value) (t:It×CH):Value→Shared→Prop
 | mk (it:Addr) (τ:bf Γ ρ) (e:τ.H=t.2) (I:Bl τ it 0 t.1) (V:τ.Vs l m):Ia Γ ρ l m t (.ref it) τ.s
theorem Ia.of{q:It×CH}(σ:bf Γ ρ){k:Nat}(hk:∀b o,σ.s.heap.get? b=some o→h'.get? b=some o)(hi:σ.s.heap.get? it=none)(e:ret t σ.H=some q)(R:mI h' σ.as it 0 t)(V:σ.Vs l m):Ia Γ ρ l m q (.ref it) { σ.s with heap:=h',toks:=k }:=by
 cases di e
 exact .mk it (σ.grow hk k) rfl ⟨R,σ.inv.free hi,σ.inv.top hi,σ.fO.no hi,fun f=>(by obtain⟨zz,ho⟩:=σ.fm.has f;exact db ho hi)⟩ (VR.pK (σ.iI hk) V)
theorem XA{q:It×CH}{H:CH}(e:da a H=some q):(∃k,a=.tup k∧ret (.snap k) H=some q)∨(∃s:Str,a=.str s∧fM (s.cps.toList.all (fun c=>ahk c 128)) (ret (.snap (Ij s))) H=some q)∨gv a (fun i zz=>ret (.live i)) H=some q:=by
 induction a using PV.casesOn with
 | tup k=>exact .inl ⟨k,rfl,e⟩
 | str s=>exact .inr (.inl ⟨s,rfl,e⟩)
 | ref zz=>exact .inr (.inr e)
 | _=>exact du e
theorem bf.iter(σ:bf Γ ρ){q:It×CH}(e:da a σ.H=some q)(x:σ.V a u)(V:σ.Vs l m):wpAny Γ.mod A (pyIter u) (Ia Γ ρ l m q) E σ.s:=by
 have hk:∀o b ob,σ.s.heap.get? b=some ob→(σ.s.heap.push o).get? b=some ob:=fun o zz zz e=>aa5 _ e
 obtain⟨k,rfl,e⟩ | ⟨x',rfl,e⟩ | e:=XA e
 ·obtain⟨a,vs,rfl,ht,r⟩:=x
  have g:=σ.iI (hk { cls:=.type "tuple_iterator",data:=.fields #[.ref a,.int 0 0] })
  exact wpAny_pyIter_tuple ht (.of (k:=σ.s.toks) σ (hk _) gO e (.tup k a vs (g.tup _ _ ht) (VR.pK g (E7.all▸r)) ⟨_,abP _ rfl,rfl,rfl⟩) V)
 ·obtain⟨hc,e⟩:=bq e
  obtain⟨t,rfl⟩:=x
  exact wpAny_pyIter_ascii (by rw[← Array.all_toList,adM]at *;exact fun c h=>decide_eq_true (acT (hc c h))) (.of (k:=σ.s.toks) σ (hk _) gO e (.str x' t ⟨_,abP _ rfl,rfl,rfl⟩) V)
 ·exact eS (P:=fun u=>wpAny Γ.mod A (pyIter u) (Ia Γ ρ l m q) E σ.s) σ e x fun i k c e=>agv c.is (.of (k:=σ.s.toks) σ (hk _) gO e (.live i c.p c.at' ⟨_,abP _ rfl,rfl,rfl⟩) V)
theorem bf.range(σ:bf Γ ρ){q:It×CH}{w:Value}{Q:Value→Shared→Prop}(e:gj a σ.H=some q)(x:σ.V a w)(V:σ.Vs l m)(h:∀r s,wpAny Γ.mod A (pyIter (.ref r)) (Ia Γ ρ l m q) E s→Q (.ref r) s):wpAny Γ.mod A (call (.type "range") [w]) Q E σ.s:=by
 refine iP (P:=fun w=>wpAny Γ.mod A (call (.type "range") [w]) Q E σ.s) e x fun n t e=>?_
 obtain⟨hn,e⟩:=bq e
 have hn:=of_decide_eq_true hn
 refine call_range_1 (h _ _ ?_)
 have hr:IsRange (σ.s.heap.push { cls:=.type "range",data:=.fields #[.int 0 σ.s.toks,.int (aeJ n) t,.int 1 (σ.s.toks+1)] }) σ.s.heap.objs.size 0 (aeJ n) 1 σ.s.toks t (σ.s.toks+1):=abP _ rfl
 have hz:adx.Range.rangeSize 0 (aeJ n) 1=n:=by
  unfold adx.Range.rangeSize
  rewrite[if_pos (by decide)]
  simp only[afx]
  split <;> lia
 refine wpAny_pyIter_range (s:={ σ.s with heap:=σ.s.heap.push { cls:=.type "range",data:=.fields #[.int 0 σ.s.toks,.int (aeJ n) t,.int 1 (σ.s.toks+1)] },toks:=σ.s.toks+1+1 }) hr ?_ (.of σ (fun zz zz e=>aa5 _ (aa5 _ e)) (abQ.mpr fun zz e=>db (aa5 _ e) gO) e (.range n (acV _) ?_) V)
 ·unfold adx.Range.small
  rw[hz];rewrite[if_pos (by decide)]
  have fit:∀i:Int,-1000000<i→i<1000000→adx.Range.rangeFitsLong i=true:=fun i h1 h2=>by
   unfold adx.Range.rangeFitsLong
   rewrite[ade,decide_eq_true_eq,decide_eq_true_eq]
   constructor <;> lia
  have h1:-1000000<(n:Int)∧(n:Int)<1000000:=by lia
  have hN:=fit n h1.1 h1.2
  rewrite[fit 0 (by decide) (by decide),fit 1 (by decide) (by decide),show aeJ n+(1-1)=(n:Int)from by rw[Int.sub_self];rw[Int.add_zero];rfl,show aeJ n=(n:Int)from rfl,hN,Bool.or_true]
  rfl
 ·rw[hz]
  show _=_
  rw[abP _ rfl]
  simp
end
end
end Mine.Sim
namespace Mine.Sim
open PySem PySem.W PyProof.Rows PySem.Calls PySem.SeqAt
noncomputable section
structure Bs(Γ:Fr):Prop where
 fx:Fx Γ.W Γ.env Γ.sc
 rm:Rm Γ.n Γ.A
structure Bg(Γ:Fr)(ρ:bg)(r:PV×CH)(C a:Addr)(τ:bf Γ ρ):Prop where
 e:τ.H=r.2
 val:τ.V r.1 (.ref a)
 ns:∃m,τ.s.heap.Ns C m
 no:¬gm τ.as C∧Γ.W.hT.get? C=none
 new:Γ.h0.get? C=none∧¬Fe Γ.env C
structure Kw(W:Wd)(n:Nat)(L:Rr):Prop where
 ev:∀{Γ:Fr},Bs Γ→Γ.W=W→Γ.n=n→∀{ρ:bg} (σ:bf Γ ρ) {x:Expr} {r:PV×CH},L.ev x Γ.sc ρ σ.H=some r→wpAny Γ.mod Γ.A (eval x Γ.env) (Out Γ ρ [] [] r) Γ.E σ.s
 Be:∀{Γ:Fr},Bs Γ→Γ.W=W→Γ.n=n→∀{ρ:bg} (σ:bf Γ ρ) {x:Expr} {r:Bool×CH},L.Be x Γ.sc ρ σ.H=some r→wpAny Γ.mod Γ.A (isTrue x Γ.env (eval x Γ.env)) (sN Γ ρ [] [] r) Γ.E σ.s
 ex:∀{Γ:Fr},Bs Γ→Γ.W=W→Γ.n=n→(∀b,Fe Γ.env b→Γ.F b)→∀{ρ:bg} (σ:bf Γ ρ) {x:Stmt} {K:bg→CM PV} {r:PV×CH},L.ex x Γ.sc ρ K σ.H=some r→wpAny Γ.mod Γ.A (exec x Γ.env) (sK Γ K r) Γ.E σ.s
 cmp:∀{Γ:Fr},Bs Γ→Γ.W=W→Γ.n=n→∀{ρ:bg} (σ:bf Γ ρ) {elt:Expr} {gens:List acI} {fK:Scope} {pos:Pos} {r:PV×CH} {use:Option (Value→Sem Unit)} {Q:Value→Shared→Prop},L.ev (.ListComp elt gens fK pos) Γ.sc ρ σ.H=some r →
  (∀C a (τ:bf Γ ρ),Bg Γ ρ r C a τ→compPost Γ.mod Γ.A Γ.E use Q (.ref a) C (.ok .next) τ.s)→wpAny Γ.mod Γ.A (comprehension (.ListComp elt gens fK pos) fK Γ.env (firstIterPos gens pos) (newList []) (firstAsync gens) (firstIter gens Γ.env) use) Q Γ.E σ.s
inductive Back (W:Wd) (s:Shared) (as:List Slot) (r:PV×CH):Result→Shared→Prop
 | mk (v:Value) (s':Shared) (lg:List Slot) (I:Inv W s'.heap lg r.2) (S:St W s') (P:fc gF s.heap as s'.heap lg) (x:VR s'.heap lg r.1 v):Back W s as r (.ok (.ret v)) s'
noncomputable def Bf(W:Wd)(n:Nat)(cl:Str→List PV→CM PV):Prop :=
 ∀{k ps H r s as vs f A},Rc n A→cl k ps H=some r→W.fns k=some f→Inv W s.heap as H→St W s→ay (VR s.heap as) ps vs→aeh (model W.prog W.w) A (.call (.ref f) ⟨vs,[]⟩) (Back W s as r) s
structure Ok(Γ:Fr):Prop extends Bs Γ where
 ok:Bn Γ.W
 lv:Kw Γ.W Γ.n Γ.L
 co:Bf Γ.W Γ.n Γ.cl
noncomputable def Fr.at(Γ:Fr)(h:Heap)(as:List Slot):Fr:={ Γ with h0:=h,as0:=as,F:=gF }
noncomputable def Fr.atF(Γ:Fr)(h:Heap)(as:List Slot):Fr:={ Γ with h0:=h,as0:=as,F:=Fe Γ.env }
theorem Rm.units{n:Nat}{A:Around}(r:Rm n A):A.units+12<cLine:=by have:=r.2.2;lia
section
variable{Γ:Fr}{ρ hZ:bg}{l ps:List PV}{m vs:List Value}{r:PV×CH}{rb:Bool×CH}{E:Value→Shared→Prop}{A:Around}{i:Nat}{a b p:PV}{u v:Value}{x:Expr}
noncomputable def bf.at(σ:bf Γ ρ):bf (Γ.at σ.s.heap σ.as) ρ:=⟨σ.s,σ.as,σ.H,σ.inv,σ.st,σ.fm,fc.refl⟩
noncomputable def bf.of(σ:bf Γ ρ)(τ:bf (Γ.at σ.s.heap σ.as) ρ):bf Γ ρ:=⟨τ.s,τ.as,τ.H,τ.inv,τ.st,τ.fm,σ.fO.PR τ.fO⟩
noncomputable def bf.atF(σ:bf Γ ρ):bf (Γ.atF σ.s.heap σ.as) ρ:=⟨σ.s,σ.as,σ.H,σ.inv,σ.st,σ.fm,fc.refl⟩
theorem Ok.ev(C:Ok Γ)(σ:bf Γ ρ)(e:Γ.L.ev x Γ.sc ρ σ.H=some r)(V:σ.Vs l m):wpAny Γ.mod Γ.A (eval x Γ.env) (Out Γ ρ l m r) Γ.E σ.s :=
 abr (C.lv.ev (Γ:=Γ.at σ.s.heap σ.as) ⟨C.fx,C.rm⟩ rfl rfl σ.at e) (fun zz zz=>Out.el fun v τ e x=>.mk v (σ.of τ) e ⟨x.1,VR.pK τ.fO.toGoes V⟩) fun zz zz e=>e
theorem Ok.Be(C:Ok Γ)(σ:bf Γ ρ)(e:Γ.L.Be x Γ.sc ρ σ.H=some rb)(V:σ.Vs l m):wpAny Γ.mod Γ.A (isTrue x Γ.env (eval x Γ.env)) (sN Γ ρ l m rb) Γ.E σ.s :=
 abr (C.lv.Be (Γ:=Γ.at σ.s.heap σ.as) ⟨C.fx,C.rm⟩ rfl rfl σ.at e) (fun zz zz o=>by induction o with | mk τ e x=>exact .mk (σ.of τ) e (VR.pK τ.fO.toGoes V)) fun zz zz e=>e
theorem Ok.hY(C:Ok Γ){β:Type}{q:β×CH}{f:PV→CM β}{Q:Value→Shared→Prop}(σ:bf Γ ρ)(V:σ.Vs l m)(e:aa (Γ.L.ev x Γ.sc ρ) f σ.H=some q)(k:∀p v (τ:bf Γ ρ),τ.Vs (p::l) (v::m)→f p τ.H=some q→Q v τ.s):wpAny Γ.mod Γ.A (eval x Γ.env) Q Γ.E σ.s:=acu e (fun zz e=>C.ev σ e V) k
theorem Ok.PS(C:Ok Γ){β:Type}{q:β×CH}{f:Bool→CM β}{Q:Bool→Shared→Prop}(σ:bf Γ ρ)(V:σ.Vs l m)(e:aa (Γ.L.Be x Γ.sc ρ) f σ.H=some q)(k:∀b (τ:bf Γ ρ),τ.Vs l m→f b τ.H=some q→Q b τ.s):wpAny Γ.mod Γ.A (isTrue x Γ.env (eval x Γ.env)) Q Γ.E σ.s:=act e (fun zz e=>C.Be σ e V) k
theorem Ok.call(C:Ok Γ)(σ:bf Γ ρ){k:Str}{f:Addr}{Q:Result→Shared→Prop}(R:Rc Γ.n A)(e:Γ.cl k ps σ.H=some r)(hf:Γ.W.fns k=some f)(x:σ.Vs ps vs)(V:σ.Vs l m)(h:∀v (τ:bf Γ ρ),τ.H=r.2→τ.Vs (r.1::l) (v::m)→Q (.ok (.ret v)) τ.s):aeh Γ.mod A (.call (.ref f) ⟨vs,[]⟩) Q σ.s :=
 af8 (C.co R e hf σ.inv σ.st x) fun q s' o=>by
  induction o with
  | mk v s' lg I S P x=>exact h v (σ.to I S P) rfl ⟨x,VR.pK P.toGoes V⟩
theorem lM{f:Value}{vs:List Value}{Q:Value→Shared→Prop}{s:Shared}(h:aeh Γ.mod A (.call f ⟨vs,[]⟩) (fun r s'=>∃v,r=.ok (.ret v)∧Q v s') s):wpAny Γ.mod A (call f vs) Q E s:=wpAny_call (af8 h (by rintro r s' ⟨v,e,q⟩;exact by subst e;exact q))
theorem gM{x:Str}{k:ac0}{sc:Scope}(h:look x sc.names=some k):sc.names.lookup x=some k:=by rewrite[← oD];exact h
theorem X9{i:Nat}{H:CH}(h:dc ρ i H=some r):ρ[i]?=some (some r.1)∧r.2=H:=by
 unfold dc at h
 generalize q:ρ[i]?=zq;induction zq with
 | none=>rw[q]at h;exact du h
 | some o=>induction o with
  | none=>rw[q]at h;exact du h
  | some v=>rw[q]at h;cases di h;exact⟨rfl,rfl⟩
theorem bf.load(σ:bf Γ ρ)(B:Fx Γ.W Γ.env Γ.sc){x:Str}{k:ac0}{Q:Value→Shared→Prop}(hk:look x Γ.sc.names=some k)(Xo:k=.local∨oz k)(hp:ρ[idx x Γ.sc.names]?=some (some p))(hQ:∀v,σ.V p v→Q v σ.s):wpAny Γ.mod A (loadName Γ.env x) Q E σ.s:=by
 rcases Xo with rfl | hc
 ·obtain⟨m,hn,hm⟩:=σ.fm.loc
  obtain⟨v,h1,h2⟩:=hm x p hk hp
  exact wpAny_loadName_local B.kind (B.kl x hk) hn h1 (hQ v h2)
 ·obtain⟨h1,c,S9⟩:=B.kc x k hk hc
  obtain⟨v,hv,YM⟩:=σ.fm.Tz x c S9
  obtain⟨u,rfl,hu⟩:=YM p k hk hc hp
  exact wpAny_loadName_cell B.kind h1 S9 hv (hQ u hu)
theorem xR{h h':Heap}{as:List Slot}{c:Addr}(n:∃o,h.get? c=some o∧∀vs n,o.data≠.seq vs n)(hs:adO c h h'):Goes h as h' as:=⟨abg _,(by rintro a vs ⟨o',Hx,hc,n',hd'⟩;exact(by obtain⟨o,ho,hd⟩:=n;exact⟨o',(hs.2 a (fun e=>by rw[e,ho]at Hx;exact hd vs n' (aa0 Hx▸hd'))).trans Hx,hc,n',hd'⟩))⟩
theorem EU{ρ:bg}{i j:Nat}{q:PV}(h:(ρ.set i (some p))[j]?=some (some q)):(i=j∧p=q)∨(i≠j∧ρ[j]?=some (some q)):=by
 by_cases e:i=j
 ·subst e
  rw[afi (by have h:=(aa9.mp h).1;rwa [adj]at h)]at h
  exact .inl ⟨rfl,aa0 (aa0 h)⟩
 ·rw[aeN e]at h
  exact .inr ⟨e,h⟩
theorem Fd.local{env:Env}{sc:Scope}{h h':Heap}{as:List Slot}{W:Wd}{x:Str}{m:Str→Option Value}(M:Fd env sc h as ρ)(B:Fx W env sc)(hk:look x sc.names=some .local)(hv:VR h as p v)(hm:∀x p,look x sc.names=some .local→ρ[idx x sc.names]?=some (some p)→∃v,m x=some v∧VR h as p v)
  (hn:h'.Ns env.locals fun y=>if y=x then some v else m y) (hs:adO env.locals h h') (g:Goes h as h' as):Fd env sc h' as (ρ.set (idx x sc.names) (some p)) :=
 ⟨by rw[adj];exact M.len,⟨_,hn,fun y q h1 h2=>(EU h2).elim ((by rintro⟨e,eq⟩;exact⟨v,if_pos (tB hk h1 e).symm,eq▸hv.go g⟩)) (by rintro⟨ne,h2⟩;exact(by obtain⟨w,w1,w2⟩:=hm y q h1 h2;exact⟨w,(if_neg fun e:y=x=>ne (by rw[e];rfl)).trans w1,w2.go g⟩))⟩,
  fun y c e=>(by obtain⟨w,hw,hww⟩:=M.Tz y c e;exact( ⟨w,hw.sameBut hs (B.apart y c e),fun q k h1 h2 h3=>(EU h3).elim ((by rintro⟨e,_⟩;exact(by
   have:=tB hk h1 e
   subst this
   rw[hk]at h1
   replace h1:=zI h1;subst h1
   rcases h2 with h2 | h2 <;> cases h2))) (by rintro⟨_,h3⟩;exact(hww q k h1 h2 h3).imp fun u hu=>⟨hu.1,hu.2.go g⟩)⟩)),M.no⟩
theorem Fd.cell{env:Env}{sc:Scope}{h h':Heap}{as:List Slot}{W:Wd}{x:Str}{c:Addr}(M:Fd env sc h as ρ)(B:Fx W env sc)(hk:look x sc.names=some .cell)(hv:VR h as p v)(S9:env.cells.lookup x=some c)(hc:h'.IsCell c (some v))(hs:adO c h h')(g:Goes h as h' as):Fd env sc h' as (ρ.set (idx x sc.names) (some p)) :=
 ⟨by rw[adj];exact M.len,(by obtain⟨m,hn,hm⟩:=M.loc;exact( ⟨m,hn.sameBut hs (B.apart x c S9).symm,fun y q h1 h2=>(EU h2).elim ((by rintro⟨e,_⟩;exact(by
   have:=tB hk h1 e
   subst this
   rw[hk]at h1
   cases h1))) (by rintro⟨_,h2⟩;exact(hm y q h1 h2).imp fun u hu=>⟨hu.1,hu.2.go g⟩)⟩)),
  fun y d e=>by
   by_cases hd:d=c
   ·subst hd
    refine⟨_,hc,fun q k h1 h2 h3=>(EU h3).elim ((by rintro⟨_,eq⟩;exact⟨v,rfl,eq▸hv.go g⟩)) fun⟨ne,_⟩=>(ne ?_).elim⟩
    rw[B.ci y x d e S9];rfl
   ·obtain⟨w,hw,hww⟩:=M.Tz y d e
    refine⟨w,hw.sameBut hs hd,fun q k h1 h2 h3=>(EU h3).elim (fun⟨e',_⟩=>(hd ?_).elim) (by rintro⟨_,h3⟩;exact(hww q k h1 h2 h3).imp fun u hu=>⟨hu.1,hu.2.go g⟩)⟩
    rw[← tB hk h1 e',S9]at e
    exact(aa0 e).symm,M.no⟩
theorem Bu{G:Addr→Prop}{h h':Heap}{as:List Slot}{c:Addr}(hG:G c)(hs:adO c h h')(g:Goes h as h' as)(hl:(h'.get? c).isSome=true):fc G h as h' as :=
 ⟨g,fun b o e zz n=>(hs.2 b fun e=>n (e▸hG)).trans e,fun b hb=>by
  by_cases e:b=c
  ·rw[e];exact hl
  ·rewrite[hs.2 b e];exact hb,fun zz x=>.inl x⟩
noncomputable def bf.bound(σ:bf Γ ρ){h':Heap}{c:Addr}(B:Fx Γ.W Γ.env Γ.sc)(hc:Fe Γ.env c)(hF:Γ.F c)(hs:adO c σ.s.heap h')(g:Goes σ.s.heap σ.as h' σ.as)(hl:(h'.get? c).isSome=true)(M:Fd Γ.env Γ.sc h' σ.as hZ)(k:Nat):bf Γ hZ :=
 have K:Kept Γ.W (fun b=>b=c) σ.s.heap σ.as h':=⟨fun b o e n=>(hs.2 b n).trans e,fun b e=>e▸⟨σ.fm.no c hc,B.top c hc⟩,g.tup⟩
 ⟨{ σ.s with heap:=h',toks:=k },σ.as,σ.H,K.inv σ.inv,σ.st,M,σ.fO.trans (Bu hF hs g hl)⟩
theorem bf.store(σ:bf Γ ρ)(B:Fx Γ.W Γ.env Γ.sc){x:Str}{k:ac0}{Q:Unit→Shared→Prop}(hk:look x Γ.sc.names=some k)(Xo:k=.local∨k=.cell)(hF:∀b,Fe Γ.env b→(k=.local→b=Γ.env.locals)→Γ.F b)(hv:σ.V p v)(V:σ.Vs l m)
  (hQ:∀(τ:bf Γ (gc Γ.sc ρ x p)),τ.H=σ.H→τ.Vs l m→fc (Fe Γ.env) σ.s.heap σ.as τ.s.heap τ.as→Q () τ.s):wpAny Γ.mod A (storeName Γ.env x v) Q E σ.s:=by
 have fin:∀{h':Heap} {c:Addr} {t:Nat} (hc:Fe Γ.env c) (Ll:k=.local→c=Γ.env.locals) (hs:adO c σ.s.heap h') (g:Goes σ.s.heap σ.as h' σ.as) (hl:(h'.get? c).isSome=true) (M:Fd Γ.env Γ.sc h' σ.as (gc Γ.sc ρ x p)),Q () { σ.s with heap:=h',toks:=t }:=fun{h' c t} hc Ll hs g hl M =>
  hQ (σ.bound B hc (hF c hc Ll) hs g hl M t) rfl (VR.pK g V) (Bu hc hs g hl)
 rcases Xo with rfl | rfl
 ·obtain⟨m',hn,hm⟩:=σ.fm.loc
  refine wpAny_storeName_local (hp:=by rw[B.kind];rfl) (B.kl x hk) hn fun h' Xp hs=>?_
  have g:Goes σ.s.heap σ.as h' σ.as:=xR ((by obtain⟨o,es,ep,ho,hd,zz⟩:=hn;exact⟨o,ho,fun vs n h=>by rw[hd]at h;cases h⟩)) hs
  exact fin (.inl rfl) (fun zz=>rfl) hs g ((by obtain⟨o,zz,zz,ho,zz⟩:=Xp;exact by rw[ho];rfl)) (σ.fm.local B hk hv hm Xp hs g)
 ·obtain⟨h1,c,S9⟩:=B.kc x .cell hk (.inl rfl)
  obtain⟨ahG,YN,zz⟩:=σ.fm.Tz x c S9
  refine wpAny_storeName_cell B.kind h1 S9 YN fun h' hc' hs=>?_
  have g:Goes σ.s.heap σ.as h' σ.as:=xR ((by obtain⟨o,ho,hd⟩:=YN;exact⟨o,ho,fun vs n h=>by rw[hd]at h;cases h⟩)) hs
  exact fin (t:=σ.s.toks) (.inr ⟨x,S9⟩) (fun h=>zC ac0.ctorIdx h rfl) hs g ((by obtain⟨o,ho,zz⟩:=hc';exact by rw[ho];rfl)) (σ.fm.cell B hk hv S9 hc' hs g)
end
end
end Mine.Sim
namespace Mine.Sim
open PySem PySem.W PyProof.Rows PySem.Calls PySem.SeqAt
noncomputable section
structure Plain(e:Expr):Prop where
 mark:∀op t,markedBehindIn op e t=t
 star:∀r env,afb (e::r) env=(false,eval e env)::afb r env
 set:∀env v,foldedSetIterable e env v=pure v
theorem iS{e:Expr}(h:jD e=true):Plain e:=by
 cases e <;> first | exact⟨fun zz zz=>rfl,fun zz zz=>rfl,fun zz zz=>rfl⟩ | exact fS h
section
variable{Γ:Fr}{ρ hZ:bg}{l ps:List PV}{m vs:List Value}{r:PV×CH}{rb:Bool×CH}{E:Value→Shared→Prop}{A:Around}{i:Nat}{a b p:PV}{u v:Value}{x:Expr}{pos:Pos}
theorem RD{L:Rr}{op:PySem.BoolOp}{sc:Scope}{x y:Expr}{es:List Expr}{H:CH}(e:Mine.boolOp L op sc ρ (x::y::es) H=some r):aa (L.ev x sc ρ) (fun v=>aa (truth v) fun t=>match op with
   | .And=>af t (Mine.boolOp L .And sc ρ (y::es)) (ret v)
   | .Or=>af t (ret v) (Mine.boolOp L .Or sc ρ (y::es))) H=some r:=e
theorem Ok.boolOp(C:Ok Γ){op:PySem.BoolOp}:∀{es:List Expr} (σ:bf Γ ρ),Mine.boolOp Γ.L op Γ.sc ρ es σ.H=some r→wpAny Γ.mod Γ.A (PySem.boolOp pos op (evalEach es Γ.env)) (Out Γ ρ [] [] r) Γ.E σ.s
 | [],_,e=>du e
 | [_],σ,e=>C.ev σ e trivial
 | x::y::es,σ,e=>by
  show wpAny _ _ (eval x Γ.env >>= fun v=>agQ pos >>= fun zz=>agj [v] (truthy v) >>= fun t=>match op,t with
   | .And,false | .Or,true=>pure v
   | _,_=>PySem.boolOp pos op (evalEach (y::es) Γ.env)) _ _ _
  refine aat (C.hY σ (l:=[]) (m:=[]) trivial (RD e) fun p v τ V e=>aat (acU (aat (abK (act e (fun zz e=>τ.truth e V.1 V) fun t τ V e=>?_)))))
  induction op with
  | And=>induction t with
   | true=>exact C.boolOp τ e
   | false=>exact aa1 (.ret τ e V.1 V.2)
  | Or=>induction t with
   | false=>exact C.boolOp τ e
   | true=>exact aa1 (.ret τ e V.1 V.2)
theorem Ok.iE(C:Ok Γ){op:PySem.BoolOp}:∀{es:List Expr} (σ:bf Γ ρ),Mine.iE Γ.L op Γ.sc ρ es σ.H=some rb→wpAny Γ.mod Γ.A (allTrue op es Γ.env) (sN Γ ρ [] [] rb) Γ.E σ.s
 | [],σ,e=>by
  rw[arm_allTrue_nil]
  exact aa1 (by cases op <;> exact .ret σ e trivial)
 | x::es,σ,e=>by
  rw[arm_allTrue_cons]
  refine aat (C.PS σ (l:=[]) (m:=[]) trivial e fun t τ V e=>?_)
  induction op with
  | And=>induction t with
   | true=>exact C.iE τ e
   | false=>exact aa1 (.ret τ e trivial)
  | Or=>induction t with
   | false=>exact C.iE τ e
   | true=>exact aa1 (.ret τ e trivial)
theorem Ok.Fl(C:Ok Γ):∀{es:List Expr} {l:List PV} {m:List Value} {q:List PV×CH} (σ:bf Γ ρ),Mine.Fl Γ.L Γ.sc ρ es σ.H=some q→σ.Vs l m→wpAny Γ.mod Γ.A (spliced (backTo pos (afb es Γ.env))) (Zg Γ ρ l m q) Γ.E σ.s
 | [],l,m,q,σ,e,V=>by
  cases di e
  exact spliced_none (.mk [] σ rfl trivial V)
 | x::es,l,m,q,σ,e,V=>by
  obtain⟨h,e⟩:=bq e
  refine spliced_more (he:=(iS h).star es Γ.env) (C.hY σ V e fun p v τ V e=>Nx e (fun zz e=>C.Fl τ e V) fun ps vs τ W V e=>?_)
  cases di e
  exact .mk (v::vs) τ rfl ⟨V.1,W⟩ V.2
theorem vJ{L:Rr}{sc:Scope}:∀{es:List Expr} {q:List PV×CH} {H:CH} {env:Env},Mine.Fl L sc ρ es H=some q→(backTo pos (afb es env)).any (·.1)=false
 | [],_,_,_,_=>rfl
 | x::es,q,H,env,e=>by
  obtain⟨h,e⟩:=bq e
  rw[(iS h).star es env]
  exact cn e fun zz zz e=>cn e fun zz e zz=>vJ e
theorem Ok.TB(C:Ok Γ)(σ:bf Γ ρ){ops:List CmpOp}{es:List Expr}(e:Mine.TB Γ.L Γ.sc ρ ops a es σ.H=some rb)(x:σ.V a u):wpAny Γ.mod Γ.A (compareChain pos u ops (markedEach ops es (evalEach es Γ.env))) (Out Γ ρ [] [] (.bool rb.1,rb.2)) Γ.E σ.s:=by
 induction ops with
 | nil=>exact du e
 | cons op ops=>induction ops with
  | cons _ _=>exact du e
  | nil=>induction es with
   | nil=>exact du e
   | cons y es=>induction es with
    | cons _ _=>exact du e
    | nil =>
     obtain⟨h,e⟩:=bq e
     show wpAny _ _ (agj [u] (markedBehindIn op y (eval y Γ.env)) >>= fun rv=>agQ pos >>= fun zz=>operate [u,rv] (afy op u rv)) _ _ _
     rw[(iS h).mark]
     exact aat (abK (C.hY σ (l:=[a]) (m:=[u]) ⟨x,trivial⟩ e fun b v τ V e=>aat (acU (wpAny_operateT (τ.ae e C.rm.units V.2.1 V.1 trivial)))))
theorem abe{q:Bool×CH}{v:Value}{s:Shared}(o:Out Γ ρ l m (.bool q.1,q.2) v s):∃τ:bf Γ ρ,s=τ.s∧v=.bool q.1∧τ.H=q.2∧τ.Vs l m:=Out.el (r:=(PV.bool q.1,q.2)) (Q:=fun v s=>∃τ:bf Γ ρ,s=τ.s∧v=.bool q.1∧τ.H=q.2∧τ.Vs l m) (fun v τ e x=>⟨τ,rfl,x.1,e,x.2⟩) o
theorem Ok.chain(C:Ok Γ):∀{ops:List CmpOp} {es:List Expr} {a:PV} {u:Value} (σ:bf Γ ρ),Mine.chain Γ.L Γ.sc ρ ops a es σ.H=some rb→σ.V a u→wpAny Γ.mod Γ.A (testChain pos u ops (markedEach ops es (evalEach es Γ.env))) (sN Γ ρ [] [] rb) Γ.E σ.s
 | [],_,_,_,_,e,_=>du e
 | _::_,[],_,_,_,e,_=>du e
 | [op],[y],a,u,σ,e,x=>by
  obtain⟨h,e⟩:=bq e
  show wpAny _ _ (agj [u] (markedBehindIn op y (eval y Γ.env)) >>= fun rv=>agQ pos >>= fun zz=>operate [u,rv] (afy op u rv) >>= fun c=>agj [c] (truthy c)) _ _ _
  rw[(iS h).mark]
  exact aat (abK (C.hY σ (l:=[a]) (m:=[u]) ⟨x,trivial⟩ e fun b v τ V e=>aat (acU (aat (wpAny_operateT (abr (τ.ae e C.rm.units V.2.1 V.1 (l:=[]) (m:=[]) trivial) (fun zz zz o=>by obtain⟨τ,rfl,rfl,e,zz⟩:=abe o;exact abK (aed (sN.mk τ e trivial))) fun zz zz e=>e))))))
 | [_],_::_::_,_,_,_,e,_=>du ((bq e).2)
 | op::op'::ops,y::es,a,u,σ,e,x=>by
  obtain⟨h,e⟩:=bq e
  show wpAny _ _ (agj [u] (eval y Γ.env) >>= fun rv=>agQ pos >>= fun zz=>agj [u,rv] (afy op u rv) >>= fun c=>release [u,rv] [c] >>= fun zz=>agj [c,rv] (truthy c) >>= fun t=>if t=true then testChain pos rv (op'::ops) (markedEach (op'::ops) es (evalEach es Γ.env))else pure false) _ _ _
  refine aat (abK (C.hY σ (l:=[a]) (m:=[u]) ⟨x,trivial⟩ e fun b v τ V e=>aat (acU (aat (abK (cn e fun q h1 h2=>abr (τ.ae h1 C.rm.units V.2.1 V.1 (l:=[b]) (m:=[v]) ⟨V.1,trivial⟩) (fun c s o=>?_) fun zz zz e=>e))))))
  obtain⟨τ,rfl,rfl,e,V⟩:=abe o
  refine aat (agp (aat (abK (aed ?_))))
  rw[← e]at h2
  generalize q1:q.1=zq;induction zq with
  | true=>rw[q1]at h2;exact C.chain τ h2 V.1
  | false=>rw[q1]at h2;exact aa1 (.ret τ h2 trivial)
end
end
end Mine.Sim
namespace Mine.Sim
open PySem PySem.W PyProof.Rows PySem.Calls PySem.SeqAt
noncomputable section
theorem SU(C:Addr)(vs:List Value)(kw:List (Str×Value)):Code.weight (.builtin "type.__call__" ⟨.ref C::vs,kw⟩)=1:=by kernel_rfl
theorem Wi(C:Addr)(vs:List Value)(kw:List (Str×Value)):Code.cUnits (.builtin "type.__call__" ⟨.ref C::vs,kw⟩)=1:=by kernel_rfl
theorem Rm.make{n:Nat}{A:Around}(r:Rm n A)(C:Addr)(vs:List Value)(kw:List (Str×Value)):Rc n (A.under (.builtin "type.__call__" ⟨.ref C::vs,kw⟩)):=by
 refine⟨r.1,?_,?_⟩
 ·show A.depth+Code.weight (.builtin "type.__call__" ⟨.ref C::vs,kw⟩)+2*n+1≤_
  rw[SU];exact aa4 (adT (by lia)) r.2.1
 ·show A.units+Code.cUnits (.builtin "type.__call__" ⟨.ref C::vs,kw⟩)+16*n+30<_
  rw[Wi];exact ac6 (by lia) r.2.2
section
variable{Γ:Fr}{ρ hZ:bg}{l ps:List PV}{m vs:List Value}{r:PV×CH}{E:Value→Shared→Prop}{A:Around}{a b p:PV}{u v f:Value}{x:Str}{pos np:Pos}{es:List Expr}{β:Type}{q:β×CH}{g:List PV→CM β}
noncomputable def Callee(W:Wd)(f:Value):Prop:=keepIn W.K f=true∨(∃id,f=.builtin id)∨∃T,f=.type T
theorem Ok.args(C:Ok Γ)(σ:bf Γ ρ)(e:aa (Mine.Fl Γ.L Γ.sc ρ es) g σ.H=some q)(V:σ.Vs l m){Q:Args→Shared→Prop}(hQ:∀ps vs (τ:bf Γ ρ),τ.Vs ps vs→τ.Vs l m→g ps τ.H=some q→Q ⟨vs,[]⟩ τ.s):wpAny Γ.mod Γ.A (evalArgs f true (backTo pos (afb es Γ.env)) []) Q Γ.E σ.s:=by
 induction es with
 | nil=>exact evalArgs_empty (hQ [] [] σ trivial V e)
 | cons x es =>
  have h:wpAny Γ.mod Γ.A (spliced (backTo pos (afb (x::es) Γ.env))) (fun vs s=>Q ⟨vs,[]⟩ s) Γ.E σ.s:=Nx e (fun zz e=>C.Fl σ e V) hQ
  have pl:afb (x::es) Γ.env=(false,eval x Γ.env)::afb es Γ.env:=cn e fun zz e zz=>(iS (bq e).1).star es Γ.env
  rw[pl]at h ⊢
  exact evalArgs_plain h
theorem Ok.callWith(C:Ok Γ)(σ:bf Γ ρ){first:List Value}(hf:Callee Γ.W f)(e:aa (Mine.Fl Γ.L Γ.sc ρ es) g σ.H=some q)(V:σ.Vs l m){Q:Value→Shared→Prop}(hQ:∀ps vs (τ:bf Γ ρ),τ.Vs ps vs→τ.Vs l m→g ps τ.H=some q→wpAny Γ.mod Γ.A (PySem.call f (first++vs)) Q Γ.E τ.s) :
  wpAny Γ.mod Γ.A (PySem.callWith pos f first (backTo pos (afb es Γ.env)) []) Q Γ.E σ.s:=by
 have pl:(backTo pos (afb es Γ.env)).any (·.1)=false:=cn e fun zz e zz=>vJ e
 rcases hf with hf | ⟨id,rfl⟩ | ⟨T,rfl⟩
 ·exact callWith_of (P:=Γ.W.K.In) (by rw[pl];rfl) (keeps_K hf) (C.args σ e V fun ps vs τ W V e=>⟨τ.K C.ok,hQ ps vs τ W V e⟩)
 ·exact Calls.callWith_builtin pl (C.args σ e V hQ)
 ·exact PyProof.Rows.callWith_type pl (C.args σ e V hQ)
noncomputable def bf.LD(σ:bf Γ ρ){c:Str}{K:Addr}(hC:Γ.W.cls c=some K):bf Γ ρ :=
 σ.new (h':=(σ.s.heap.push emptyDict).push (instObj K σ.s.heap.objs.size)) (fun zz zz e=>aa5 _ (aa5 _ e)) (σ.s.heap.objs.size+1,σ.s.heap.objs.size)
  (fun x hx=>abQ.mpr fun o e=>aeM _ (afg (ad0 e) (hx.elim (fun e=>e▸adb _) fun e=>e▸aaX _))) (co:=.inst c [])
  (.mk K #[] 0 (show 0<ax by decide) hC (by rewrite[← af0 σ.s.heap emptyDict];exact abP _ rfl) (aa5 _ (abP _ rfl)) trivial) σ.s.toks
theorem bf.IU(σ:bf Γ ρ){c:Str}{K:Addr}(hC:Γ.W.cls c=some K):Goes σ.s.heap σ.as (σ.LD hC).s.heap (σ.LD hC).as:=σ.OH (fun zz zz e=>aa5 _ (aa5 _ e)) _
theorem PJ{H:CH}{o:PV}(e:(match p with | .none=>ret o | _=>bc:CM PV) H=some r):p=.none∧r=(o,H):=by
 induction p using PV.casesOn with
 | none=>exact⟨rfl,di e⟩
 | _=>exact du e
theorem UF{cl:Str→List PV→CM PV}{c k:Str}{H:CH}(e:jz cl c ps (some (some k)) H=some r):aa (Mine.new (.inst c [])) (fun o=>aa (cl k (o::ps)) fun r=>(match r with
   | .none=>ret o
   | _=>bc:CM PV)) H=some r:=e
theorem Ok.make(C:Ok Γ)(σ:bf Γ ρ){c:Str}{K:Addr}(hC:Γ.W.cls c=some K)(e:jz Γ.cl c ps (Γ.W.P.init c) σ.H=some r)(y:σ.Vs ps vs)(V:σ.Vs l m):wpAny Γ.mod Γ.A (PySem.call (.ref K) vs) (Out Γ ρ l m r) Γ.E σ.s:=by
 have X:=σ.K C.ok
 have O:=C.ok.cls c K hC
 refine lM ?_
 have ref:(σ.LD hC).V (.ref σ.H.length) (.ref (σ.s.heap.objs.size+1)):=σ.IV
 generalize q:Γ.W.P.init c=zq;induction zq with
 | none=>rw[q]at e;exact du e
 | some i =>
  rw[q]at e
  have mk:=makes_of (M:=Γ.mod) X (O.make i q)
  induction i with
  | some k =>
   obtain⟨f,f1,f2,f3⟩:=O.init k q
   refine cn (UF e) fun o e1 e2=>?_
   replace e1:=zI e1;subst e1
   refine cn e2 fun z e3 e4=>?_
   refine make_core mk (init:=.ref f) (looks_findIn X f2) (fun self=>bind_fn X self f3) (.inl (by simp)) ?_
   refine C.call (σ.LD hC) (C.rm.make ..) e3 f1 (l:=.ref σ.H.length::l) (m:=.ref (σ.s.heap.objs.size+1)::m) ⟨ref,VR.pK (σ.IU hC) y⟩ ⟨ref,VR.pK (σ.IU hC) V⟩ fun v τ e' x=>?_
   obtain⟨h,rfl⟩:=PJ e4
   have h0:=x.1
   rw[h]at h0
   obtain rfl:=h0
   exact⟨rfl,_,rfl,.mk _ τ e' x.2⟩
  | none =>
   induction ps with
   | cons _ _=>exact du e
   | nil=>induction vs with
    | cons _ _=>exact y.elim
    | nil =>
     replace e:=zI e;subst e
     refine make_core mk (init:=.builtin "object.__init__") (looks_findIn X (O.abV q)) (fun self=>Looks.of_pure (oi_bind self)) (.inr ⟨rfl,rfl⟩) ?_
     have g1:(σ.LD hC).s.heap.get? (σ.s.heap.objs.size+1)=some (instObj K σ.s.heap.objs.size):=by
      show((σ.s.heap.push emptyDict).push (instObj K σ.s.heap.objs.size)).get? (σ.s.heap.objs.size+1)=_
      rewrite[← af0 σ.s.heap emptyDict];exact abP _ rfl
     have t1:Looks Γ.mod (σ.LD hC).s.heap (typeOf (.ref (σ.s.heap.objs.size+1))) (.ref K):=(Looks.ld g1).andThen .now
     have t2:Looks Γ.mod (σ.LD hC).s.heap (isInstance (.ref (σ.s.heap.objs.size+1)) (.type "object")) true:=t1.andThen (mk.top.keeps fun b o e=>aa5 _ (aa5 _ e))
     refine codeAny_call_builtin oi_plain entry_oi (@check_slot Γ.mod _ _ _ "object.__init__" "object" "__init__" (.ref (σ.s.heap.objs.size+1)) [] [] _ oi_kind oi_split t2 (oi_args (.ref (σ.s.heap.objs.size+1))) ?_)
     rw[oi_run]
     exact aa1 (And.intro rfl ⟨_,rfl,.mk _ (σ.LD hC) rfl ⟨ref,VR.pK (σ.IU hC) V⟩⟩)
theorem Ok.global(C:Ok Γ)(σ:bf Γ ρ){Q:Value→Shared→Prop}(hk:look x Γ.sc.names=some .globalImplicit):(∀v,nsIn Γ.W.K adk x=some (some v)→Q v σ.s→wpAny Γ.mod A (eval (.Name x np) Γ.env) Q E σ.s)∧∀v,nsIn Γ.W.K adk x=some none→af9 x=some v→x≠"__name__"→Q v σ.s→wpAny Γ.mod A (eval (.Name x np) Γ.env) Q E σ.s:=by
 obtain⟨pr,loose,mg,mb,T⟩:=C.ok.top
 have T':=T.keeps σ.inv.keep
 have X:=σ.K C.ok
 exact⟨fun v hv hQ=>Calls.Name_function_global C.fx.kind (C.fx.kg x hk) (Calls.loadGlobal_global (by rw[C.fx.glob];exact T'.g) (mg_of X T'.g hv) hQ) (C.fx.dbg x _ hk),
  fun v hv hb hn hQ=>Calls.Name_function_global C.fx.kind (C.fx.kg x hk) (Calls.loadGlobal_builtin (by rw[C.fx.glob];exact T'.g) (mg_none_of X T'.g hv) (by rw[C.fx.blt];exact T'.b) ((T'.builtins x hn).trans hb) hQ) (C.fx.dbg x _ hk)⟩
theorem HB{sc:Scope}(h:vO x sc=true):look x sc.names=some .globalImplicit:=by
 unfold vO at h
 generalize q:look x sc.names=zq;induction zq with
 | none=>rw[q]at h;exact fS h
 | some k=>rw[q]at h;cases k <;> first | rfl | exact fS h
theorem kb{P:Prg}{cl:Str→List PV→CM PV}{H:CH}(e:oj P cl x ps H=some r):(P.kind x=some .fn∧cl x ps H=some r)∨(P.kind x=some .cls∧jz cl x ps (P.init x) H=some r)∨∃b,P.kind x=some (.blt b)∧Mine.blt b ps H=some r:=by
 unfold oj at e
 generalize q:P.kind x=zq;induction zq with
 | none=>rw[q]at e;exact du e
 | some k =>
  rw[q]at e
  induction k with
  | fn=>exact .inl ⟨rfl,e⟩
  | cls=>exact .inr (.inl ⟨rfl,e⟩)
  | blt b=>exact .inr (.inr ⟨b,rfl,e⟩)
theorem Ok.Ix(C:Ok Γ)(σ:bf Γ ρ)(e:Mine.Ix Γ.W.P Γ.cl Γ.L x es Γ.sc ρ σ.H=some r):wpAny Γ.mod Γ.A (eval (.Call (.Name x np) es [] pos) Γ.env) (Out Γ ρ [] [] r) Γ.E σ.s:=by
 obtain⟨hg,e⟩:=bq e
 have hk:=HB hg
 refine wpAny_Call_NameR ?_
 obtain⟨n1,n2⟩:=C.global (np:=np) (A:=Γ.A) (E:=Γ.E) σ (Q:=fun f s=>wpAny Γ.mod Γ.A (PySem.callWith pos f [] (backTo pos (afb es Γ.env)) []) (Out Γ ρ [] [] r) Γ.E s) hk
 have kd:∃ps H,oj Γ.W.P Γ.cl x ps H=some r:=cn e fun q zz e=>⟨q.1,q.2,e⟩
 obtain⟨ps,H,k⟩:=kd
 have run:∀{f:Value},Callee Γ.W f→(∀ps vs (τ:bf Γ ρ),τ.Vs ps vs→oj Γ.W.P Γ.cl x ps τ.H=some r→wpAny Γ.mod Γ.A (PySem.call f vs) (Out Γ ρ [] [] r) Γ.E τ.s)→wpAny Γ.mod Γ.A (PySem.callWith pos f [] (backTo pos (afb es Γ.env)) []) (Out Γ ρ [] [] r) Γ.E σ.s:=fun hf h=>C.callWith σ (l:=[]) (m:=[]) hf e trivial fun ps vs τ W zz e=>h ps vs τ W e
 obtain⟨h,zz⟩ | ⟨h,zz⟩ | ⟨b,h,zz⟩:=kb k
 ·obtain⟨a,h1,h2⟩:=C.ok.kfn x h
  obtain⟨zz,zz,h3⟩:=C.ok.fns x a h1
  refine n1 _ h2 (run (.inl h3.keep) fun ps vs τ W e=>?_)
  obtain⟨zz,e⟩ | ⟨h',zz⟩ | ⟨b,h',zz⟩:=kb e
  ·exact lM (C.call τ C.rm.call e h1 W (l:=[]) (m:=[]) trivial fun v τ e x=>⟨v,rfl,.mk v τ e x⟩)
  ·cases h.symm.trans h'
  ·cases h.symm.trans h'
 ·obtain⟨K,h1,h2,h3⟩:=C.ok.aex x h
  refine n1 _ h2 (run (.inl h3) fun ps vs τ W e=>?_)
  obtain⟨h',zz⟩ | ⟨zz,e⟩ | ⟨b,h',zz⟩:=kb e
  ·cases h.symm.trans h'
  ·exact C.make τ h1 e W trivial
  ·cases h.symm.trans h'
 ·obtain⟨h1,h2,h3⟩:=C.ok.aew x b h
  refine n2 _ h1 h2 h3 (run (by cases b <;> first | exact .inr (.inl ⟨_,rfl⟩) | exact .inr (.inr ⟨_,rfl⟩)) fun ps vs τ W e=>?_)
  obtain⟨h',zz⟩ | ⟨h',zz⟩ | ⟨b',h',e⟩:=kb e
  ·cases h.symm.trans h'
  ·cases h.symm.trans h'
  ·cases h.symm.trans h'
   exact τ.blt C.rm.1 e W trivial
end
end
end Mine.Sim
namespace Mine.Sim
open PySem PySem.W PyProof.Rows PySem.Calls PySem.SeqAt
noncomputable section
noncomputable def BR(env:Env):Expr→Bool→Sem (ForInStep Bool):=fun c r=>if r=true then do let ok ← isTrue c env (eval c env);pure (ForInStep.yield ok)else pure (ForInStep.yield r)
noncomputable abbrev Fr.en(Γ:Fr)(R:Result→Shared→Prop):Fr:={ Γ with E:=notedBy Γ.mod Γ.A Γ.env fun e s'=>R (.error e) s' }
section
variable{Γ:Fr}{ρ hZ:bg}{l ps:List PV}{m vs:List Value}{r:PV×CH}{rb:Bool×CH}{E:Value→Shared→Prop}{A:Around}{s:Shared}{a b p:PV}{u v f:Value}{x:Str}{pos np:Pos}{R:Result→Shared→Prop}
theorem Hz:∀(ifs:List Expr),forIn ifs false (BR Γ.env)=(pure false:Sem Bool)
 | []=>rfl
 | c::r=>by rw[afC];exact Hz r
theorem Ok.ifs(C:Ok Γ):∀{es:List Expr} (σ:bf Γ ρ),Mine.iE Γ.L .And Γ.sc ρ es σ.H=some rb→wpAny Γ.mod Γ.A (forIn es true (BR Γ.env)) (sN Γ ρ [] [] rb) Γ.E σ.s
 | [],σ,e=>aa1 (.ret σ e trivial)
 | x::es,σ,e=>by
  rw[afC]
  refine aat (aat (C.PS σ (l:=[]) (m:=[]) trivial e fun t τ V e=>aa1 ?_))
  induction t with
  | true=>exact C.ifs τ e
  | false =>
   show wpAny _ _ (forIn es false (BR Γ.env)) _ _ _
   rw[Hz]
   exact aa1 (.ret τ e trivial)
noncomputable def Rp(Γ:Fr)(elt:Expr)(gens:List acI)(scope:Scope)(pos:Pos)(d:Nat)(acc:Value)(Qk:Shared→Prop)(s:Shared):Prop:=match gens[d+1]? with
 | some g'=>g'.is_async=0∧(∀v,foldedSetIterable g'.iter Γ.env v=pure v)∧wpAny Γ.mod Γ.A (eval g'.iter Γ.env) (fun x s=>wpAny Γ.mod Γ.A (pyIter x) (fun it' s =>
   wpAny Γ.mod Γ.A (runOwn (.compStart (.ListComp elt gens scope pos) (d+1) it' acc Γ.env) Γ.env) (fun zz s=>Qk s) Γ.E s) Γ.E s) Γ.E s
 | none=>wpAny Γ.mod Γ.A (eval elt Γ.env) (fun x s=>wpAny Γ.mod Γ.A (call (.builtin "list.append") [acc,x]) (fun zz s=>Qk s) Γ.E s) Γ.E s
theorem qK{elt:Expr}{gens:List acI}{scope:Scope}{pos:Pos}{d:Nat}{it acc:Value}{x:Str}{px:Pos}{iter:Expr}{ifs:List Expr}(hg:gens[d]?=some ⟨.Name x px,iter,ifs,0⟩)
  (h:wpAny Γ.mod Γ.A (pyNext it) (fun r dm=>match r with
   | none=>R (.ok .next) dm
   | some v=>wpAny Γ.mod Γ.A (storeName Γ.env x v) (fun zz AU=>wpAny Γ.mod Γ.A (forIn ifs true (BR Γ.env)) (fun ok AV=>match ok with
     | false=>aeh Γ.mod Γ.A (.compLoop (.ListComp elt gens scope pos) d it acc Γ.env) R AV
     | true=>Rp (Γ.en R) elt gens scope pos d acc (fun s=>aeh Γ.mod Γ.A (.compLoop (.ListComp elt gens scope pos) d it acc Γ.env) R s) AV)
     (Γ.en R).E AU) (Γ.en R).E dm) (Γ.en R).E s) :
  aeh Γ.mod Γ.A (.compLoop (.ListComp elt gens scope pos) d it acc Γ.env) R s:=by
 refine af7 ?_
 show wpAny _ Γ.A ((compTurn (.ListComp elt gens scope pos) d it acc Γ.env).onRaise (fun x=>do noteFrame x Γ.env;agP x)) _ _ s
 refine wpAny_noted ?_
 unfold compTurn
 dsimp only
 rw[hg]
 dsimp only
 refine aat (acU (aat ?_))
 refine abr h (fun r dm oy=>?_) fun zz zz e=>e
 induction r with
 | none=>exact aa1 oy
 | some v =>
  refine aat (aa1 (aat (aeP (abr oy (fun zz AU rG=>?_) fun zz zz e=>e))))
  refine aat (abr rG (fun ok AV lS=>?_) fun zz zz e=>e)
  induction ok with
  | false =>
   rewrite[if_neg (by decide)]
   exact aa1 ⟨rfl,lS⟩
  | true =>
   rw[if_pos rfl]
   change Rp (Γ.en R) elt gens scope pos d acc _ AV at lS
   unfold Rp at lS
   generalize q:gens[d+1]?=zq;induction zq with
   | some g' =>
    rw[q]at lS
    obtain⟨hz,hs,lS⟩:=lS
    dsimp only
    have hz':¬((g'.is_async != 0)=true):=by rw[hz];decide
    refine aat (abr lS (fun y aeG Xu=>aat (acU ?_)) fun zz zz e=>e)
    rw[if_neg hz']
    refine aat (agN (hs y) ?_)
    rw[if_neg hz']
    refine aat (abK (abr Xu (fun it' aeH ZS=>?_) fun zz zz e=>e))
    exact aat (abr ZS (fun zz ahw Ue=>aa1 ⟨rfl,Ue⟩) fun zz zz e=>e)
   | none =>
    rw[q]at lS
    dsimp only
    refine aat (aat (abr lS (fun y aeG Xu=>?_) fun zz zz e=>e))
    exact aat (abr Xu (fun zz aeH ZS=>aa1 (aa1 ⟨rfl,ZS⟩)) fun zz zz e=>e)
theorem on{elt:Expr}{gens:List acI}{scope:Scope}{pos:Pos}{d:Nat}{it acc:Value}{g:acI}(hg:gens[d]?=some g)(hz:g.is_async=0)
  (h0:aeh Γ.mod Γ.A (.compLoop (.ListComp elt gens scope pos) d it acc Γ.env) R s)
  (h:wpAny Γ.mod Γ.A (pyIter it) (fun it' s'=>aeh Γ.mod Γ.A (.compLoop (.ListComp elt gens scope pos) d it' acc Γ.env) R s') (Γ.en R).E s) :
  aeh Γ.mod Γ.A (.compStart (.ListComp elt gens scope pos) d it acc Γ.env) R s:=by
 refine af7 ?_
 show wpAny _ Γ.A ((compStart (.ListComp elt gens scope pos) d it acc Γ.env).onRaise (fun x=>do noteFrame x Γ.env;agQ theWindowsPlace)) _ _ s
 refine wpAny_notedAt ?_
 unfold compStart
 rewrite[show clausesOf (.ListComp elt gens scope pos)=gens from rfl];rw[hg];rewrite[show(some g).elim false (fun g=>g.is_async != 0)=false from by show(g.is_async != 0)=false;rw[hz];decide,if_neg (by decide)]
 refine aat (wpAny_askSetting ?_)
 split
 ·exact aat (aa1 (aa1 (And.intro rfl h0)))
 ·refine aat (agu ?_)
  dsimp only
  exact aat (acU (aat (abr h (fun it' s' h'=>aa1 (And.intro rfl h')) fun zz zz x=>x)))
theorem bw{α:Type}{a:α}{P:Prop}(h:none=some a):P:=du h
theorem KD{e:Expr}{α:Type}{k:Str→List Expr→List Keyword→Option α}{a:α}{P:Expr→Prop} (h:(match e with
   | .Call f as ks _=>(match f with
    | .Name x _=>k x as ks
    | _=>none)
   | _=>none:Option α)=some a) (c:∀x np as ks pos,k x as ks=some a→P (.Call (.Name x np) as ks pos)):P e:=by
 induction e using Expr.casesOn with
 | Call f as ks pos=>induction f using Expr.casesOn with
  | Name x np=>exact c x np as ks pos h
  | _=>exact bw h
 | _=>exact bw h
theorem SG{sc:Scope}{x:Str}{as:List Expr}{ks:List Keyword}{a:Expr}(h:Kj sc x as ks=some a):ks=[]∧as=[a]∧x=Str.ofString "range"∧vO x sc=true:=by
 induction ks with
 | cons _ _=>exact du h
 | nil=>induction as with
  | nil=>exact du h
  | cons a' as=>induction as with
   | cons _ _=>exact du h
   | nil =>
    unfold Kj at h
    dsimp only at h
    generalize q:(qM x (Str.ofString "range")&&vO x sc)=zq;induction zq with
    | false=>rw[q]at h;exact du h
    | true =>
     rw[q]at h
     have q:=abL.mp q
     exact⟨rfl,congrArg (·::[]) (aa0 h),(gg _ _).mp q.1,q.2⟩
theorem Ok.Oe(C:Ok Γ)(σ:bf Γ ρ){e:Expr}{q:It×CH}(h:Mine.Oe Γ.L e Γ.sc ρ σ.H=some q)(V:σ.Vs l m):wpAny Γ.mod Γ.A (eval e Γ.env) (fun x s=>wpAny Γ.mod Γ.A (pyIter x) (Ia Γ ρ l m q) Γ.E s) Γ.E σ.s:=by
 obtain⟨zz,h⟩:=bq h
 generalize ra:Nj e Γ.sc=zq;induction zq with
 | none =>
  rw[ra]at h
  exact C.hY σ V h fun p v τ V h=>τ.iter h V.1 V.2
 | some a =>
  rw[ra]at h
  refine KD (k:=Kj Γ.sc) (P:=fun e=>wpAny Γ.mod Γ.A (eval e Γ.env) (fun x s=>wpAny Γ.mod Γ.A (pyIter x) (Ia Γ ρ l m q) Γ.E s) Γ.E σ.s) ra fun x np as ks pos ra=>?_
  obtain⟨rfl,rfl,rfl,hg⟩:=SG ra
  obtain⟨ha,h⟩:=bq h
  refine wpAny_Call_NameR ((C.global (np:=np) σ (HB hg)).2 _ C.ok.Uu.1 C.ok.Uu.2 (by decide) ?_)
  have es:aa (Mine.Fl Γ.L Γ.sc ρ [a]) (fun vs=>iQ vs gj) σ.H=some q:=by
   refine cn h fun p h1 h2=>?_
   show aa (fM (jD a) (aa (Γ.L.ev a Γ.sc ρ) fun v=>aa (ret []) fun vs=>ret (v::vs))) _ _=_
   rw[ha]
   unfold aa fM
   dsimp only
   rw[h1]
   exact h2
  refine C.callWith σ (.inr (.inr ⟨_,rfl⟩)) es V fun ps vs τ W V e=>?_
  exact Cr (P:=fun vs=>wpAny Γ.mod Γ.A (PySem.call (.type "range") ([]++vs)) (fun x s=>wpAny Γ.mod Γ.A (pyIter x) (Ia Γ ρ l m q) Γ.E s) Γ.E τ.s) e W fun p v x e=>τ.range e x V fun r s h=>h
end
end
end Mine.Sim
namespace Mine.Sim
open PySem PySem.W PyProof.Rows PySem.Calls PySem.SeqAt
noncomputable section
section
variable{Γ:Fr}{ρ hZ:bg}{l acc:List PV}{m vs:List Value}{r:PV×CH}{E:Value→Shared→Prop}{A:Around}{s:Shared}{a it:Addr}{p:PV}{u v f:Value}{x:Str}{pos np px:Pos}{R:Result→Shared→Prop}{elt iter:Expr}{gens gs:List acI}{scope:Scope}{ifs:List Expr}{d:Nat}{t:It}
structure Acc(σ:bf Γ ρ)(a:Addr)(l:List PV):Prop where
 no:¬gm σ.as a
 acc:∃ws c,σ.s.heap.get? a=some (ky ws c)∧σ.Vs l ws.toList
structure WJ(Γ:Fr)(a:Addr):Prop where
 top:Γ.W.hT.get? a=none
 nf:¬Fe Γ.env a
 fa:Γ.F a
 fl:Γ.F Γ.env.locals
 only:∀b,Γ.F b→b=a∨b=Γ.env.locals
theorem Acc.step{σ:bf Γ ρ}(C:Acc σ a l){Γ':Fr}{G:Addr→Prop}{τ:bf Γ' hZ}(P:fc G σ.s.heap σ.as τ.s.heap τ.as)(hG:¬G a):Acc τ a l :=
 (by obtain⟨ws,c,g,r⟩:=C.acc;exact(  ⟨fun h=>(P.fresh a h).elim C.no (db g),ws,c,P.keep _ _ g C.no hG,VR.pK P.toGoes r⟩))
theorem Acc.mvd{σ τ:bf Γ ρ}(C:Acc σ a l)(M:Mvd it σ τ)(ha:it≠a):Acc τ a l :=
 (by obtain⟨ws,c,g,r⟩:=C.acc;exact(  ⟨by rw[M.as];exact C.no,ws,c,M.keep _ _ ha.symm g,by show ay (VR τ.s.heap τ.as) l _;rw[M.as];exact VR.pK M.go r⟩))
theorem Ok.at(C:Ok Γ)(h:Heap)(as:List Slot):Ok (Γ.at h as):=⟨⟨C.fx,C.rm⟩,C.ok,C.lv,C.co⟩
theorem Ok.aer(C:Ok Γ){β:Type}{q:β×CH}{g:Bool→CM β}{es:List Expr}(σ:bf Γ ρ)(e:aa (Mine.iE Γ.L .And Γ.sc ρ es) g σ.H=some q){Q:Bool→Shared→Prop}(k:∀b (τ:bf Γ ρ),fc gF σ.s.heap σ.as τ.s.heap τ.as→g b τ.H=some q→Q b τ.s):wpAny Γ.mod Γ.A (forIn es true (BR Γ.env)) Q Γ.E σ.s :=
 cn e fun q h1 h2=>abr ((C.at σ.s.heap σ.as).ifs σ.at h1) (fun zz zz o=>by induction o with | mk τ e _=>exact k _ (σ.of τ) τ.fO (e▸h2)) fun zz zz e=>e
theorem Ok.evP(C:Ok Γ){β:Type}{q:β×CH}{g:PV→CM β}{x:Expr}(σ:bf Γ ρ)(e:aa (Γ.L.ev x Γ.sc ρ) g σ.H=some q){Q:Value→Shared→Prop}(k:∀p v (τ:bf Γ ρ),τ.V p v→fc gF σ.s.heap σ.as τ.s.heap τ.as→g p τ.H=some q→Q v τ.s):wpAny Γ.mod Γ.A (eval x Γ.env) Q Γ.E σ.s :=
 cn e fun q h1 h2=>abr (C.lv.ev (Γ:=Γ.at σ.s.heap σ.as) ⟨C.fx,C.rm⟩ rfl rfl σ.at h1) (fun zz zz=>Out.el fun v τ e x=>k _ v (σ.of τ) x.1 τ.fO (e▸h2)) fun zz zz e=>e
theorem Ok.itP(C:Ok Γ){β:Type}{q:β×CH}{g:It→CM β}{x:Expr}(σ:bf Γ ρ)(e:aa (Mine.Oe Γ.L x Γ.sc ρ) g σ.H=some q){Q:Value→Shared→Prop}(k:∀t it (τ:bf Γ ρ),Bl τ it 0 t→σ.s.heap.get? it=none→fc gF σ.s.heap σ.as τ.s.heap τ.as→g t τ.H=some q→Q (.ref it) τ.s) :
  wpAny Γ.mod Γ.A (eval x Γ.env) (fun v s=>wpAny Γ.mod Γ.A (pyIter v) Q Γ.E s) Γ.E σ.s :=
 cn e fun q h1 h2=>abr ((C.at σ.s.heap σ.as).Oe σ.at h1 (l:=[]) (m:=[]) trivial) (fun zz zz h=>abr h (fun zz zz o=>by induction o with | mk it τ e I _=>exact k _ it (σ.of τ) ⟨I.rel,I.no,I.top,σ.fO.no I.free.1,I.free.2⟩ I.free.1 τ.fO (e▸h2)) fun zz zz e=>e) fun zz zz e=>e
noncomputable abbrev Fr.re(Γ:Fr)(h:Heap)(as:List Slot):Fr:={ Γ with h0:=h,as0:=as }
noncomputable def bf.re(σ:bf Γ ρ):bf (Γ.re σ.s.heap σ.as) ρ:=⟨σ.s,σ.as,σ.H,σ.inv,σ.st,σ.fm,fc.refl⟩
noncomputable def bf.back(σ:bf Γ ρ)(τ:bf (Γ.re σ.s.heap σ.as) hZ):bf Γ hZ:=⟨τ.s,τ.as,τ.H,τ.inv,τ.st,τ.fm,σ.fO.trans τ.fO⟩
noncomputable def bf.en(σ:bf Γ ρ)(R:Result→Shared→Prop):bf (Γ.en R) ρ:=⟨σ.s,σ.as,σ.H,σ.inv,σ.st,σ.fm,σ.fO⟩
noncomputable def bf.un(σ:bf (Γ.en R) ρ):bf Γ ρ:=⟨σ.s,σ.as,σ.H,σ.inv,σ.st,σ.fm,σ.fO⟩
noncomputable def bf.weak(τ:bf Γ (gc Γ.sc ρ x p))(h:II ρ (idx x Γ.sc.names)=true):bf Γ ρ :=
 have w:∀(i:Nat) (q:PV),ρ[i]?=some (some q)→(gc Γ.sc ρ x p)[i]?=some (some q):=fun i q hi=>by
  unfold gc
  rewrite[aeN (fun e=>by unfold II at h;rw[e,hi]at h;exact fS h)]
  exact hi
 { τ with fm:=⟨by rewrite[← τ.fm.len];exact(adj ..).symm,(by obtain⟨m,hn,hm⟩:=τ.fm.loc;exact⟨m,hn,fun y q h1 h2=>hm y q h1 (w _ _ h2)⟩),fun y c e=>(by obtain⟨v,hv,YM⟩:=τ.fm.Tz y c e;exact⟨v,hv,fun q k h1 h2 h3=>YM q k h1 h2 (w _ _ h3)⟩),τ.fm.no⟩ }
theorem Ou{sc:Scope}(h:YP x sc=true):look x sc.names=some .local:=by
 unfold YP at h
 generalize q:look x sc.names=zq;induction zq with
 | none=>rw[q]at h;exact fS h
 | some k=>rw[q]at h;cases k <;> first | rfl | exact fS h
theorem Acc.push{σ:bf Γ ρ}(C:Acc σ a acc)(X:WJ Γ a)(hv:σ.V p v)(hz:acc.length<ax){Q:Value→Shared→Prop}(hQ:∀τ:bf Γ ρ,τ.H=σ.H→Acc τ a (acc++[p])→Q .none τ.s):wpAny Γ.mod A (call (.builtin "list.append") [.ref a,v]) Q E σ.s:=by
 obtain⟨ws,c,g,r⟩:=C.acc
 have hT:σ.s.TypeIs (.ref a) "list":=⟨_,g,rfl⟩
 have hl:ws.size=acc.length:=r.len
 refine call_meets PySem.F.slot_list_append hT PySem.F.entry_list_append (PySem.F.args_list_append_2 _ _) (list_append a ws c v (by rw[afe];unfold ax at hz;lia)) ⟨g,?_⟩
 have g':=IsL.update (n:=c) g (·.push v)
 have hs:=adh σ.s.heap a (Obj.mapSeq (fun xs:Array Value=>xs.push v))
 have K:Kept Γ.W (fun b=>b=a) σ.s.heap σ.as (σ.s.heap.update a (Obj.mapSeq (fun xs:Array Value=>xs.push v))):=⟨fun b o e n=>(hs.2 b n).trans e,fun b e=>e▸⟨C.no,X.top⟩,(by rintro b vs ⟨o,ho,hc,r⟩;exact⟨o,(hs.2 b (fun e=>by rw[e,g]at ho;exact Ca (aa0 ho▸hc))).trans ho,hc,r⟩)⟩
 refine hQ ⟨{ σ.s with heap:=σ.s.heap.update a (Obj.mapSeq (fun xs:Array Value=>xs.push v)) },σ.as,σ.H,K.inv σ.inv,σ.st,σ.fm.kept K.go (fun zz x=>.inl x) fun b o f e=>K.keep b o e fun e=>X.nf (e▸f),σ.fO.trans (Bu X.fa hs K.go (by rw[g'];rfl))⟩ rfl ⟨C.no,_,_,g',?_⟩
 rw[afj]
 exact(VR.pK K.go r).append ⟨hv.go K.go,trivial⟩
noncomputable def tJ(L:Rr)(elt:Expr)(sc:Scope)(x:Str)(ifs:List Expr)(gs:List acI)(ρ:bg)(v:PV):CM (List PV) :=
 aa (iE L .And sc (gc sc ρ x v) ifs) fun ok=>af ok (Iy L elt sc gs (gc sc ρ x v)) (ret [])
noncomputable def Ti(elt:Expr)(gens:List acI)(scope:Scope)(pos:Pos)(a:Addr)(gs:List acI)(d:Nat):Prop :=
 ∀(Γ:Fr) (_:Ok Γ) (_:WJ Γ a) (ρ:bg) (σ:bf Γ ρ) (q:List PV×CH) (acc:List PV) (Qk:Shared→Prop),Iy Γ.L elt Γ.sc gs ρ σ.H=some q→Acc σ a acc→acc.length+q.1.length<ax →
  (∀τ:bf Γ ρ,τ.H=q.2→Acc τ a (acc++q.1)→Qk τ.s)→Rp Γ elt gens scope pos d (.ref a) Qk σ.s
theorem Ok.re(C:Ok Γ)(R:Result→Shared→Prop)(h:Heap)(as:List Slot):Ok ((Γ.en R).re h as):=⟨⟨C.fx,C.rm⟩,C.ok,C.lv,C.co⟩
theorem QF(C:Ok Γ)(X:WJ Γ a)(hg:gens[d]?=some ⟨.Name x px,iter,ifs,0⟩)(EO:Ti elt gens scope pos a gs d){ρ:bg}(hx:YP x Γ.sc=true)(hρ:II ρ (idx x Γ.sc.names)=true) :
  ∀(n i:Nat) {q:List PV×CH} {acc:List PV} (σ:bf Γ ρ) {R:Result→Shared→Prop},av t (tJ Γ.L elt Γ.sc x ifs gs ρ) n i σ.H=some q→Acc σ a acc→Bl σ it i t→it≠a→acc.length+q.1.length<ax →
   (∀τ:bf Γ ρ,τ.H=q.2→Acc τ a (acc++q.1)→R (.ok .next) τ.s)→aeh Γ.mod Γ.A (.compLoop (.ListComp elt gens scope pos) d (.ref it) (.ref a) Γ.env) R σ.s:=fun n=>by
 induction n with
 | zero =>
  intro i q acc σ R e B I ha hz hR
  exact cn e fun z e1 e2=>by
   cases di e2
   exact qK hg (I.last C.rm.1 e1 (l:=[]) (m:=[]) trivial fun τ zz M h=>hR τ (M.H.trans h.symm) (by rw[abF];exact B.mvd M ha))
 | succ n ih =>
  intro i q acc σ R e B I ha hz hR
  exact cn e fun z h1 h2=>cn h2 fun w e3 e4=>cn e4 fun y e5 e6=>by
   cases di e6
   rw[aaA]at hz
   refine qK hg (I.next h1 (l:=[]) (m:=[]) trivial fun v τ V M hz2 I'=>?_)
   have adp:=B.mvd M ha
   have nF:¬Γ.F it:=fun h=>(X.only it h).elim ha fun h=>I'.free.2 (.inl h)
   have WK:=C.re R τ.s.heap τ.as
   have done:∀{hZ:bg} (nW:bf ((Γ.en R).re τ.s.heap τ.as) hZ),hZ=gc Γ.sc ρ x z.1→nW.H=w.2→Acc nW a (acc++w.1)→aeh Γ.mod Γ.A (.compLoop (.ListComp elt gens scope pos) d (.ref it) (.ref a) Γ.env) R nW.s:=fun{hZ} nW aeq eH B'=>by
    subst aeq
    let dr:bf Γ ρ:=((τ.en R).back (nW.weak hρ)).un
    exact ih (i+1) dr (show av t _ n (i+1) nW.H=some y from eH▸e5) ⟨B'.no,B'.acc⟩ (I'.step (τ:=dr) nW.fO nF) ha (by rw[aaA];lia) (by rw[aaW];exact hR)
   refine(τ.en R).re.store WK.fx (Ou hx) (.inl rfl) (fun b zz h=>h rfl▸X.fl) V.1 (l:=[]) (m:=[]) trivial fun H8 eH zz P=>?_
   have e3:tJ Γ.L elt Γ.sc x ifs gs ρ z.1 H8.H=some w:=by rw[eH];exact(show tJ Γ.L elt Γ.sc x ifs gs ρ z.1 τ.H=some w by rw[M.H];rewrite[← hz2];exact e3)
   have adq:Acc H8 a acc:=adp.step P X.nf
   refine WK.aer H8 e3 fun b H9 adv e=>?_
   have abb:=adq.step adv (fun f=>f)
   induction b with
   | false=>cases di e;exact done H9 rfl rfl (by rw[abF];exact abb)
   | true=>exact EO _ WK ⟨X.top,X.nf,X.fa,X.fl,X.only⟩ _ H9 _ _ _ e abb (by lia) fun nW eH B'=>done nW rfl eH B'
theorem B4{H:CH}{q:Nat×CH}(h:bj t H=some q):q.2=H:=by
 induction t with
 | snap l=>cases di h;rfl
 | live r =>
  have h:aa (get r) (fun o=>match o with | .list l=>(ret l.length:CM Nat) | _=>bc) H=some q:=h
  exact cn h fun z h1 h2=>by
   unfold get at h1
   generalize h3:H[r]?=zq;induction zq with
   | none=>rw[h3]at h1;exact du h1
   | some o =>
    rw[h3]at h1
    replace h1:=zI h1;subst h1
    induction o with
    | list l=>cases di h2;rfl
    | _=>exact du h2
theorem Lg{g:acI}(h:Qp g=some x):∃px,g=⟨.Name x px,g.iter,g.ifs,0⟩:=by
 obtain⟨t,iter,ifs,ia⟩:=g
 induction t using Expr.casesOn with
 | Name y py =>
  unfold Qp at h
  dsimp only at h
  generalize q:(decide (ia=0))=zq;induction zq with
  | true=>rw[q]at h;replace h:=zI h;subst h;obtain rfl:=of_decide_eq_true q;exact⟨py,rfl⟩
  | false=>rw[q]at h;exact du h
 | _=>exact bw h
theorem Qh:∀(gs:List acI) (d:Nat),gens.drop (d+1)=gs→Ti elt gens scope pos a gs d
 | [],d,hd=>fun Γ C X ρ σ q acc Qk e B hz hQ=>by
  unfold Rp
  rewrite[show gens[d+1]?=none from by rewrite[← List.head?_drop];rw[hd];rfl]
  refine C.evP σ e fun p v τ V P e=>?_
  cases di e
  exact(B.step P fun f=>f).push X V (Nat.lt_of_succ_lt hz) fun nW eH B'=>hQ nW eH B'
 | g::gs,d,hd=>fun Γ C X ρ σ q acc Qk e B hz hQ=>by
  have hg:gens[d+1]?=some g:=by rewrite[← List.head?_drop];rw[hd];rfl
  unfold Rp
  rw[hg]
  obtain⟨x,hn,e⟩:=eu e
  obtain⟨ht,e⟩:=bq e
  obtain⟨px,hn⟩:=Lg hn
  rw[hn]at hg
  have ht:=abL.mp ht
  refine⟨by rw[hn];rfl,(iS (cn e fun zz e zz=>(bq e).1)).set Γ.env,C.itP σ e fun t it τ I new P e=>?_⟩
  refine cn e fun n h1 h2=>?_
  have hH:=B4 h1
  rw[hH]at h2
  refine wpAny_runOwn (h:=none) ?_
  rw[agi]
  have hai:it≠a:=fun h=>(by obtain⟨ws,c,g,zz⟩:=B.acc;exact db g (h▸new))
  have start:∀{R:Result→Shared→Prop},(∀s,Qk s→R (.ok .next) s)→aeh Γ.mod Γ.A (.compStart (.ListComp elt gens scope pos) (d+1) (.ref it) (.ref a) Γ.env) R τ.s:=fun{R} k =>
   have loop:=QF C X hg (Qh gs (d+1) (by rewrite[← List.drop_drop];rw[hd];rfl)) ht.1 ht.2 n.1 0 τ (R:=R) h2 (B.step P fun f=>f) I hai hz fun τ e b=>k _ (hQ τ e b)
   on hg rfl loop (I.self loop)
  exact start fun zz h=>h
end
end
end Mine.Sim
namespace Mine.Sim
open PySem PySem.W PyProof.Rows PySem.Calls PySem.SeqAt
noncomputable section
noncomputable def yG(cells:List (Str×Addr)):List (Str×ac0)→List (Str×Addr)→List (Str×Addr)
 | [],acc=>acc
 | p::r,acc=>if p.2 == .free then yG cells r ((p.1,(cells.lookup p.1).getD 0)::acc)else yG cells r acc
theorem yH{scope:Scope}{env:Env}(h:∀p∈scope.names,p.2=.free→∃c,env.cells.lookup p.1=some c):closureFor scope env=pure (yG env.cells scope.names []):=by
 have key:∀(names:List (Str×ac0)) (acc:List (Str×Addr)),(∀p∈names,p.2=.free→∃c,env.cells.lookup p.1=some c) →
   (forIn names acc fun(x:Str×ac0) (cs:List (Str×Addr))=>(if x.2 == .free then do let a ← cellOf env x.1;pure (ForInStep.yield ((x.1,a)::cs))else pure (ForInStep.yield cs):Sem (ForInStep (List (Str×Addr)))))=pure (yG env.cells names acc):=by
  intro names
  induction names with
  | nil=>intro acc zz;rfl
  | cons p r ih =>
   intro acc hp
   rw[afC]
   dsimp only[yG]
   by_cases hf:(p.2 == ac0.free)=true
   ·rw[if_pos hf];rw[if_pos hf]
    obtain⟨c,hc⟩:=hp p (.head _) (by simpa using hf)
    unfold cellOf
    rw[hc]
    exact ih _ fun q hq=>hp q (.tail _ hq)
   ·rw[if_neg hf];rw[if_neg hf]
    exact ih _ fun q hq=>hp q (.tail _ hq)
 unfold closureFor
 show(forIn scope.names [] fun(x:Str×ac0) (cs:List (Str×Addr))=>(if x.2 == .free then do let a ← cellOf env x.1;pure (ForInStep.yield ((x.1,a)::cs))else pure (ForInStep.yield cs):Sem (ForInStep (List (Str×Addr))))) >>= (fun r=>pure r)=_
 rw[key scope.names [] h]
 rfl
theorem Bw(cells:List (Str×Addr)):∀(names:List (Str×ac0)) (acc:List (Str×Addr)),(∀p∈names,p.2=.free→∃c,cells.lookup p.1=some c)→(∀q∈acc,cells.lookup q.1=some q.2) →
  (∀q∈yG cells names acc,cells.lookup q.1=some q.2)∧(∀q∈acc,q∈yG cells names acc)∧(∀p∈names,p.2=.free→∃c,(p.1,c)∈yG cells names acc)
 | [],acc,_,ha=>⟨ha,fun zz h=>h,fun zz h=>(zM h)⟩
 | p::r,acc,hp,ha=>by
  dsimp only[yG]
  split
  ·rename_i hf
   obtain⟨c,hc⟩:=hp p (.head _) (by simpa using hf)
   obtain⟨i1,i2,i3⟩:=Bw cells r ((p.1,(cells.lookup p.1).getD 0)::acc) (fun q hq=>hp q (.tail _ hq)) fun q hq=>(aa2.mp hq).elim (fun e=>by rw[e];rw[hc];rfl) (ha q)
   exact⟨i1,fun q hq=>i2 q (.tail _ hq),fun q hq hk=>(aa2.mp hq).elim (fun e=>by rw[e];exact⟨_,i2 _ (.head _)⟩) fun hq=>i3 q hq hk⟩
  ·rename_i hf
   obtain⟨i1,i2,i3⟩:=Bw cells r acc (fun q hq=>hp q (.tail _ hq)) ha
   exact⟨i1,i2,fun q hq hk=>(aa2.mp hq).elim (fun e=>(hf (by rewrite[← e];rw[hk];rfl)).elim) fun hq=>i3 q hq hk⟩
theorem rK{α:Type}{x:Str}{c:α}:∀{l:List (Str×α)},l.lookup x=some c→(x,c)∈l
 | (y,d)::r,h=>by
  rw[adA]at h
  generalize q:(x == y)=zq;induction zq with
  | true=>rw[q]at h;replace h:=zI h;subst h;rw[eq_of_beq q];exact .head _
  | false=>rw[q]at h;exact .tail _ (rK h)
theorem yj{α:Type}{x:Str}{c:α}:∀{l:List (Str×α)},(x,c)∈l→∃c,l.lookup x=some c
 | (y,d)::r,h=>by
  rw[adA]
  generalize q:(x == y)=zq;induction zq with
  | true=>exact⟨d,rfl⟩
  | false=>exact(aa2.mp h).elim (fun e=>by cases e;rw[beq_self_eq_true]at q;exact rr q) yj
theorem gU{α:Type}{x:Str}{k:α}{l:List (Str×α)}(h:look x l=some k):(x,k)∈l:=rK (by rewrite[← oD];exact h)
theorem Ln{x:Str}:∀{l:List Str},x∈l→isIn x l=true
 | y::r,h=>by
  dsimp only[isIn]
  generalize q:qM x y=zq;induction zq with
  | true=>rfl
  | false=>exact(aa2.mp h).elim (fun e=>by rw[e,sY]at q;exact rr q) Ln
theorem oq:∀{l:List Str},BB l=true→l.Nodup
 | [],_=>.nil
 | x::r,h =>
  have h:=abL.mp h
  abU.mpr ⟨(fun hx=>by rw[Ln hx]at h;cases h.1),oq h.2⟩
theorem yi{α:Type}{x:Str}{k:α}:∀{l:List (Str×α)},(l.map (·.1)).Nodup→(x,k)∈l→look x l=some k
 | (y,d)::r,hn,h=>by
  have hn:=abU.mp hn
  dsimp only[look]
  rcases aa2.mp h with e | h2
  ·cases e;rw[sY];rfl
  ·rewrite[ZE fun e:x=y=>hn.1 (abi.mpr ⟨(x,k),h2,e⟩)]
   exact yi hn.2 h2
section
variable{sc:Scope}{ρ:bg}{x:Str}{k:ac0}
theorem tD:∀names:List (Str×ac0),(lu sc ρ names).length=names.length
 | []=>rfl
 | _::r=>congrArg (·+1) (tD r)
theorem BV:∀{names:List (Str×ac0)},look x names=some k→∃o,(lu sc ρ names)[idx x names]?=some o∧∀p,o=some p→k=.free∧ρ[idx x sc.names]?=some (some p)
 | (y,d)::r,h=>by
  dsimp only[look]at h
  dsimp only[lu]
  rw[show idx x ((y,d)::r)=match qM x y with | true=>0 | false=>idx x r+1 from rfl]
  generalize q:qM x y=zq;induction zq with
  | true =>
   rw[q]at h
   replace h:=zI h;subst h
   obtain rfl:=(gg _ _).mp q
   refine⟨_,rfl,fun p h=>?_⟩
   induction d with
   | free =>
    dsimp only at h
    generalize q:ρ[idx x sc.names]?=zq;induction zq with
    | none=>rw[q]at h;exact du h
    | some o=>rw[q]at h;exact⟨rfl,congrArg some h⟩
   | _=>exact du h
  | false =>
   rw[q]at h
   exact BV h
theorem BU:∀{names:List (Str×ac0)},vN sc names=true→∀p∈names,(p.2=.local∨p.2=.globalImplicit∨(p.2=.free∧∃k,look p.1 sc.names=some k∧oz k))∧(p.1 == ("__debug__" : Str))=false:=fun{names}=>by
 induction names with
 | nil=>exact fun zz zz h=>zM h
 | cons q r ih =>
  intro hi p h
  have hi:=abL.mp hi
  have h2:=abL.mp hi.2
  rcases aa2.mp h with rfl | h
  ·refine⟨?_,by rewrite[← A0];exact acQ _▸h2.1⟩
   obtain⟨x,k⟩:=p
   have h1:=hi.1
   dsimp only at h1 ⊢
   induction k with
   | «local»=>exact .inl rfl
   | globalImplicit=>exact .inr (.inl rfl)
   | free =>
    dsimp only at h1
    generalize e:look x sc.names=zq;induction zq with
    | none=>rw[e]at h1;exact fS h1
    | some k=>rw[e]at h1;exact .inr (.inr ⟨rfl,k,rfl,by cases k <;> first | exact .inl rfl | exact .inr rfl | exact fS h1⟩)
   | _=>exact fS h1
  ·exact ih h2.2 p h
end
noncomputable def rlK(env:Env)(x:Str)(k:ac0):ac0:=if(k == ac0.free&&env.scope.kind == .function&&env.kindOf x == some .cell)then ac0.cell else k
theorem HU(env:Env){x:Str}{k:ac0}:∀{names:List (Str×ac0)},look x names=some k→(names.map fun p=>(p.1,rlK env p.1 p.2)).lookup x=some (rlK env x k)
 | (y,d)::r,h=>by
  dsimp only[look]at h
  rw[ab6];rw[adA];rewrite[← A0]
  generalize q:qM x y=zq;induction zq with
  | true =>
   rw[q]at h
   replace h:=zI h;subst h
   obtain rfl:=(gg _ _).mp q
   rfl
  | false =>
   rw[q]at h
   exact HU env h
theorem jS(env:Env){scope:Scope}{Zu:Env}{x:Str}{k:ac0}(hs:Zu.scope=relabel scope env)(h:look x scope.names=some k):Zu.kindOf x=some (rlK env x k):=by
 show Zu.scope.names.lookup x=_
 rw[hs];rewrite[← HU env h]
 unfold relabel
 show List.lookup x (scope.names.map _)=_
 congr 1
 apply ahe
 rintro⟨n,k⟩ _
 unfold rlK
 dsimp only
 split <;> rfl
end
end Mine.Sim
namespace Mine.Sim
open PySem PySem.W PyProof.Rows PySem.Calls PySem.SeqAt
noncomputable section
section
variable{Γ:Fr}{ρ:bg}{r:PV×CH}{E:Value→Shared→Prop}{A:Around}{a it C:Addr}{t:It}{elt:Expr}{gens:List acI}{fK:Scope}{pos:Pos}{h':Heap}
structure Bk(Γ:Fr)(fK:Scope)(C:Addr)(lh:Env):Prop where
 glob:lh.globals=Γ.env.globals
 blt:lh.builtins=Γ.env.builtins
 scope:lh.scope=relabel fK Γ.env
 loc:lh.locals=C
 Tz:lh.cells=yG Γ.env.cells fK.names []
noncomputable def Fr.bh(Γ:Fr)(lh:Env)(fK:Scope)(σ:bf Γ ρ)(a C:Addr):Fr:={ Γ with env:=lh,sc:=fK,h0:=σ.s.heap,as0:=σ.as,F:=fun b=>b=a∨b=C }
structure NO(Γ:Fr)(fK:Scope):Prop where
 kind:fK.kind=.function
 sL:(fK.names.map (·.1)).Nodup
 spec:∀p∈fK.names,(p.2=.local∨p.2=.globalImplicit∨(p.2=.free∧∃k,look p.1 Γ.sc.names=some k∧oz k))∧(p.1 == ("__debug__" : Str))=false
 mem:(∀q∈yG Γ.env.cells fK.names [],Γ.env.cells.lookup q.1=some q.2)∧(∀p∈fK.names,p.2=.free→∃c,(p.1,c)∈yG Γ.env.cells fK.names [])
 free:∀p∈fK.names,p.2=.free→∃c,Γ.env.cells.lookup p.1=some c
theorem aes(B:Fx Γ.W Γ.env Γ.sc)(h:TE Γ.sc fK=true):NO Γ fK:=by
 have h:=abL.mp h
 have h2:=abL.mp h.2
 have spec:=BU h2.2
 have free:∀p∈fK.names,p.2=.free→∃c,Γ.env.cells.lookup p.1=some c:=fun p hp hf=>(spec p hp).1.elim (fun h=>by rw[h]at hf;cases hf) fun h=>h.elim (fun h=>by rw[h]at hf;cases hf) (by rintro⟨_,k,h1,h2⟩;exact(B.kc p.1 k h1 h2).2)
 have m:=Bw Γ.env.cells fK.names [] free fun zz h=>zM h
 refine⟨?_,oq h2.1,spec,⟨m.1,m.2.2⟩,free⟩
 have k:=h.1
 generalize fK.kind=q at k ⊢
 cases q <;> first | rfl | exact fS k
theorem NO.cell(I:NO Γ fK){x:Str}{k:ac0}(hx:look x fK.names=some k)(hk:oz k):k=.free∧∃k',look x Γ.sc.names=some k'∧oz k':=by
 have hm:=gU hx
 rcases(I.spec _ hm).1 with h | h | ⟨h,k',h1,h2⟩
 ·obtain rfl:k=.local:=h;rcases hk with hk | hk <;> cases hk
 ·obtain rfl:k=.globalImplicit:=h;rcases hk with hk | hk <;> cases hk
 ·exact⟨h,k',h1,h2⟩
theorem Bk.in(X:Bk Γ fK C lh)(I:NO Γ fK){x:Str}{c:Addr}(h:lh.cells.lookup x=some c):Γ.env.cells.lookup x=some c:=I.mem.1 _ (rK (X.Tz▸h))
theorem Bk.fx(X:Bk Γ fK C lh)(I:NO Γ fK)(B:Fx Γ.W Γ.env Γ.sc)(nC:∀b,Fe Γ.env b→b≠C)(tC:Γ.W.hT.get? C=none):Fx Γ.W lh fK :=
 ⟨X.glob.trans B.glob,X.blt.trans B.blt,by rw[X.scope];exact I.kind,fun x hx=>by rw[jS Γ.env X.scope hx];rfl,fun x k hx hk=>by
  obtain⟨rfl,k',h1,h2⟩:=I.cell hx hk
  refine⟨by rw[jS Γ.env X.scope hx];unfold rlK;rw[B.kind];rw[(B.kc x k' h1 h2).1];rfl,?_⟩
  obtain⟨c,hc⟩:=I.mem.2 _ (gU hx) rfl
  rw[X.Tz]
  exact yj hc,fun x hx=>by rw[jS Γ.env X.scope hx];rfl,fun x k hx=>(I.spec _ (gU hx)).2,fun b hb=>hb.elim (fun e=>by rw[e];rw[X.loc];exact tC) (by rintro⟨x,hx⟩;exact B.top b (.inr ⟨x,X.in I hx⟩)),
  fun x c hc e=>nC c (.inr ⟨x,X.in I hc⟩) (e.trans X.loc),fun x y c h1 h2=>B.ci x y c (X.in I h1) (X.in I h2)⟩
theorem Bk.fd(X:Bk Γ fK C lh)(I:NO Γ fK){σ:bf Γ ρ}(g:Goes σ.s.heap σ.as h' σ.as)(hk:∀b o,σ.s.heap.get? b=some o→h'.get? b=some o)(hn:∃m,h'.Ns C m)(no:¬gm σ.as C):Fd lh fK h' σ.as (lu Γ.sc ρ fK.names) :=
 ⟨tD _,(by obtain⟨m,hn⟩:=hn;exact( ⟨m,X.loc▸hn,fun x p hx hp=>by
  obtain⟨o,h1,h2⟩:=BV (sc:=Γ.sc) (ρ:=ρ) hx
  rw[hp]at h1
  cases (h2 p (aa0 h1).symm).1⟩)),fun x c hc=>by
  obtain⟨v,⟨o,ho,hd⟩,YM⟩:=σ.fm.Tz x c (X.in I hc)
  refine⟨v,⟨o,hk _ _ ho,hd⟩,fun p k hx hc hp=>?_⟩
  obtain⟨o,h1,h2⟩:=BV (sc:=Γ.sc) (ρ:=ρ) hx
  rw[hp]at h1
  obtain⟨zz,k',h3,h4⟩:=I.cell hx hc
  exact(YM p k' h3 h4 (h2 p (aa0 h1).symm).2).imp fun u hu=>⟨hu.1,hu.2.go g⟩,fun b hb=>hb.elim (fun e=>by rw[e];rw[X.loc];exact no) (by rintro⟨x,hx⟩;exact σ.fm.no b (.inr ⟨x,X.in I hx⟩))⟩
theorem TF(O:Ok Γ){σ:bf Γ ρ}{τ:bf Γ ρ}{lh:Env}{g:acI}{gs:List acI}{x:Str}{px:Pos}{n:Nat}{q:List PV×CH}{R:Result→Shared→Prop}{k:Nat}(hg:g=⟨.Name x px,g.iter,g.ifs,0⟩)(I:NO Γ fK)(X:Bk Γ fK C lh)(P:fc gF σ.s.heap σ.as τ.s.heap τ.as)
  (na:τ.s.heap.get? a=none) (nC:τ.s.heap.get? C=none) (haC:a≠C) (hk:∀b o,τ.s.heap.get? b=some o→h'.get? b=some o) (ga:h'.get? a=some (ky #[] 0)) (hn:∃m,h'.Ns C m) (J:Bl τ it 0 t) (new:σ.s.heap.get? it=none)
  (ht:aaw fK (lu Γ.sc ρ fK.names) x=true) (e:av t (tJ Γ.L elt fK x g.ifs gs (lu Γ.sc ρ fK.names)) n 0 τ.H=some q) (hz:q.1.length<ax) (e2:Mine.new (.list q.1) q.2=some r)
  (hR:∀τ:bf Γ ρ,Bg Γ ρ r C a τ→R (.ok .next) τ.s):aeh Γ.mod Γ.A (.compStart (.ListComp elt (g::gs) fK pos) 0 (.ref it) (.ref a) lh) R { τ.s with heap:=h',toks:=k }:=by
 have out:∀b,Fe Γ.env b→∃o,τ.s.heap.get? b=some o:=fun b hb=>τ.fm.has hb
 have nFe:∀{b},τ.s.heap.get? b=none→¬Fe Γ.env b:=fun h f=>(by obtain⟨zz,ho⟩:=out _ f;exact db ho h)
 have K:=Kept.grow (W:=Γ.W) (as:=τ.as) hk
 have tC:=τ.inv.top nC
 have fx:Fx Γ.W lh fK:=X.fx I O.fx (fun b hb e=>nFe nC (e▸hb)) tC
 let Δ:Fr:=Γ.bh lh fK σ a C
 have OD:Ok Δ:=⟨⟨fx,O.rm⟩,O.ok,O.lv,O.co⟩
 let WD:bf Δ (lu Γ.sc ρ fK.names):=⟨{ τ.s with heap:=h',toks:=k },τ.as,τ.H,K.inv τ.inv,τ.st,X.fd I K.go hk hn (τ.inv.free nC),K.fO ((fc.refl (F:=Δ.F)).PR P) fun zz f=>f.elim⟩
 have nfe:∀b,(∃o,τ.s.heap.get? b=some o)→¬Fe Γ.env b→¬Fe lh b:=(by rintro b ⟨o,ho⟩ h f;exact f.elim (fun e=>db ho (by rw[e];rw[X.loc];exact nC)) (by rintro⟨x,hx⟩;exact h (.inr ⟨x,X.in I hx⟩)))
 have CF:WJ Δ a:=⟨τ.inv.top na,fun f=>f.elim (fun e=>haC (e.trans X.loc)) (by rintro⟨x,hx⟩;exact nFe na (.inr ⟨x,X.in I hx⟩)),.inl rfl,.inr X.loc,fun b h=>h.imp_right fun e=>e.trans X.loc.symm⟩
 obtain⟨o,ho,hs⟩:=J.rel.solid
 have J':Bl WD it 0 t:=⟨J.rel.go K.go ((hk _ _ ho).trans ho.symm),J.no,J.top,new,nfe it ⟨o,ho⟩ J.free.2⟩
 have ht:=abL.mp ht
 have hg0:(g::gs)[0]?=some ⟨.Name x px,g.iter,g.ifs,0⟩:=congrArg some hg
 have loop:aeh Γ.mod Γ.A (.compLoop (.ListComp elt (g::gs) fK pos) 0 (.ref it) (.ref a) lh) R WD.s:=by
  refine QF (Γ:=Δ) OD CF hg0 (Qh gs 0 rfl) ht.1 ht.2 n 0 WD (acc:=[]) e ⟨τ.inv.free na,#[],0,ga,trivial⟩ J' (fun h=>db ho (h▸na)) (by rw[aez];rw[ad4];exact hz) fun kJ eH B=>?_
  obtain⟨ws,c,g5,r5⟩:=B.acc
  have base:fc gF σ.s.heap σ.as kJ.s.heap kJ.as:=⟨kJ.fO.toGoes,fun b o e n zz=>kJ.fO.keep b o e n fun h=>h.elim (fun h=>db e (P.no (h▸na))) fun h=>db e (P.no (h▸nC)),kJ.fO.live,kJ.fO.fresh⟩
  have inv:Inv Γ.W kJ.s.heap (kJ.as++[(a,a)]) (kJ.H++[.list q.1]):=kJ.inv.more (.mk ws c hz rfl g5 (VR.pK ⟨abY ..,fun zz zz x=>x⟩ r5)) fun x hx=>by obtain rfl:x=a:=hx.elim id id;exact⟨B.no,τ.inv.top na⟩
  let acO:bf Γ ρ:=σ.to inv kJ.st (base.more fun x hx=>by obtain rfl:x=a:=hx.elim id id;exact P.no na)
  replace e2:=zI e2;subst e2
  refine hR acO ⟨congrArg (·++_) eH,⟨(a,a),by rewrite[← eH,← kJ.inv.len];exact QC ..,rfl⟩,(by obtain⟨m,hm,zz⟩:=kJ.fm.loc;exact⟨m,X.loc▸hm⟩),⟨(by rintro⟨p,hp,e⟩;exact(aa7.mp hp).elim (fun hp=>kJ.fm.no C (.inl X.loc.symm) ⟨p,hp,e⟩) fun hp=>by rw[aad.mp hp]at e;exact haC (e.elim id id).symm),tC⟩,σ.fO.no (P.no nC),fun f=>nFe nC f⟩
 exact on (Γ:=Δ) hg0 rfl loop (J'.self loop)
theorem Ok.comp(O:Ok Γ)(σ:bf Γ ρ)(e:Mine.Od Γ.L elt gens fK Γ.sc ρ σ.H=some r){use:Option (Value→Sem Unit)}{Q:Value→Shared→Prop}(hD:∀C a (τ:bf Γ ρ),Bg Γ ρ r C a τ→compPost Γ.mod Γ.A Γ.E use Q (.ref a) C (.ok .next) τ.s) :
  wpAny Γ.mod Γ.A (comprehension (.ListComp elt gens fK pos) fK Γ.env (firstIterPos gens pos) (newList []) (firstAsync gens) (firstIter gens Γ.env) use) Q Γ.E σ.s:=by
 induction gens with
 | nil=>exact du e
 | cons g gs =>
  obtain⟨hok,e⟩:=bq e
  obtain⟨x,hn,e⟩:=eu e
  obtain⟨ht,e⟩:=bq e
  obtain⟨px,hg⟩:=Lg hn
  have I:=aes O.fx hok
  have pl:=iS (cn e fun zz e zz=>(bq e).1:jD g.iter=true)
  obtain⟨tg,iter,ifs,ia⟩:=g
  obtain rfl:ia=0:=congrArg acI.is_async hg
  show wpAny _ _ (comprehension (.ListComp elt (⟨tg,iter,ifs,0⟩::gs) fK pos) fK Γ.env iter.pos (newList []) false (eval iter Γ.env) use) _ _ _
  refine wpAny_comprehension_free (g:=⟨tg,iter,ifs,0⟩) (gs:=gs) rfl (pl.set Γ.env) (yH I.free) I.kind (fun p hp hl=>gM (sc:=fK) (yi I.sL (by rewrite[← hl];exact hp))) ?_
  refine O.itP σ e fun t it τ J new P e=>?_
  refine wpAny_newList (hsz:=by exact acV _) ?_
  refine wpAny_newFunctionEnv (hc:=fun p hp YL=>?_) (hl:=fun zz h=>zM h) (hk:=I.kind) ?_
  ·rcases(I.spec p hp).1 with h | h | ⟨h,_⟩ <;> rw[h]at YL <;> cases YL
  intro Xu hns hsb
  have hC:(τ.s.heap.push { cls:=.type "list",data:=.seq ([]:List Value).toArray }).objs.size=τ.s.heap.objs.size+1:=af0 ..
  have lt:∀{b o},τ.s.heap.get? b=some o→b≠(τ.s.heap.push { cls:=.type "list",data:=.seq ([]:List Value).toArray }).objs.size:=fun e h=>absurd (ad0 e) (by rw[h];rw[hC];exact aep.mpr (adb _))
  refine cn e fun n h1 h2=>cn h2 fun q h3 h4=>?_
  rw[B4 h1]at h3
  obtain⟨hz,h4⟩:=bq h4
  exact TF O hg I ⟨rfl,rfl,rfl,rfl,rfl⟩ P gO (abQ.mpr fun o e=>lt e rfl) (by rw[hC];exact afr (agr _)) (fun b o e=>(hsb.2 b (lt e)).trans (aa5 _ (aa5 _ e)))
   ((hsb.2 _ (by rw[hC];exact afr (agr _))).trans (aa5 _ (abP _ rfl))) ⟨_,hns⟩ J new ht h3 (of_decide_eq_true hz) h4 fun τ D=>hD _ _ τ D
end
end
end Mine.Sim
namespace Mine.Sim
open PySem PySem.W PyProof.Rows PySem.Calls PySem.SeqAt
noncomputable section
section
variable{Γ:Fr}{ρ:bg}{l ps:List PV}{m vs:List Value}{r:PV×CH}{rb:Bool×CH}{E:Value→Shared→Prop}{A:Around}{a b p:PV}{u v f:Value}{x:Str}{pos np:Pos}{es:List Expr}{o i e:Expr}
theorem qT{w:Sem Value}{env:Env}(h:tL o=true):attributeBase o x env w=w:=by
 induction o using Expr.casesOn with
 | Call f as ks pos=>induction f using Expr.casesOn with
  | Name id p=>induction as with
   | nil=>induction ks with
    | nil=>exact fS h
    | cons _ _=>rfl
   | cons _ _=>rfl
  | _=>rfl
 | _=>rfl
theorem bf.const(σ:bf Γ ρ){c:Const}{k:Nat}(e:Qj c σ.H=some r):wpAny Γ.mod Γ.A (eval (.Constant c k pos) Γ.env) (Out Γ ρ [] [] r) Γ.E σ.s:=by
 induction c with
 | none=>exact wpAny_Constant_none (.ret σ e rfl trivial)
 | bool b=>exact wpAny_Constant_bool (.ret σ e rfl trivial)
 | int i=>exact wpAny_Constant_int (.ret (σ.tok _) e ⟨_,rfl⟩ trivial)
 | str x=>exact wpAny_Constant_str (.ret (σ.tok _) e ⟨_,rfl⟩ trivial)
 | _=>exact du e
theorem RK{P:Prg}{sc:Scope}{H:CH}(e:Iz P x sc ρ H=some r):(∃k,look x sc.names=some k∧(k=.local∨oz k)∧dc ρ (idx x sc.names) H=some r)∨(look x sc.names=some .globalImplicit∧LU (P.gl x) H=some r):=by
 unfold Iz at e
 generalize q:look x sc.names=zq;induction zq with
 | none=>rw[q]at e;exact du e
 | some k =>
  rw[q]at e
  induction k with
  | «local»=>exact .inl ⟨_,rfl,.inl rfl,e⟩
  | cell=>exact .inl ⟨_,rfl,.inr (.inl rfl),e⟩
  | free=>exact .inl ⟨_,rfl,.inr (.inr rfl),e⟩
  | globalExplicit=>exact du e
  | globalImplicit=>exact .inr ⟨rfl,e⟩
theorem Ok.name(C:Ok Γ)(σ:bf Γ ρ)(e:Iz Γ.W.P x Γ.sc ρ σ.H=some r):wpAny Γ.mod Γ.A (eval (.Name x pos) Γ.env) (Out Γ ρ [] [] r) Γ.E σ.s:=by
 obtain⟨k,h,hk,e⟩ | ⟨h,e⟩:=RK e
 ·obtain⟨e,z⟩:=X9 e
  exact wpAny_Name (σ.load C.fx h hk e fun v hv=>.mk v σ z.symm ⟨hv,trivial⟩) (C.fx.dbg x k h)
 ·obtain⟨e,z⟩:=lV e
  obtain⟨v,h1,h2⟩:=C.ok.glob x _ e
  exact(C.global σ h).1 v h1 (.mk v σ z.symm ⟨h2 _ _ σ.inv.keep ((by obtain⟨zz,hp,zz⟩:=σ.inv.at (i:=0) (aa8 (σ.inv.len▸afg (by decide) σ.inv.two));exact σ.inv.zero)),trivial⟩)
theorem Yk(slice:Expr)(o i:Value):∃ops,subscripted slice false o i=operate ops (PySem.getItem o i):=by
 induction slice using Expr.casesOn with
 | Slice a b c p=>cases c <;> exact⟨_,rfl⟩
 | _=>exact⟨_,rfl⟩
theorem Q8{M:afR}{W:World}{s:Shared}{value slice:Expr}{o i:Value}{Q:Value→Shared→Prop}(h:jq s o∧wpAny (model M W) A (PySem.getItem o i) Q E s):wpAny (model M W) A (subscriptTail value slice o i) Q E s:=by
 obtain⟨⟨T,id,hT,hl⟩,hg⟩:=h
 obtain⟨ops,hs⟩:=Yk slice o i
 exact tail_any hT hl hg hs
theorem RC{α β γ:Type}(x:CM α)(f:α→CM β)(g:β→CM γ)(H:CH):aa (aa x f) g H=aa x (fun v=>aa (f v) g) H:=by
 unfold aa
 cases x H <;> rfl
theorem RL{L:Rr}{sc:Scope}{β:Type}{g:Option PV→CM β}{x:Expr}{H:CH}:aa (Mine.yQ L sc ρ (some x)) g H=aa (L.ev x sc ρ) (fun v=>g (some v)) H:=RC (L.ev x sc ρ) (fun v=>ret (some v)) g H
theorem Ok.yQ(C:Ok Γ){β:Type}{q:β×CH}{g:Option PV→CM β}{oe:Option Expr}{Q:Value→Shared→Prop}(σ:bf Γ ρ)(e:aa (Mine.yQ Γ.L Γ.sc ρ oe) g σ.H=some q)(k:∀o v (τ:bf Γ ρ),Goes σ.s.heap σ.as τ.s.heap τ.as→Rs τ.s.heap τ.as o v→g o τ.H=some q→Q v τ.s):wpAny Γ.mod Γ.A (valueOrNone (evalOpt oe Γ.env)) Q Γ.E σ.s:=by
 induction oe with
 | none=>exact aa1 (k none .none σ Goes.refl rfl e)
 | some x=>exact C.evP σ (RL.symm.trans e) fun p v τ V P e=>k (some p) v τ P.toGoes V e
theorem Ok.slice(C:Ok Γ){β:Type}{q:β×CH}{lo hi st:Option Expr}{g:Option PV→Option PV→Option PV→CM β}{Q:Value→Shared→Prop}(σ:bf Γ ρ)(V:σ.Vs l m)(e:aa (Mine.yQ Γ.L Γ.sc ρ lo) (fun a=>aa (Mine.yQ Γ.L Γ.sc ρ hi) fun b=>aa (Mine.yQ Γ.L Γ.sc ρ st) (g a b)) σ.H=some q)
  (k:∀a b c sl vl vu vk (τ:bf Γ ρ),τ.Vs l m→τ.s.heap.IsSliceOf sl vl vu vk→Rs τ.s.heap τ.as a vl→Rs τ.s.heap τ.as b vu→Rs τ.s.heap τ.as c vk→g a b c τ.H=some q→Q (.ref sl) τ.s):wpAny Γ.mod Γ.A (eval (.Slice lo hi st pos) Γ.env) Q Γ.E σ.s:=by
 rw[arm_eval_Slice]
 refine aat (C.yQ σ e fun a vl τ G1 x1 e=>aat (abK (C.yQ τ e fun b vu τ G2 x2 e=>aat (abK (C.yQ τ e fun c vk τ G3 x3 e=>?_)))))
 refine wpAny_newObj_type ?_
 have hk:∀b o,τ.s.heap.get? b=some o→(τ.s.heap.push { cls:=.type "slice",data:=.fields #[vl,vu,vk] }).get? b=some o:=fun zz zz e=>aa5 _ e
 have G4:=τ.iI hk
 exact k a b c _ vl vu vk (τ.grow hk _) (VR.pK (((G1.trans G2).trans G3).trans G4) V) (ags ..) (Rs.go ((G2.trans G3).trans G4) x1) (Rs.go (G3.trans G4) x2) (Rs.go G4 x3) e
theorem TY{L:Rr}{sc:Scope}{H:CH}{env:Env}{q:List PV×CH}(e:Mine.Fl L sc ρ es H=some q)(h:afh es.length 20=true):methodCallForm (es.length+([]:List Keyword).length) (backTo pos (afb es env)) (backToKw pos (keywordEach [] env))=true:=by
 have plain:(backTo pos (afb es env)).all (fun x=>!x.1)=true:=by
  have h:=vJ (env:=env) (pos:=pos) e
  rw[List.all_eq_not_any_not]
  simp only[Bool.not_not]
  rw[h];rfl
 unfold methodCallForm
 rw[plain]
 have h:=acT h
 simp only[age,ade,decide_eq_true_eq]
 refine⟨rfl,?_⟩
 show es.length+0+(if(backToKw pos (keywordEach [] env)).isEmpty=true then 0 else 1)<30
 rw[show(if(backToKw pos (keywordEach [] env)).isEmpty=true then 0 else 1)=0 from rfl]
 lia
theorem Ok.IR(C:Ok Γ)(σ:bf Γ ρ){apos:Pos}(e:TW Γ.W.P Γ.cl Γ.L o x apos es pos Γ.sc ρ σ.H=some r):wpAny Γ.mod Γ.A (eval (.Call (.Attribute o x apos) es [] pos) Γ.env) (Out Γ ρ [] [] r) Γ.E σ.s:=by
 obtain⟨hs,e⟩:=bq e
 obtain⟨hl,e⟩:=bq e
 obtain⟨h20,e⟩:=bq e
 rw[arm_eval_Call];rw[qT hs]
 refine aat (C.hY σ (l:=[]) (m:=[]) trivial e fun ov v τ V e=>aat (acU ?_))
 have aej:methodCallPos true o Γ.env apos pos=pure pos:=by
  unfold methodCallPos
  simp [abX hl]
 unfold methodCall
 refine cn e fun mf h1 h2=>?_
 rewrite[cn h2 fun zz e zz=>TY e h20]
 refine aat (abK (τ.au C.ok h1 V.1 fun hH fv hf=>aat (agN aej ?_)))
 rw[hH]at h2
 obtain⟨mf,H⟩:=mf
 have hk:Callee Γ.W fv:=by
  induction mf with
  | fn k =>
   obtain⟨a,h1,rfl⟩:=hf
   obtain⟨zz,zz,h3⟩:=C.ok.fns k a h1
   exact .inl h3.keep
  | append=>exact .inr (.inl ⟨_,hf⟩)
  | pop=>exact .inr (.inl ⟨_,hf⟩)
  | KM=>exact .inr (.inl ⟨_,hf⟩)
 refine C.callWith τ hk h2 V fun ps vs τ W V e=>?_
 by_cases hfn:∃k,mf=.fn k
 ·obtain⟨k,rfl⟩:=hfn
  obtain⟨a,h1,rfl⟩:=hf
  exact lM (C.call τ C.rm.call e h1 ⟨V.1,W⟩ (l:=[]) (m:=[]) trivial fun v τ e x=>⟨v,rfl,.mk v τ e x⟩)
 ·exact τ.aj (fun k h=>hfn ⟨k,h⟩) C.rm.units e hf V.1 W trivial
theorem Ok.UA(C:Ok Γ)(σ:bf Γ ρ){elt:Expr}{gens:List acI}{fK:Scope}(e:Od Γ.L elt gens fK Γ.sc ρ σ.H=some r):wpAny Γ.mod Γ.A (eval (.ListComp elt gens fK pos) Γ.env) (Out Γ ρ [] [] r) Γ.E σ.s:=by
 rw[arm_eval_ListComp]
 refine C.comp σ e fun K a τ D=>?_
 obtain⟨mm,o,es,ep,ho,hd,hns⟩:=D.ns
 refine⟨mm,⟨o,es,ep,ho,hd,hns⟩,fun Ue hs=>?_⟩
 have K6:Kept Γ.W (fun b=>b=K) τ.s.heap τ.as Ue:=⟨fun b o e n=>(hs.2 b n).trans e,fun zz e=>e▸D.no,(xR ⟨o,ho,fun vs n h=>by rw[hd]at h;cases h⟩ hs (as:=τ.as)).tup⟩
 exact .mk (.ref a) (τ.kept K6 (fun zz e=>e▸D.new) τ.s.toks) D.e ⟨D.val.go K6.go,trivial⟩
theorem Ok.sub(C:Ok Γ)(σ:bf Γ ρ)(e:aa (Γ.L.ev o Γ.sc ρ) (fun ov=>YF Γ.L i ov Γ.sc ρ) σ.H=some r):wpAny Γ.mod Γ.A (eval (.Subscript o i pos) Γ.env) (Out Γ ρ [] [] r) Γ.E σ.s:=by
 refine Subscript_ (C.hY σ (l:=[]) (m:=[]) trivial e fun ov v τ V e=>?_)
 have plain:aa (Γ.L.ev i Γ.sc ρ) (fun iv=>getItem ov iv) τ.H=some r→wpAny Γ.mod Γ.A (eval i Γ.env) (fun w s=>wpAny Γ.mod Γ.A (subscriptTail o i v w) (Out Γ ρ [] [] r) Γ.E s) Γ.E τ.s:=fun e =>
  C.hY τ V e fun iv w τ V e=>Q8 (τ.getItem e C.rm.units V.2.1 V.1 trivial)
 induction i using Expr.casesOn with
 | Slice lo hi st sp=>exact C.slice τ V e fun a b c sl vl vu vk τ V h2 h3 h4 h5 e=>Q8 (τ.slice e V.1 h2 h3 h4 h5 trivial)
 | _=>exact plain e
end
end
end Mine.Sim
namespace Mine.Sim
open PySem PySem.W PyProof.Rows PySem.Calls PySem.SeqAt
noncomputable section
section
variable{Γ:Fr}{ρ:bg}{l ps:List PV}{m vs:List Value}{r:PV×CH}{rb:Bool×CH}{E:Value→Shared→Prop}{A:Around}{a b p:PV}{u v f:Value}{x:Str}{pos np:Pos}{es:List Expr}{o i e l' r' t:Expr}
theorem Ok.bin(C:Ok Γ)(σ:bf Γ ρ){op:agq}(h:aa (Γ.L.ev l' Γ.sc ρ) (fun a=>aa (Γ.L.ev r' Γ.sc ρ) fun b=>binop op a b) σ.H=some r):wpAny Γ.mod Γ.A (eval (.BinOp l' op r' pos) Γ.env) (Out Γ ρ [] [] r) Γ.E σ.s :=
 wpAny_BinOp (C.hY σ (l:=[]) (m:=[]) trivial h fun zz zz τ V h=>C.hY τ V h fun zz zz τ V h=>τ.binop h V.2.1 V.1 trivial)
theorem Ok.una(C:Ok Γ)(σ:bf Γ ρ){op:UnaryOp}(h:aa (Γ.L.ev e Γ.sc ρ) (fun a=>unop op a) σ.H=some r):wpAny Γ.mod Γ.A (eval (.UnaryOp op e pos) Γ.env) (Out Γ ρ [] [] r) Γ.E σ.s :=
 wpAny_UnaryOp (C.hY σ (l:=[]) (m:=[]) trivial h fun zz zz τ V h=>τ.unop h V.1 trivial)
theorem Ok.cond(C:Ok Γ)(σ:bf Γ ρ)(h:aa (Γ.L.Be t Γ.sc ρ) (fun c=>af c (Γ.L.ev l' Γ.sc ρ) (Γ.L.ev r' Γ.sc ρ)) σ.H=some r):wpAny Γ.mod Γ.A (eval (.IfExp t l' r' pos) Γ.env) (Out Γ ρ [] [] r) Γ.E σ.s :=
 wpAny_IfExp (C.PS σ (l:=[]) (m:=[]) trivial h fun c τ V h=>by
  induction c with
  | true=>rw[if_pos rfl];exact C.ev τ h trivial
  | false=>rewrite[if_neg (by decide)];exact C.ev τ h trivial)
theorem Ok.list(C:Ok Γ)(σ:bf Γ ρ)(h:aa (Mine.Fl Γ.L Γ.sc ρ es) Ck σ.H=some r):wpAny Γ.mod Γ.A (eval (.List es pos) Γ.env) (Out Γ ρ [] [] r) Γ.E σ.s :=
 wpAny_List (Nx (l:=[]) (m:=[]) h (fun zz h=>C.Fl σ h trivial) fun ps vs τ W zz h=>by
  obtain⟨hl,h⟩:=bq h
  have hl:=acT hl
  have hw:=W.len
  exact⟨by rw[afe];lia,.push τ (t:=τ.s.toks) h (by unfold ax;lia) W trivial⟩)
theorem Ok.tuple(C:Ok Γ)(σ:bf Γ ρ){k:Nat}(h:aa (Mine.Fl Γ.L Γ.sc ρ es) gB σ.H=some r):wpAny Γ.mod Γ.A (eval (.Tuple es k pos) Γ.env) (Out Γ ρ [] [] r) Γ.E σ.s :=
 wpAny_Tuple (Nx (l:=[]) (m:=[]) h (fun zz h=>C.Fl σ h trivial) fun ps vs τ W zz h=>by
  obtain⟨hl,h⟩:=bq h
  have hl:=acT hl
  have hw:=W.len
  have hk:∀b o,τ.s.heap.get? b=some o→(τ.s.heap.push { cls:=.type "tuple",data:=.seq vs.toArray }).get? b=some o:=fun zz zz e=>aa5 _ e
  exact⟨by rw[afe];lia,.kept (t:=τ.s.toks) τ h hk ⟨_,vs.toArray,rfl,⟨_,abP _ rfl,rfl,_,rfl⟩,E7.all▸VR.pK (τ.iI hk) W⟩ trivial⟩)
theorem Ok.compare(C:Ok Γ)(σ:bf Γ ρ){ops:List CmpOp}(h:aa (Γ.L.ev e Γ.sc ρ) (fun a=>aa (Mine.TB Γ.L Γ.sc ρ ops a es) fun b=>ret (.bool b)) σ.H=some r):wpAny Γ.mod Γ.A (eval (.Compare e ops es pos) Γ.env) (Out Γ ρ [] [] r) Γ.E σ.s:=by
 rw[arm_eval_Compare]
 exact aat (C.hY σ (l:=[]) (m:=[]) trivial h fun a u τ V h=>cn h fun q h1 h2=>by
  cases di h2
  exact C.TB τ h1 V.1)
theorem Ok.attr(C:Ok Γ)(σ:bf Γ ρ)(h:fM (tL o) (fM (Γ.W.P.field x) (aa (Γ.L.ev o Γ.sc ρ) fun ov=>ar ov x)) σ.H=some r):wpAny Γ.mod Γ.A (eval (.Attribute o x pos) Γ.env) (Out Γ ρ [] [] r) Γ.E σ.s:=by
 obtain⟨hs,h⟩:=bq h
 obtain⟨hf,h⟩:=bq h
 rw[arm_eval_Attribute];rw[qT hs]
 exact aat (C.hY σ (l:=[]) (m:=[]) trivial h fun ov v τ V h=>aat (acU (aat (abK (abr (τ.ar (l:=[]) (m:=[]) C.ok hf h V.1 trivial) (fun zz zz o=>aat (wpAny_letTemporaryGo (aa1 o))) fun zz zz e=>e)))))
theorem Ok.dict(σ:bf Γ ρ)(h:new (.dict []) σ.H=some r):wpAny Γ.mod Γ.A (eval (.Dict [] [] pos) Γ.env) (Out Γ ρ [] [] r) Γ.E σ.s:=by
 replace h:=zI h;subst h
 exact wpAny_Dict_empty (.mk (.ref σ.s.heap.objs.size) (σ.new (co:=.dict []) (fun zz zz e=>aa5 { cls:=.type "dict",data:=.dict #[] } e) (σ.s.heap.objs.size,σ.s.heap.objs.size) (fun x hx=>by obtain rfl:x=_:=hx.elim id id;exact gO) (.mk #[] 0 (show 0<ax by decide) rfl ⟨fun zz h=>(zM h),.nil⟩ (abP _ rfl) trivial) σ.s.toks) rfl ⟨σ.IV,trivial⟩)
theorem RM(C:Ok Γ)(σ:bf Γ ρ)(h:TX Γ.W.P Γ.cl Γ.L e Γ.sc ρ σ.H=some r):wpAny Γ.mod Γ.A (eval e Γ.env) (Out Γ ρ [] [] r) Γ.E σ.s:=by
 induction e using Expr.casesOn with
 | Constant c k pos=>exact σ.const h
 | Name x pos=>exact C.name σ h
 | BoolOp op vs pos=>rw[arm_eval_BoolOp];exact C.boolOp σ h
 | BinOp l op r pos=>exact C.bin σ h
 | UnaryOp op x pos=>exact C.una σ h
 | IfExp t b o pos=>exact C.cond σ h
 | Dict ks vs pos=>induction ks with
  | nil=>induction vs with
   | nil=>exact Ok.dict σ h
   | cons _ _=>exact du h
  | cons _ _=>exact du h
 | List es pos=>exact C.list σ h
 | Tuple es k pos=>exact C.tuple σ h
 | ListComp elt gens fK pos=>exact C.UA σ h
 | Compare l ops rs pos=>exact C.compare σ h
 | Call f args kws pos =>
  induction kws with
  | cons _ _=>exact bw h
  | nil=>induction f using Expr.casesOn with
   | Attribute o m apos=>exact C.IR σ h
   | Name f np=>exact C.Ix σ h
   | _=>exact bw h
 | Attribute o a pos=>exact C.attr σ h
 | Subscript o i pos=>exact C.sub σ h
 | _=>exact bw h
theorem PU(C:Ok Γ)(σ:bf Γ ρ)(h:Rb Γ.L e Γ.sc ρ σ.H=some rb):wpAny Γ.mod Γ.A (isTrue e Γ.env (eval e Γ.env)) (sN Γ ρ [] [] rb) Γ.E σ.s:=by
 have dflt:aa (Γ.L.ev e Γ.sc ρ) truth σ.H=some rb→isTrue e Γ.env (eval e Γ.env)=(do let v ← eval e Γ.env;agQ e.pos;agj [v] (truthy v))→wpAny Γ.mod Γ.A (isTrue e Γ.env (eval e Γ.env)) (sN Γ ρ [] [] rb) Γ.E σ.s:=fun h he =>
  wpAny_isTrue_value (C.hY σ (l:=[]) (m:=[]) trivial h fun p v τ V h=>τ.truth h V.1 trivial) he
 induction e using Expr.casesOn with
 | UnaryOp op x pos=>induction op with
  | Not=>exact wpAny_isTrue_Not (C.PS (x:=x) (f:=fun b=>ret (!b)) σ (l:=[]) (m:=[]) trivial h fun b τ V h=>.ret τ h trivial)
  | _=>exact dflt h rfl
 | BoolOp op vs pos=>exact wpAny_isTrue_BoolOp (C.iE σ h)
 | IfExp t b' o pos =>
  rw[arm_isTrue_IfExp]
  exact aat (C.PS (x:=t) (f:=fun c=>af c (Γ.L.Be b' Γ.sc ρ) (Γ.L.Be o Γ.sc ρ)) σ (l:=[]) (m:=[]) trivial h fun c τ V h=>by
   induction c with
   | true=>rw[if_pos rfl];exact C.Be τ h trivial
   | false=>rewrite[if_neg (by decide)];exact C.Be τ h trivial)
 | Compare l ops rs pos =>
  rw[arm_isTrue_Compare]
  exact aat (C.hY (x:=l) (f:=fun a=>Mine.chain Γ.L Γ.sc ρ ops a rs) σ (l:=[]) (m:=[]) trivial h fun a u τ V h=>C.chain τ h V.1)
 | _=>exact dflt h rfl
end
end
end Mine.Sim
namespace Mine.Sim
open PySem PySem.W PyProof.Rows PySem.Calls PySem.SeqAt
noncomputable section
structure lJ(Γ:Fr):Prop extends Ok Γ where
 hF:∀b,Fe Γ.env b→Γ.F b
section
variable{Γ:Fr}{ρ:bg}{l ps:List PV}{m vs:List Value}{r:PV×CH}{rb:Bool×CH}{E:Value→Shared→Prop}{A:Around}{a b p q:PV}{u v f:Value}{x:Str}{pos np px:Pos}{es:List Expr}{o i e t value:Expr}{K:bg→CM PV}{s:Shared}
theorem sK.el{Q:Flow→Shared→Prop}(n:∀ρ (τ:bf Γ ρ),K ρ τ.H=some r→Q .next τ.s)(k:∀ρ v s,Out Γ ρ [] [] r v s→Q (.ret v) s){f:Flow}(z:sK Γ K r f s):Q f s:=by
 induction z with
 | next ρ τ e=>exact n ρ τ e
 | ret ρ v s o=>exact k ρ v _ o
theorem lJ.exs(C:lJ Γ):∀{sts:List Stmt} {ρ:bg} (σ:bf Γ ρ),lm Γ.L Γ.sc sts ρ K σ.H=some r→wpAny Γ.mod Γ.A (execs sts Γ.env) (sK Γ K r) Γ.E σ.s
 | [],ρ,σ,e=>agO (.next ρ σ e)
 | st::sts,ρ,σ,e=>wpAny_execs_cons (abr (C.lv.ex C.toBs rfl rfl C.hF σ e) (fun f s z=>z.el (Q:=fun f s=>match f with | .next=>wpAny Γ.mod Γ.A (execs sts Γ.env) (sK Γ K r) Γ.E s | f=>sK Γ K r f s) (fun ρ τ e=>C.exs τ e) fun ρ v s o=>.ret ρ v s o) fun zz zz e=>e)
theorem BY{sc:Scope}(h:yc x sc=true):∃k,look x sc.names=some k∧(k=.local∨k=.cell):=by
 unfold yc at h
 generalize q:look x sc.names=zq;induction zq with
 | none=>rw[q]at h;exact fS h
 | some k =>
  rw[q]at h
  induction k with
  | «local»=>exact⟨_,rfl,.inl rfl⟩
  | cell=>exact⟨_,rfl,.inr rfl⟩
  | _=>exact fS h
noncomputable def Yw(Γ:Fr)(K:bg→CM PV)(r:PV×CH)(t:Expr)(v:Value)(s:Shared):Prop:=wpAny Γ.mod Γ.A (assign t Γ.env v) (fun zz s=>sK Γ K r .next s) Γ.E s
theorem lJ.toName(C:lJ Γ)(σ:bf Γ ρ)(e:fM (yc x Γ.sc) (K (gc Γ.sc ρ x p)) σ.H=some r)(V:σ.V p v):Yw Γ K r (.Name x px) v σ.s:=by
 obtain⟨h,e⟩:=bq e
 obtain⟨k,hk,Xo⟩:=BY h
 exact aeP (σ.store C.fx hk Xo (fun b hb zz=>C.hF b hb) V (l:=[]) (m:=[]) trivial fun τ eH zz zz=>.next _ τ (eH▸e))
theorem lJ.aax(C:lJ Γ)(σ:bf Γ ρ)(e:aa (Γ.L.ev o Γ.sc ρ) (fun ov=>aa (ee Γ.W.P.field ov x p) fun zz=>K ρ) σ.H=some r)(V:σ.Vs [p] [v]):Yw Γ K r (.Attribute o x pos) v σ.s:=by
 unfold Yw
 rw[arm_assign_Attribute]
 exact aat (abK (C.hY σ V e fun ov w τ V e=>aat (acU (aat (abK (Wa (l:=[]) (m:=[]) e (fun zz e=>τ.ee C.ok e V.1 V.2.1 trivial) fun τ zz e=>agp (.next _ τ e)))))))
theorem lJ.toSub(C:lJ Γ)(σ:bf Γ ρ)(e:aa (Γ.L.ev o Γ.sc ρ) (fun ov=>aa (Γ.L.ev i Γ.sc ρ) fun iv=>aa (setItem ov iv p) fun zz=>K ρ) σ.H=some r)(V:σ.Vs [p] [v]):Yw Γ K r (.Subscript o i pos) v σ.s:=by
 unfold Yw
 rw[arm_assign_Subscript]
 exact aat (abK (C.hY σ V e fun ov w τ V e=>aat (abK (C.hY τ V e fun iv w' τ V e=>aat (acU (aat (abK (Wa (l:=[]) (m:=[]) e (fun zz e=>τ.setItem e C.rm.units V.2.1 V.1 V.2.2.1 trivial) fun τ zz e=>agp (.next _ τ e)))))))))
theorem vt{env:Env}{line:Nat}(h:rH value=false):swapsWith value (some t) line env=pure false∧swapsWith value none line env=pure false:=by
 cases value <;> first | exact⟨rfl,rfl⟩ | exact rr h
theorem jn{Q:Flow→Shared→Prop}(jd:(assignEach [t] Γ.env).map (·.2)=[assign t Γ.env])(hsw:afl [t] value Γ.env=pure none)(b:Bool)(hb:swapsWithSole [t] value pos.line Γ.env=pure b)(h1:b=true→wpAny Γ.mod Γ.A (do evalThenUse value Γ.env fun v=>assignAll v [assign t Γ.env];pure .next) Q Γ.E s)
  (h2:b=false→wpAny Γ.mod Γ.A (eval value Γ.env) (fun v s=>wpAny Γ.mod Γ.A (assign t Γ.env v) (fun zz s=>Q .next s) Γ.E s) Γ.E s):wpAny Γ.mod Γ.A (exec (.Assign [t] value pos) Γ.env) Q Γ.E s:=by
 rw[arm_exec_Assign];rw[jd]
 refine aat (acU ?_)
 show wpAny _ _ (do if ← swapsWithSole [t] value pos.line Γ.env then do evalThenUse value Γ.env fun v=>assignAll v [assign t Γ.env];pure .next else do let v ← eval value Γ.env;assignStores Γ.env v (← afl [t] value Γ.env) [assign t Γ.env]) _ _ _
 rw[hb];rw[hsw]
 refine aat (aa1 ?_)
 induction b with
 | true=>exact h1 rfl
 | false =>
  refine aat (abr (h2 rfl) (fun v s h=>?_) fun zz zz e=>e)
  show wpAny _ _ (assign t Γ.env v >>= fun zz=>pure Flow.next) _ _ _
  exact aat (abr h (fun zz s z=>aa1 z) fun zz zz e=>e)
theorem vD(h:rH value=true)(k:jD value=true):∃elt gens fK pos,value=.ListComp elt gens fK pos:=by
 cases value <;> first | exact⟨_,_,_,_,rfl⟩ | (exact fS k;done) | exact fS h
theorem lJ.TD(C:lJ Γ)(σ:bf Γ ρ){elt:Expr}{gens:List acI}{fK:Scope}(e:aa (Γ.L.ev (.ListComp elt gens fK pos) Γ.sc ρ) (fun u=>fM (yc x Γ.sc) (K (gc Γ.sc ρ x u))) σ.H=some r) :
  wpAny Γ.mod Γ.A (do evalThenUse (.ListComp elt gens fK pos) Γ.env fun v=>assignAll v [assign (.Name x px) Γ.env];pure .next) (sK Γ K r) Γ.E σ.s:=by
 rw[arm_evalThenUse_ListComp]
 refine cn e fun q e1 e2=>aat (aat (abr (C.lv.cmp C.toBs rfl rfl (Q:=fun zz s=>sK Γ K r .next s) σ e1 fun c a τ D=>?_) (fun zz s z=>aa1 (aa1 z)) fun zz zz e=>e))
 obtain⟨hl,e2⟩:=bq e2
 obtain⟨k,hk,Xo⟩:=BY hl
 show wpAny _ _ (assign (.Name x px) Γ.env (.ref a)) _ _ τ.s
 refine aeP (τ.store C.fx hk Xo (fun b hb zz=>C.hF b hb) D.val (l:=[]) (m:=[]) trivial fun nW eH zz P'=>?_)
 obtain⟨mm,o,es,ep,ho,hd,hns⟩:=D.ns
 have Hx:=P'.keep c o ho D.no.1 D.new.2
 refine⟨mm,⟨o,es,ep,Hx,hd,hns⟩,fun Ue hs=>?_⟩
 have K6:Kept Γ.W (fun b=>b=c) nW.s.heap nW.as Ue:=⟨fun b o e n=>(hs.2 b n).trans e,fun zz e=>e▸⟨fun h=>(P'.fresh c h).elim D.no.1 (db ho),D.no.2⟩,(xR ⟨o,Hx,fun vs n h=>by rw[hd]at h;cases h⟩ hs (as:=nW.as)).tup⟩
 exact .next _ (nW.kept K6 (fun zz e=>e▸D.new) nW.s.toks) (show K _ nW.H=some r by rw[eH];rw[D.e];exact e2)
theorem lJ.asg(C:lJ Γ)(σ:bf Γ ρ)(k:jD value=true)(e:TZ Γ.W.P Γ.L t value Γ.sc ρ K σ.H=some r)(ht:∀xs k p,t≠.Tuple xs k p):wpAny Γ.mod Γ.A (exec (.Assign [t] value pos) Γ.env) (sK Γ K r) Γ.E σ.s:=by
 induction t using Expr.casesOn with
 | Name x px =>
  have plain:∀Q,(∀s v,Yw Γ K r (.Name x px) v s→Q v s)→wpAny Γ.mod Γ.A (eval value Γ.env) Q Γ.E σ.s:=fun Q h=>C.hY (x:=value) (f:=fun u=>fM (yc x Γ.sc) (K (gc Γ.sc ρ x u))) σ (l:=[]) (m:=[]) trivial e fun p v τ V e=>h _ _ (C.toName τ e V.1)
  generalize hc:rH value=zq;induction zq with
  | false=>exact jn rfl rfl false (vt (t:=.Name x px) (env:=Γ.env) (line:=pos.line) hc).1 (fun h=>fS h) fun zz=>plain _ fun zz zz h=>h
  | true =>
   obtain⟨elt,gens,fK,abn,rfl⟩:=vD hc k
   exact jn rfl rfl _ rfl (fun hb=>C.TD σ e) fun zz=>plain _ fun zz zz h=>h
 | Attribute o a p =>
  have plain:wpAny Γ.mod Γ.A (eval value Γ.env) (fun v s=>Yw Γ K r (.Attribute o a p) v s) Γ.E σ.s:=C.hY (x:=value) (f:=fun u=>aa (Γ.L.ev o Γ.sc ρ) fun ov=>aa (ee Γ.W.P.field ov a u) fun zz=>K ρ) σ (l:=[]) (m:=[]) trivial e fun p v τ V e=>C.aax τ e V
  generalize hc:rH value=zq;induction zq with
  | false=>exact jn rfl rfl false (vt (t:=.Attribute o a p) (env:=Γ.env) (line:=pos.line) hc).1 (fun h=>fS h) fun zz=>plain
  | true =>
   obtain⟨elt,gens,fK,abn,rfl⟩:=vD hc k
   exact jn rfl rfl false rfl (fun h=>fS h) fun zz=>plain
 | Subscript o i p =>
  have plain:wpAny Γ.mod Γ.A (eval value Γ.env) (fun v s=>Yw Γ K r (.Subscript o i p) v s) Γ.E σ.s:=C.hY (x:=value) (f:=fun u=>aa (Γ.L.ev o Γ.sc ρ) fun ov=>aa (Γ.L.ev i Γ.sc ρ) fun iv=>aa (setItem ov iv u) fun zz=>K ρ) σ (l:=[]) (m:=[]) trivial e fun p v τ V e=>C.toSub τ e V
  generalize hc:rH value=zq;induction zq with
  | false=>exact jn rfl rfl false (vt (t:=.Subscript o i p) (env:=Γ.env) (line:=pos.line) hc).1 (fun h=>fS h) fun zz=>plain
  | true =>
   obtain⟨elt,gens,fK,abn,rfl⟩:=vD hc k
   exact jn rfl rfl false rfl (fun h=>fS h) fun zz=>plain
 | Tuple xs k p=>exact(ht _ _ _ rfl).elim
 | _=>exact bw e
end
end
end Mine.Sim
namespace Mine.Sim
open PySem PySem.W PyProof.Rows PySem.Calls PySem.SeqAt
noncomputable section
section
variable{Γ:Fr}{ρ:bg}{l ps:List PV}{m vs:List Value}{r:PV×CH}{rb:Bool×CH}{E:Value→Shared→Prop}{A:Around}{a b p q:PV}{u v f:Value}{x:Str}{pos np px:Pos}{es:List Expr}{o i e t value:Expr}{K:bg→CM PV}{s:Shared}{R:Result→Shared→Prop}{body:List Stmt}{it:Addr}
theorem tu{x:Str}{px:Pos}{it:Value}{body:List Stmt}
  (h:wpAny Γ.mod Γ.A (pyNext it) (fun r dm=>match r with
   | none=>R (.ok .next) dm
   | some v=>wpAny Γ.mod Γ.A (storeName Γ.env x v) (fun zz AU=>wpAny Γ.mod Γ.A (execs body Γ.env) (fun f AV=>match f with
     | .next=>aeh Γ.mod Γ.A (.forLoop (.Name x px) it body [] Γ.env) R AV
     | .ret v=>R (.ok (.ret v)) AV
     | _=>False) (Γ.en R).E AU) (Γ.en R).E dm) (Γ.en R).E s) :
  aeh Γ.mod Γ.A (.forLoop (.Name x px) it body [] Γ.env) R s:=by
 refine af7 ?_
 show wpAny _ Γ.A ((forTurn (.Name x px) it body [] Γ.env).onRaise (fun x=>do noteFrame x Γ.env;agP x)) _ _ s
 refine wpAny_noted ?_
 simp only[forTurn]
 refine aat (acU (aat (wpAny_onRaise (abr h (fun r dm oy=>?_) fun zz zz h'=>acU h'))))
 induction r with
 | none=>exact aa1 ⟨rfl,codeAny_block (agO oy)⟩
 | some v =>
  refine aat (aa1 (aat (aeP (abr oy (fun zz AU rG=>aat (abr rG (fun f AV lS=>?_) fun zz zz h'=>h')) fun zz zz h'=>h'))))
  induction f with
  | next=>exact aa1 ⟨rfl,lS⟩
  | cont=>exact lS.elim
  | brk=>exact lS.elim
  | ret v=>exact aa1 lS
theorem E4{test:Expr}{body:List Stmt}
  (h:wpAny Γ.mod Γ.A (isTrue test Γ.env (eval test Γ.env)) (fun b AU=>match b with
   | true=>wpAny Γ.mod Γ.A (execs body Γ.env) (fun f AV=>match f with
     | .next=>aeh Γ.mod Γ.A (.whileLoop test body [] Γ.env) R AV
     | .ret v=>R (.ok (.ret v)) AV
     | _=>False) (Γ.en R).E AU
   | false=>R (.ok .next) AU) (Γ.en R).E s) :
  aeh Γ.mod Γ.A (.whileLoop test body [] Γ.env) R s:=by
 refine af7 ?_
 show wpAny _ Γ.A ((whileTurn test body [] Γ.env).onRaise (fun x=>do noteFrame x Γ.env;agP x)) _ _ s
 refine wpAny_noted ?_
 simp only[whileTurn]
 refine aat (abr h (fun b AU rG=>?_) fun zz zz h'=>h')
 induction b with
 | false =>
  simp only[ahm,if_false]
  exact aat (agO (aa1 rG))
 | true =>
  simp only[if_true]
  refine aat (abr rG (fun f AV lS=>?_) fun zz zz h'=>h')
  induction f with
  | next=>exact aa1 ⟨rfl,lS⟩
  | cont=>exact lS.elim
  | brk=>exact lS.elim
  | ret v=>exact aa1 lS
noncomputable def Tn(Γ:Fr)(K:bg→CM PV)(r:PV×CH):Result→Shared→Prop:=fun q s=>∃f,q=.ok f∧sK Γ K r f s
theorem lJ.re(C:lJ Γ)(R:Result→Shared→Prop)(h:Heap)(as:List Slot):lJ ((Γ.en R).re h as):=⟨C.toOk.re R h as,C.hF⟩
theorem Out.un{v:Value}{s:Shared}(o:Out (Γ.en R) ρ [] [] r v s):Out Γ ρ [] [] r v s:=Out.el (Γ:=Γ.en R) (Q:=fun v s=>Out Γ ρ [] [] r v s) (fun v τ e x=>Out.mk (Γ:=Γ) v τ.un e x) o
noncomputable abbrev Fr.lp(Γ:Fr)(R:Result→Shared→Prop)(h:Heap)(as:List Slot):Fr:=((Γ.en R).re h as).atF h as
noncomputable def bf.lp(τ:bf Γ ρ)(hF:∀b,Fe Γ.env b→Γ.F b){hZ:bg}(nW:bf (Γ.lp R τ.s.heap τ.as) hZ):bf Γ hZ:=⟨nW.s,nW.as,nW.H,nW.inv,nW.st,nW.fm,τ.fO.Kp nW.fO fun b f=>.inl (hF b f)⟩
theorem Out.lp{τ:bf Γ ρ}(hF:∀b,Fe Γ.env b→Γ.F b){hZ:bg}{v:Value}{s:Shared}(o:Out (Γ.lp R τ.s.heap τ.as) hZ [] [] r v s):Out Γ hZ [] [] r v s:=Out.el (Γ:=Γ.lp R τ.s.heap τ.as) (Q:=fun v s=>Out Γ hZ [] [] r v s) (fun v nW e x=>Out.mk (Γ:=Γ) v (τ.lp hF nW) e x) o
theorem lJ.fC(C:lJ Γ):∀(n:Nat) {ρ:bg} (σ:bf Γ ρ),Mine.fC (fun ρ=>Γ.L.Be t Γ.sc ρ) (fun ρ K=>lm Γ.L Γ.sc body ρ K) n ρ K σ.H=some r→aeh Γ.mod Γ.A (.whileLoop t body [] Γ.env) (Tn Γ K r) σ.s
 | 0,ρ,σ,e=>bw e
 | n+1,ρ,σ,e=>by
  have C':lJ (Γ.en (Tn Γ K r)):=⟨⟨⟨C.fx,C.rm⟩,C.ok,C.lv,C.co⟩,C.hF⟩
  refine E4 (C'.PS (x:=t) (σ.en _) (l:=[]) (m:=[]) trivial e fun b τ zz e=>?_)
  induction b with
  | false=>exact⟨.next,rfl,.next ρ τ.un e⟩
  | true=>exact abr (C'.exs (K:=fun hZ=>Mine.fC (fun ρ=>Γ.L.Be t Γ.sc ρ) (fun ρ K=>lm Γ.L Γ.sc body ρ K) n hZ K) τ e) (fun f s z=>z.el (Q:=fun f s=>match f with | .next=>aeh Γ.mod Γ.A (.whileLoop t body [] Γ.env) (Tn Γ K r) s | .ret v=>Tn Γ K r (.ok (.ret v)) s | _=>False) (fun hZ nW e=>C.fC n nW.un e) fun hZ v s o=>⟨_,rfl,.ret hZ v s o.un⟩) fun zz zz e=>e
theorem lJ.ek(C:lJ Γ){tt:It}(hx:yc x Γ.sc=true):∀(n i:Nat) {ρ:bg} (σ:bf Γ ρ),Mine.ek tt (fun v ρ K=>lm Γ.L Γ.sc body (gc Γ.sc ρ x v) K) n i ρ K σ.H=some r→Bl σ it i tt→aeh Γ.mod Γ.A (.forLoop (.Name x px) (.ref it) body [] Γ.env) (Tn Γ K r) σ.s:=fun n=>by
 induction n with
 | zero =>
  intro i ρ σ e I
  exact cn e fun q e1 e2=>tu (I.last C.rm.1 e1 (l:=[]) (m:=[]) trivial fun τ zz M h=>⟨.next,rfl,.next ρ τ (by rw[M.H];rewrite[← h];exact e2)⟩)
 | succ n ih =>
  intro i ρ σ e I
  exact cn e fun q e1 e2=>by
   obtain⟨k,hk,Xo⟩:=BY hx
   refine tu (I.next e1 (l:=[]) (m:=[]) trivial fun v τ V M hq I'=>?_)
   have WK:=C.re (Tn Γ K r) τ.s.heap τ.as
   have nf:¬Fe Γ.env it:=I'.free.2
   refine(τ.en (Tn Γ K r)).re.atF.store (Γ:=((Γ.en (Tn Γ K r)).re τ.s.heap τ.as).atF τ.s.heap τ.as) C.fx hk Xo (fun b hb zz=>hb) V.1 (l:=[]) (m:=[]) trivial fun H8 eH zz zz=>?_
   have adr:lJ (((Γ.en (Tn Γ K r)).re τ.s.heap τ.as).atF τ.s.heap τ.as):=⟨⟨⟨C.fx,C.rm⟩,C.ok,C.lv,C.co⟩,fun b h=>h⟩
   have e2:lm Γ.L Γ.sc body (gc Γ.sc ρ x q.1) (fun hZ=>Mine.ek tt (fun v ρ K=>lm Γ.L Γ.sc body (gc Γ.sc ρ x v) K) n (i+1) hZ K) H8.H=some r:=by rw[eH];exact(show lm Γ.L Γ.sc body (gc Γ.sc ρ x q.1) _ τ.H=some r by rw[M.H];rewrite[← hq];exact e2)
   refine abr (adr.exs H8 e2) (fun f s z=>z.el (Q:=fun f s=>match f with | .next=>aeh Γ.mod Γ.A (.forLoop (.Name x px) (.ref it) body [] Γ.env) (Tn Γ K r) s | .ret v=>Tn Γ K r (.ok (.ret v)) s | _=>False) (fun hZ nW e=>?_) fun hZ v s o=>?_) fun zz zz e=>e
   ·exact ih (i+1) (τ.lp C.hF nW) e (I'.step (τ:=τ.lp C.hF nW) nW.fO nf)
   ·exact⟨_,rfl,.ret hZ v s (o.lp C.hF)⟩
theorem lJ.acG(C:lJ Γ)(σ:bf Γ ρ){n:Nat}(e:Mine.fC (fun ρ=>Γ.L.Be t Γ.sc ρ) (fun ρ K=>lm Γ.L Γ.sc body ρ K) n ρ K σ.H=some r):wpAny Γ.mod Γ.A (exec (.While t body [] pos) Γ.env) (sK Γ K r) Γ.E σ.s:=by
 rw[arm_exec_While]
 refine aat (acU (wpAny_runOwn (h:=none) ?_))
 rw[agi]
 exact af8 (C.fC n σ e) (by rintro r s ⟨f,h1,h2⟩;exact by subst h1;exact h2)
theorem vS{e:Expr}{y:Str×Pos}(h:Cm e=some y):e=.Name y.1 y.2:=by
 induction e using Expr.casesOn with
 | Name x p=>replace h:=zI h;subst h;rfl
 | _=>exact bw h
theorem lJ.for(C:lJ Γ)(σ:bf Γ ρ){iter y:Expr}(e:YI Γ.L y iter body Γ.sc ρ K σ.H=some r):wpAny Γ.mod Γ.A (exec (.For y iter body [] pos) Γ.env) (sK Γ K r) Γ.E σ.s:=by
 obtain⟨⟨x,px⟩,hn,e⟩:=eu e
 obtain rfl:=vS hn
 obtain⟨hx,e⟩:=bq e
 rw[arm_exec_For]
 refine aat (acU (aat (abr (C.itP σ e (Q:=fun v s=>∃(tt:It) (it:Addr) (τ:bf Γ ρ) (n:Nat×CH),v=.ref it∧s=τ.s∧Bl τ it 0 tt∧Mine.ek tt (fun v ρ K=>lm Γ.L Γ.sc body (gc Γ.sc ρ x v) K) n.1 0 ρ K τ.H=some r) fun tt it τ I zz P e=>cn e fun n h1 h2=>⟨tt,it,τ,n,rfl,rfl,I,by rewrite[← B4 h1];exact h2⟩) (fun y s hy=>?_) fun zz zz e=>e)))
 refine aat (agN ((iS (cn e fun zz e zz=>(bq e).1)).set Γ.env y) (aat (acU (aat (abK (abr hy (fun v s h=>?_) fun zz zz e=>e))))))
 obtain⟨tt,it,τ,n,h1,h2,I,e⟩:=h
 subst h1 h2
 refine wpAny_runOwn (h:=none) ?_
 rw[agi]
 exact af8 (C.ek hx n.1 0 τ e I) (by rintro r s ⟨f,h1,h2⟩;exact by subst h1;exact h2)
theorem LR{β:Type}{z:β×CH}{g:Int→CM β}{H:CH}(h:fD p g H=some z):∃i,p=.int i∧g i H=some z:=by
 induction p using PV.casesOn with
 | int i=>exact⟨i,rfl,h⟩
 | _=>exact bw h
theorem Zm{op:agq}{old u:PV}{k:PV→CM PV}{H:CH}(h:aug op old u k H=some r):∃i j,old=.int i∧u=.int j∧((op=.Add∧k (.int (i+j)) H=some r)∨(op=.Sub∧k (.int (i-j)) H=some r)):=by
 obtain⟨i,rfl,h1⟩:=LR h
 obtain⟨j,rfl,h2⟩:=LR h1
 refine⟨i,j,rfl,rfl,?_⟩
 induction op with
 | Add=>exact .inl ⟨rfl,h2⟩
 | Sub=>exact .inr ⟨rfl,h2⟩
 | _=>exact bw h2
theorem lJ.aug(C:lJ Γ)(σ:bf Γ ρ){op:agq}(e:YG Γ.W.P Γ.L t op value Γ.sc ρ K σ.H=some r):wpAny Γ.mod Γ.A (exec (.AugAssign t op value pos) Γ.env) (sK Γ K r) Γ.E σ.s:=by
 induction t using Expr.casesOn with
 | Attribute o a p =>
  refine wpAny_AugAssign_AttributeAny (C.hY (x:=o) (f:=fun ov=>fM (Γ.W.P.field a) (aa (ar ov a) fun old=>aa (Γ.L.ev value Γ.sc ρ) fun u=>Mine.aug op old u fun new=>aa (ee Γ.W.P.field ov a new) fun zz=>K ρ)) σ (l:=[]) (m:=[]) trivial e fun ov o' τ V e=>?_)
  obtain⟨hf,e⟩:=bq e
  refine acu e (fun zz e=>τ.ar C.ok hf e V.1 V) fun old w τ V e=>C.hY τ V e fun u w' τ V e=>?_
  obtain⟨i,j,rfl,rfl,e'⟩:=Zm e
  obtain⟨t,rfl⟩:=V.2.1
  obtain⟨t',rfl⟩:=V.1
  have fin:∀{k:Int},aa (Mine.ee Γ.W.P.field ov a (.int k)) (fun zz=>K ρ) τ.H=some r→wpAny Γ.mod Γ.A (setAttr o' a (.int k τ.s.toks)) (fun zz=>sK Γ K r .next) Γ.E (τ.tok (τ.s.toks+1)).s:=fun{k} e =>
   Wa (Γ:=Γ) (ρ:=ρ) (H:=τ.H) (l:=[]) (m:=[]) (x:=Mine.ee Γ.W.P.field ov a (.int k)) (f:=fun zz=>K ρ) e (fun zz e=>(τ.tok (τ.s.toks+1)).ee C.ok e V.2.2.1 ⟨_,rfl⟩ trivial) fun τ zz e=>sK.next _ τ e
  rcases e' with ⟨rfl,e'⟩ | ⟨rfl,e'⟩
  ·exact iadd_int (fin e')
  ·exact isub_int (fin e')
 | _=>exact bw e
end
end
end Mine.Sim
namespace Mine.Sim
open PySem PySem.W PyProof.Rows PySem.Calls PySem.SeqAt
noncomputable section
section
variable{Γ:Fr}{ρ:bg}{l ps:List PV}{m vs:List Value}{r:PV×CH}{E:Value→Shared→Prop}{A:Around}{p q:PV}{u v f:Value}{x y:Str}{pos np px py tp vp:Pos}{es:List Expr}{o i e t value a b:Expr}{K:bg→CM PV}{s:Shared}{body:List Stmt}{k k':Nat}
theorem Rg{l:List Expr}{z:Expr×Expr}(h:aaE l=some z):l=[z.1,z.2]:=by
 induction l with
 | nil=>exact du h
 | cons a l=>induction l with
  | nil=>exact du h
  | cons b l=>induction l with
   | nil=>replace h:=zI h;subst h;rfl
   | cons _ _=>exact du h
theorem Xc{e:Expr}{z:List Expr}(h:abx e=some z):∃k p,e=.Tuple z k p:=by
 induction e using Expr.casesOn with
 | Tuple es k p=>replace h:=zI h;subst h;exact⟨_,_,rfl⟩
 | _=>exact bw h
theorem aaF{vs:List PV}{g:PV→PV→CM PV}{H:CH}(h:two vs g H=some r):∃u w,vs=[u,w]∧g u w H=some r:=by
 induction vs with
 | nil=>exact du h
 | cons u l=>induction l with
  | nil=>exact du h
  | cons w l=>induction l with
   | nil=>exact⟨u,w,rfl,h⟩
   | cons _ _=>exact du h
theorem IW{P:Prop}(h:false=true):P:=fS h
theorem HA(h:IG a=true):∃f as ks p,a=.Call f as ks p:=by
 induction a using Expr.casesOn with
 | Call f as ks p=>exact⟨_,_,_,_,rfl⟩
 | _=>exact IW h
theorem Lo(h:Ul a=true):∃k p,a=.Tuple [] k p:=by
 induction a using Expr.casesOn with
 | Tuple es k p=>induction es with
  | nil=>exact⟨_,_,rfl⟩
  | cons _ _=>exact IW h
 | _=>exact IW h
theorem R5(h:IY a b px py=true):(∃f1 a1 k1 p1 f2 a2 k2 p2,a=.Call f1 a1 k1 p1∧b=.Call f2 a2 k2 p2∧px.line=py.line)∨∃q1 r1 q2 r2,a=.Tuple [] q1 r1∧b=.Tuple [] q2 r2:=by
 unfold IY at h
 generalize q:IG a=zq;induction zq with
 | true =>
  rw[q]at h
  have h':=abL.mp h
  obtain⟨f,as,ks,p,rfl⟩:=HA q
  obtain⟨f',lg,ks',p',rfl⟩:=HA h'.1
  exact .inl ⟨_,_,_,_,_,_,_,_,rfl,rfl,abX h'.2⟩
 | false =>
  rw[q]at h
  have h':=abL.mp h
  obtain⟨k,p,rfl⟩:=Lo h'.1
  obtain⟨k',p',rfl⟩:=Lo h'.2
  exact .inr ⟨_,_,_,_,rfl,rfl⟩
theorem abw(h:x≠y):[x,y].eraseDups.length=2:=by
 have:(y == x)=false:=beq_eq_false_iff_ne.mpr (Ne.symm h)
 simp [List.eraseDups_cons,this]
noncomputable def swN(c1 c2:Bool)(x y:Str):List Str:=[(x,c1),(y,c2)].filterMap fun p=>if p.2=true then some p.1 else none
theorem Yl{env:Env}{c1 c2:Bool}{bk:ScopeKind}{f1 f2:Expr}{a1 a2:List Expr}{k1 k2:List Keyword}{p1 p2:Pos}(h1:(env.kindOf x == some .local&&px.line == px.line)=c1)(h2:(env.kindOf y == some .local&&py.line == px.line)=c2)(h3:env.blockKind=bk) :
  afl [.Tuple [.Name x px,.Name y py] k tp] (.Tuple [.Call f1 a1 k1 p1,.Call f2 a2 k2 p2] k' vp) env=if(bk != .function)=true then pure none else if((swN c1 c2 x y).length != 2 || (swN c1 c2 x y).eraseDups.length != (swN c1 c2 x y).length)=true then pure none else pure (some (swN c1 c2 x y)):=by
 subst h3 h1 h2
 rfl
theorem aau{env:Env}{q1 q2:Nat}{r1 r2:Pos}(h:env.blockKind=.function):afl [.Tuple [.Name x px,.Name y py] k tp] (.Tuple [.Tuple [] q1 r1,.Tuple [] q2 r2] k' vp) env=pure none:=by
 have e:∀c1 c2 bk,(env.kindOf x == some .local&&px.line == px.line)=c1→(env.kindOf y == some .local&&py.line == px.line)=c2→env.blockKind=bk→afl [.Tuple [.Name x px,.Name y py] k tp] (.Tuple [.Tuple [] q1 r1,.Tuple [] q2 r2] k' vp) env=if(bk != .function)=true then pure none else if((swN c1 c2 x y).length != 2 || (swN c1 c2 x y).eraseDups.length != (swN c1 c2 x y).length)=true then pure none else pure none:=fun c1 c2 bk h1 h2 h3=>by
  subst h3 h1 h2
  rfl
 rw[e _ _ _ rfl rfl h];rewrite[if_neg (by decide)]
 split <;> rfl
theorem lJ.two(C:lJ Γ)(σ:bf Γ ρ){z1 z2:Str}{w1 w2:PV}{v1 v2:Value}{t1 t2:Value→Sem Unit}(h1:look z1 Γ.sc.names=some .local)(h2:look z2 Γ.sc.names=some .local)(k1:∀{v Q s},wpAny Γ.mod Γ.A (storeName Γ.env z1 v) Q Γ.E s→wpAny Γ.mod Γ.A (t1 v) Q Γ.E s)(k2:∀{v Q s},wpAny Γ.mod Γ.A (storeName Γ.env z2 v) Q Γ.E s→wpAny Γ.mod Γ.A (t2 v) Q Γ.E s)
  (V:σ.Vs [w1,w2] [v1,v2]) (e:K (gc Γ.sc (gc Γ.sc ρ z1 w1) z2 w2) σ.H=some r):wpAny Γ.mod Γ.A (assignInOrder [t1,t2] [v1,v2]) (fun zz s=>sK Γ K r .next s) Γ.E σ.s :=
 wpAny_assignInOrder_more (k1 (σ.store C.fx h1 (.inl rfl) (fun b hb zz=>C.hF b hb) V.1 (l:=[w2]) (m:=[v2]) V.2 fun τ eH V' zz =>
  wpAny_assignInOrder_more (k2 (τ.store C.fx h2 (.inl rfl) (fun b hb zz=>C.hF b hb) V'.1 (l:=[]) (m:=[]) trivial fun nW eH' zz zz=>wpAny_assignInOrder_none (.next _ nW (by rw[eH'];rw[eH];exact e))))))
theorem lJ.ach(C:lJ Γ)(σ:bf Γ ρ)(e:fM (YP x Γ.sc) (fM (YP y Γ.sc) (fM (!qM x y) (fM (IY a b px py) (aa (Fl Γ.L Γ.sc ρ [a,b]) fun vs=>Mine.two vs fun u w=>K (gc Γ.sc (gc Γ.sc ρ x u) y w))))) σ.H=some r) :
  wpAny Γ.mod Γ.A (exec (.Assign [.Tuple [.Name x px,.Name y py] k tp] (.Tuple [a,b] k' vp) pos) Γ.env) (sK Γ K r) Γ.E σ.s:=by
 obtain⟨hx,e⟩:=bq e
 obtain⟨hy,e⟩:=bq e
 obtain⟨hxy,e⟩:=bq e
 obtain⟨hp,e⟩:=bq e
 have hx:=Ou hx
 have hy:=Ou hy
 have qc:x≠y:=fun h=>by rw[h,sY]at hxy;exact fS hxy
 have hix:idx x Γ.sc.names≠idx y Γ.sc.names:=fun e=>qc (tB hx hy e)
 have abu:∀{Q:Value→Shared→Prop},(∀(t:Addr) (q1 q2:PV) (v1 v2:Value) (τ:bf Γ ρ),IsTup τ.s.heap t #[v1,v2]→τ.Vs [q1,q2] [v1,v2]→K (gc Γ.sc (gc Γ.sc ρ x q1) y q2) τ.H=some r→Q (.ref t) τ.s)→wpAny Γ.mod Γ.A (eval (.Tuple [a,b] k' vp) Γ.env) Q Γ.E σ.s:=fun hQ =>
  wpAny_Tuple (Nx (l:=[]) (m:=[]) e (fun zz e=>C.Fl σ e trivial) fun ps vs τ W zz e=>by
   obtain⟨q1,q2,rfl,e⟩:=aaF e
   exact Yq W fun v1 v2 x1 x2 =>
     have hk:∀b o,τ.s.heap.get? b=some o→(τ.s.heap.push { cls:=.type "tuple",data:=.seq #[v1,v2] }).get? b=some o:=fun zz zz e=>aa5 _ e
     ⟨by rw[afe];exact(show 2≤_ by decide),hQ _ q1 q2 v1 v2 (τ.grow hk τ.s.toks) ⟨_,abP _ rfl,rfl,_,rfl⟩ (VR.pK (τ.iI hk) (show ay _ _ _ from⟨x1,x2,trivial⟩)) e⟩)
 have after:∀{τ:bf Γ ρ} {h':Heap},afD τ.s.heap.objs.size τ.s.heap h'→∀b o,τ.s.heap.get? b=some o→h'.get? b=some o:=fun hx b o hb=>hx b o (afr (ad0 hb)) hb
 have abI:Γ.env.blockKind=.function:=by unfold Env.blockKind;rw[C.fx.kind];rfl
 obtain⟨f1,a1,k1,p1,f2,a2,k2,p2,rfl,rfl,abO⟩ | ⟨q1,r1,q2,r2,rfl,rfl⟩:=R5 hp
 ·have hw:afl [.Tuple [.Name x px,.Name y py] k tp] (.Tuple [.Call f1 a1 k1 p1,.Call f2 a2 k2 p2] k' vp) Γ.env=pure (some [x,y]):=by
   refine(Yl (px:=px) (py:=py) (c1:=true) (c2:=true) (bk:=.function) ?_ ?_ abI).trans ?_
   ·rw[C.fx.kl x hx];rw[beq_self_eq_true];rw[beq_self_eq_true];rfl
   ·rw[C.fx.kl y hy];rw[abO];rw[beq_self_eq_true];rw[beq_self_eq_true];rfl
   ·show(if((2:Nat) != 2 || [x,y].eraseDups.length != 2)=true then pure none else pure (some [x,y]))=_
    rw[abw qc];rfl
  refine Assign_Tuple_swapped (hs:=rfl) (hw:=hw) (abu fun t q1 q2 v1 v2 τ ht W e=>?_)
  refine unpackItems_tuple (items:=#[v1,v2]) C.rm.1 ht fun h' RU=>?_
  refine C.two (τ.grow (after RU) τ.s.toks) hy hx (fun h=>wpAny_bindName h) (fun h=>wpAny_bindName h) (have g:=τ.iI (after RU);⟨W.2.1.go g,W.1.go g,trivial⟩) ?_
  rewrite[show gc Γ.sc (gc Γ.sc ρ y q2) x q1=gc Γ.sc (gc Γ.sc ρ x q1) y q2 from(List.set_comm _ _ hix).symm]
  exact e
 ·have hw:afl [.Tuple [.Name x px,.Name y py] k tp] (.Tuple [.Tuple [] q1 r1,.Tuple [] q2 r2] k' vp) Γ.env=pure none:=aau abI
  refine Assign_Tuple (hs:=rfl) (hw:=hw) (abu fun t q1 q2 v1 v2 τ ht W e=>?_)
  refine assign_Tuple_tuple C.rm.1 ht rfl rfl fun h' RU=>?_
  exact C.two (τ.grow (after RU) τ.s.toks) hx hy (fun h=>aeP h) (fun h=>aeP h) (VR.pK (τ.iI (after RU)) W) e
theorem lJ.pair(C:lJ Γ)(σ:bf Γ ρ){xs:List Expr}(e:T0 Γ.L xs value Γ.sc ρ K σ.H=some r):wpAny Γ.mod Γ.A (exec (.Assign [.Tuple xs k tp] value pos) Γ.env) (sK Γ K r) Γ.E σ.s:=by
 obtain⟨⟨x',y'⟩,h1,e1⟩:=eu e
 obtain⟨⟨x,px⟩,h2,e2⟩:=eu e1
 obtain⟨⟨y,py⟩,h3,e3⟩:=eu e2
 obtain⟨es,h4,e4⟩:=eu e3
 obtain⟨⟨a,b⟩,h5,e5⟩:=eu e4
 clear e e1 e2 e3 e4
 obtain rfl:=Rg h1
 obtain rfl:=vS h2
 obtain rfl:=vS h3
 obtain⟨k',vp,rfl⟩:=Xc h4
 obtain rfl:=Rg h5
 exact C.ach σ e5
theorem LF{o:Option Expr}{k:CM PV}(h:UM o k H=some r):o=none∧k H=some r:=match o,h with
 | none,h=>⟨rfl,h⟩
theorem XN{P:Expr→Prop}{f:Option Expr→Option Expr→Option Expr→CM PV}{g:CM PV}(a:∀lo hi st p,f lo hi st H=some r→P (.Slice lo hi st p))(b:g H=some r→P i)(h:acd i f g H=some r):P i:=by
 induction i using Expr.casesOn with
 | Slice lo hi st p=>exact a lo hi st p h
 | _=>exact b h
theorem UO{P:Expr→Prop}{f:Expr→Expr→CM PV}(a:∀o i p,f o i H=some r→P (.Subscript o i p))(h:YW t f H=some r):P t:=by
 induction t using Expr.casesOn with
 | Subscript o i p=>exact a o i p h
 | _=>exact bw h
theorem lJ.del(C:lJ Γ)(σ:bf Γ ρ)(e:YH Γ.L t Γ.sc ρ K σ.H=some r):wpAny Γ.mod Γ.A (exec (.Delete [t] pos) Γ.env) (sK Γ K r) Γ.E σ.s:=by
 refine UO (P:=fun t=>wpAny Γ.mod Γ.A (exec (.Delete [t] pos) Γ.env) (sK Γ K r) Γ.E σ.s) (fun o i q e=>?_) e
 refine wpAny_Delete (wpAny_deleteEach_cons ?_)
 rw[arm_delete_Subscript]
 refine aat (C.hY (x:=o) (f:=fun ov=>TO Γ.L i ov Γ.sc ρ K) σ (l:=[]) (m:=[]) trivial e fun ov o' τ V e=>aat (abK ?_))
 have fin:∀(τ:bf Γ ρ) {vs:List Value},K ρ τ.H=some r→wpAny Γ.mod Γ.A (release vs []) (fun zz dm=>wpAny Γ.mod Γ.A (deleteEach [] Γ.env) (fun zz dm=>sK Γ K r .next dm) Γ.E dm) Γ.E τ.s:=fun τ {vs} e=>agp (wpAny_deleteEach_nil (.next _ τ e))
 have plain:aa (Γ.L.ev i Γ.sc ρ) (fun iv=>aa (delItem ov iv) fun zz=>K ρ) τ.H=some r→wpAny Γ.mod Γ.A (eval i Γ.env) (fun iv AU=>wpAny Γ.mod Γ.A (do agQ q;agj [o',iv] (PySem.delItem o' iv);release [o',iv] []) (fun zz dm=>wpAny Γ.mod Γ.A (deleteEach [] Γ.env) (fun zz dm=>sK Γ K r .next dm) Γ.E dm) Γ.E AU) Γ.E τ.s:=fun e =>
  C.hY τ V e fun iv i' τ V e=>aat (acU (aat (abK (Wa (l:=[]) (m:=[]) e (fun zz e=>τ.delItem e C.rm.units V.2.1 V.1 trivial) fun τ zz e=>fin τ e))))
 refine XN (P:=fun i=>wpAny Γ.mod Γ.A (eval i Γ.env) _ Γ.E τ.s) (fun lo hi st sp e=>?_) plain e
 obtain⟨lo,rfl,e1⟩:=eu e
 obtain⟨rfl,e2⟩:=LF e1
 obtain⟨rfl,e3⟩:=LF e2
 rw[arm_eval_Slice]
 refine aat (C.hY τ V e3 fun a vl τ V e=>aat (abK (aa1 (aat (abK (aa1 ?_))))))
 refine wpAny_newObj_type ?_
 have hk:∀b o,τ.s.heap.get? b=some o→(τ.s.heap.push { cls:=.type "slice",data:=.fields #[vl,.none,.none] }).get? b=some o:=fun zz zz e=>aa5 _ e
 have V':=VR.pK (τ.iI hk) V
 exact aat (acU (aat (abK (Wa (H:=τ.H) (l:=[]) (m:=[]) e (fun zz e=>(τ.grow hk τ.s.toks).pH e V'.2.1 (ags ..) V'.1 trivial) fun τ zz e=>fin τ e))))
theorem ZC{H:CH}{k:CM PV}(h:gC p k H=some r):(p=.none∨∃i,p=.int i)∧k H=some r:=by
 induction p using PV.casesOn with
 | none=>exact⟨.inl rfl,h⟩
 | int i=>exact⟨.inr ⟨i,rfl⟩,h⟩
 | _=>exact du h
theorem lJ.expr(C:lJ Γ)(σ:bf Γ ρ)(h:fM (!rH e) (aa (Γ.L.ev e Γ.sc ρ) fun v=>gC v (K ρ)) σ.H=some r):wpAny Γ.mod Γ.A (exec (.Expr e pos) Γ.env) (sK Γ K r) Γ.E σ.s:=by
 obtain⟨hc,h⟩:=bq h
 refine wpAny_Expr (C.hY σ (l:=[]) (m:=[]) trivial h fun p v τ V h=>?_) (by unfold interactive;rw[C.fx.kind];rfl) (vt (t:=e) (acQ _▸hc)).2
 obtain⟨rfl | ⟨i,rfl⟩,h⟩:=ZC h
 ·obtain rfl:=V.1;exact .next _ τ h
 ·obtain⟨t,rfl⟩:=V.1;exact .next _ τ h
theorem RN(C:lJ Γ)(σ:bf Γ ρ){st:Stmt}(h:T2 Γ.W.P Γ.L st Γ.sc ρ K σ.H=some r):wpAny Γ.mod Γ.A (exec st Γ.env) (sK Γ K r) Γ.E σ.s:=by
 induction st using Stmt.casesOn with
 | Assign ts v pos =>
  induction ts with
  | nil=>exact bw h
  | cons t ts=>induction ts with
   | cons _ _=>exact bw h
   | nil =>
    obtain⟨k,h⟩:=bq (m:=TZ Γ.W.P Γ.L t v Γ.sc ρ K) h
    by_cases ht:∃xs k p,t=.Tuple xs k p
    ·obtain⟨xs,k,p,rfl⟩:=ht
     exact C.pair σ h
    ·exact C.asg σ k h fun xs k p e=>ht ⟨xs,k,p,e⟩
 | AugAssign t op v pos=>exact C.aug σ h
 | Expr e pos=>exact C.expr σ h
 | If t a b pos=>exact wpAny_If (C.PS (x:=t) (f:=fun c=>af c (lm Γ.L Γ.sc a ρ K) (lm Γ.L Γ.sc b ρ K)) σ (l:=[]) (m:=[]) trivial h fun c τ zz h=>by
   induction c with
   | true=>rw[if_pos rfl];exact C.exs τ h
   | false=>rewrite[if_neg (by decide)];exact C.exs τ h)
 | While t b oe pos=>induction oe with
  | nil=>exact C.acG σ h
  | cons _ _=>exact bw h
 | For x iter b oe pos=>induction oe with
  | nil=>exact C.for σ h
  | cons _ _=>exact bw h
 | Return e pos=>induction e with
  | none=>exact bw h
  | some e=>exact wpAny_Return_some (abr (C.ev σ (l:=[]) (m:=[]) h trivial) (fun v s o=>.ret ρ v s o) fun zz zz e=>e)
 | Delete ts pos =>
  induction ts with
  | nil=>exact bw h
  | cons t ts=>induction ts with
   | cons _ _=>exact bw h
   | nil=>exact C.del σ h
 | _=>exact bw h
end
end
end Mine.Sim
namespace Mine.Sim
open PySem PySem.W PyProof.Rows PySem.Calls PySem.SeqAt
noncomputable section
section
variable{W:Wd}{n:Nat}{L:Rr}{cl:Str→List PV→CM PV}
theorem XG:Kw W n (YT W.P cl 0):=⟨fun zz zz zz zz zz zz zz h=>bw h,fun zz zz zz zz zz zz zz h=>bw h,fun zz zz zz zz zz zz zz zz zz h=>bw h,fun zz zz zz zz zz zz zz zz zz zz zz zz h=>bw h⟩
noncomputable def Fr.lv(Γ:Fr)(L:Rr)(cl:Str→List PV→CM PV):Fr:={ Γ with L:=L,cl:=cl }
noncomputable def bf.lv{Γ:Fr}{ρ:bg}(σ:bf Γ ρ)(L:Rr)(cl:Str→List PV→CM PV):bf (Γ.lv L cl) ρ:=⟨σ.s,σ.as,σ.H,σ.inv,σ.st,σ.fm,σ.fO⟩
noncomputable def bf.vl{Γ:Fr}{ρ:bg}(σ:bf (Γ.lv L cl) ρ):bf Γ ρ:=⟨σ.s,σ.as,σ.H,σ.inv,σ.st,σ.fm,σ.fO⟩
theorem Out.vl{Γ:Fr}{ρ:bg}{l:List PV}{m:List Value}{r:PV×CH}{v:Value}{s:Shared}(o:Out (Γ.lv L cl) ρ l m r v s):Out Γ ρ l m r v s:=Out.el (Γ:=Γ.lv L cl) (Q:=fun v s=>Out Γ ρ l m r v s) (fun v τ e x=>Out.mk (Γ:=Γ) v τ.vl e x) o
theorem OE(O:Kw W n L)(OW:Bn W)(OC:Bf W n cl):Kw W n (QG W.P cl L) where
 ev:=fun{Γ} B hW hn ρ σ x r h=>by
  subst hW hn
  exact abr (RM (Γ:=Γ.lv L cl) ⟨⟨B.fx,B.rm⟩,OW,O,OC⟩ (σ.lv L cl) h) (fun zz zz o=>o.vl) fun zz zz e=>e
 Be:=fun{Γ} B hW hn ρ σ x r h=>by
  subst hW hn
  exact abr (PU (Γ:=Γ.lv L cl) ⟨⟨B.fx,B.rm⟩,OW,O,OC⟩ (σ.lv L cl) h) (fun zz zz o=>by induction o with | mk τ e x=>exact .mk τ.vl e x) fun zz zz e=>e
 ex:=fun{Γ} B hW hn hF ρ σ x K r h=>by
  subst hW hn
  exact abr (RN (Γ:=Γ.lv L cl) ⟨⟨⟨B.fx,B.rm⟩,OW,O,OC⟩,hF⟩ (σ.lv L cl) h) (fun zz zz z=>sK.el (Γ:=Γ.lv L cl) (Q:=fun f s=>sK Γ K r f s) (fun ρ τ e=>sK.next (Γ:=Γ) ρ τ.vl e) (fun ρ v s o=>.ret ρ v s o.vl) z) fun zz zz e=>e
 cmp:=fun{Γ} B hW hn ρ σ elt gens fK pos r use Q h hD=>by
  subst hW hn
  exact Ok.comp (Γ:=Γ.lv L cl) ⟨⟨B.fx,B.rm⟩,OW,O,OC⟩ (σ.lv L cl) h fun C a τ D=>hD C a τ.vl ⟨D.e,D.val,D.ns,D.no,D.new⟩
theorem UC(OW:Bn W)(OC:Bf W n cl):∀k,Kw W n (YT W.P cl k)
 | 0=>XG
 | k+1=>OE (UC OW OC k) OW OC
end
theorem yA(ps:List Str)(vs:List PV):∀names:List (Str×ac0),(No ps vs names).length=names.length
 | []=>rfl
 | _::r=>congrArg (·+1) (yA ps vs r)
theorem Q1(ps:List Str)(vs:List PV){x:Str}{k:ac0}:∀{names:List (Str×ac0)},look x names=some k→(No ps vs names)[idx x names]?=some (look x (ps.zip vs))
 | (y,d)::r,h=>by
  dsimp only[look]at h
  unfold No
  rw[show idx x ((y,d)::r)=match qM x y with | true=>0 | false=>idx x r+1 from rfl]
  generalize q:qM x y=zq;induction zq with
  | true=>rw[(gg _ _).mp q];rfl
  | false=>rw[q]at h;exact Q1 ps vs h
theorem Hj{ko:Str→Option ac0}{x:Str}:∀{bs:List (Str×Value)} {m:Str→Option Value},x∉bs.map (·.1)→bindL ko bs m x=m x
 | [],_,_=>rfl
 | (y,v)::r,m,h=>by
  rw[ab6,aa2]at h
  unfold bindL
  rewrite[Hj fun q=>h (.inr q)]
  split
  ·exact if_neg fun e=>h (.inl e)
  ·rfl
theorem Hi{ko:Str→Option ac0}{x:Str}:∀{bs:List (Str×Value)} {m:Str→Option Value},x∉bs.map (·.1)→bindC ko bs m x=m x
 | [],_,_=>rfl
 | (y,v)::r,m,h=>by
  rw[ab6,aa2]at h
  unfold bindC
  rewrite[Hi fun q=>h (.inr q)]
  split
  ·rfl
  ·exact if_neg fun e=>h (.inl e)
theorem E5{α:Type}:∀{ps:List Str} {vs:List α},vs.length=ps.length→(ps.zip vs).map (·.1)=ps
 | [],_,_=>rfl
 | p::ps,v::vs,h=>congrArg (p::·) (E5 (aeO h))
theorem Hk{h:Heap}{as:List Slot}{ko:Str→Option ac0}{x:Str}{p:PV}:∀{ps:List Str} {qs:List PV} {vs:List Value} {m cm:Str→Option Value},ps.Nodup→ay (VR h as) qs vs→qs.length=ps.length→look x (ps.zip qs)=some p →
  ∃v,VR h as p v∧(ko x=some .local→bindL ko (ps.zip vs) m x=some v)∧(ko x≠some .local→bindC ko (ps.zip vs) cm x=some v)
 | y::ps,q::qs,v::t,m,cm,nd,V,l,e=>by
  rw[aga]at e ⊢
  have nd:=abU.mp nd
  dsimp only[look]at e
  have tl:t.length=ps.length:=V.2.len.trans (aeO l)
  generalize c:qM x y=zq;induction zq with
  | true =>
   rw[c]at e
   replace e:=zI e;subst e
   obtain rfl:=(gg _ _).mp c
   have out:x∉(ps.zip t).map (·.1):=by rw[E5 tl];exact nd.1
   refine⟨v,V.1,fun hl=>?_,fun hl=>?_⟩
   ·unfold bindL;rw[Hj out,if_pos hl,if_pos rfl]
   ·unfold bindC;rw[Hi out,if_neg hl,if_pos rfl]
  | false =>
   rw[c]at e
   exact Hk nd.2 V.2 (aeO l) e
theorem ke{x:Str}:∀{names:List (Str×ac0)} {n:Nat} {acc:List (Str×Addr)},((∃c,acc.lookup x=some c)∨(x,ac0.cell)∈names)→∃c,(cellsFrom n names acc).lookup x=some c
 | [],n,acc,h=>h.elim id fun h=>zM h
 | (y,k)::r,n,acc,h=>by
  unfold cellsFrom
  split
  ·rename_i hk
   refine ke (h.elim (fun⟨c,h⟩=>.inl ?_) fun h=>(aa2.mp h).elim (fun e=>.inl ?_) .inr)
   ·rw[adA]
    split
    ·exact⟨_,rfl⟩
    ·exact⟨c,h⟩
   ·cases e
    rw[adA];rw[beq_self_eq_true];exact⟨_,rfl⟩
  ·rename_i hk
   exact ke (h.imp_right fun h=>(aa2.mp h).elim (fun e=>by cases e;exact absurd rfl hk) id)
section
variable{W:Wd}{A:Around}{E:Value→Shared→Prop}{s:Shared}{as:List Slot}{H H':CH}{n:Nat}
theorem TR{r:la}{f:Addr}(F:WL W r f){fd:FuncData}(Xr:fd.scope=r.scope)(hgl:fd.globals=adk)(YK:fd.builtins=builtinsNs){ps:List PV}{vs:List Value}(hl:ps.length=r.params.length)(V:ay (VR s.heap as) ps vs)(I:Inv W s.heap as H){dm:Shared}
  (x:InCallC s (aeQ fd s.heap.objs.size f).locals (bindL (aeQ fd s.heap.objs.size f).kindOf (r.params.zip vs) fun zz=>none) (aeQ fd s.heap.objs.size f).cells (bindC (aeQ fd s.heap.objs.size f).kindOf (r.params.zip vs) fun zz=>none) dm) :
  Fx W (aeQ fd s.heap.objs.size f) r.scope∧Fd (aeQ fd s.heap.objs.size f) r.scope dm.heap as (No r.params ps r.scope.names)∧∀b,Fe (aeQ fd s.heap.objs.size f) b→s.heap.get? b=none:=by
 have ko:∀y,(aeQ fd s.heap.objs.size f).kindOf y=r.scope.names.lookup y:=fun y=>by
  show fd.scope.names.lookup y=_
  rw[Xr];rfl
 have above:∀y c,(aeQ fd s.heap.objs.size f).cells.lookup y=some c→s.heap.objs.size<c:=fun y c e=>x.above y c (mem_of_lookup e)
 have noB:∀b,Fe (aeQ fd s.heap.objs.size f) b→s.heap.get? b=none:=fun b hb=>abQ.mpr fun o e=>absurd (ad0 e) (aep.mpr (hb.elim (fun e=>adT e.symm) (by rintro⟨y,hy⟩;exact ag5 (above y b hy))))
 have adw:=VR.pK (Kept.grow (W:=W) (as:=as) x.toInCall.keep).go V
 have val:∀y k p,look y r.scope.names=some k→(No r.params ps r.scope.names)[idx y r.scope.names]?=some (some p)→∃v,VR dm.heap as p v∧(r.scope.names.lookup y=some .local→bindL (aeQ fd s.heap.objs.size f).kindOf (r.params.zip vs) (fun zz=>none) y=some v)∧(r.scope.names.lookup y≠some .local→bindC (aeQ fd s.heap.objs.size f).kindOf (r.params.zip vs) (fun zz=>none) y=some v):=fun y k p e1 e2=>by
  rw[Q1 r.params ps e1]at e2
  rewrite[← ko]
  exact Hk F.sL adw hl (aa0 e2)
 refine⟨⟨hgl,YK,by show fd.scope.kind=_;rw[Xr];exact F.kind,fun y e=>by rw[ko];rw[gM e];rfl,fun y k e hk=>?_,fun y e=>by rw[ko];rw[gM e];rfl,fun y k e=>F.dbg (y,k) (gU e),fun b hb=>I.top (noB b hb),fun y c e=>Nat.ne_of_gt (above y c e),fun y z c e1 e2=>name_of_addr x.apart (mem_of_lookup e1) (mem_of_lookup e2)⟩,
  ⟨yA _ _ _,⟨_,x.toInCall.ns,fun y p e1 e2=>(by obtain⟨v,h1,h2,zz⟩:=val y _ p e1 e2;exact⟨v,h2 (gM e1),h1⟩)⟩,fun y c e=>⟨_,x.cell y c e,fun p k e1 hk e2=>(by obtain⟨v,h1,zz,h3⟩:=val y k p e1 e2;exact⟨v,h3 (by rw[gM e1];rcases hk with rfl | rfl <;> exact fun h=>zC ac0.ctorIdx (aa0 h) rfl),h1⟩)⟩,fun b hb=>I.free (noB b hb)⟩,noB⟩
 have hc:k=.cell:=by
  rcases F.free (y,k) (gU e)with h | h | h
  ·rcases hk with h' | h' <;> rw[h']at h <;> cases h
  ·exact h
  ·rcases hk with h' | h' <;> rw[h']at h <;> cases h
 subst hc
 refine⟨by rw[ko];rw[gM e];rfl,?_⟩
 show ∃c,(cellsFrom (s.heap.objs.size+1) fd.scope.names []).lookup y=some c
 rw[Xr]
 exact ke (.inr (gU e))
theorem Qd(OW:Bn W):∀n,Bf W n (ka W.P n)
 | 0=>fun zz e=>bw e
 | n+1=>by
  intro R e hf I S V
  rename_i k ps H q s as vs f A
  have ih:Bf W n (ka W.P n):=Qd OW n
  obtain⟨r,hr,F⟩:=OW.fns k f hf
  unfold ka at e
  rw[hr]at e
  obtain⟨hl,e⟩:=bq e
  have hl:=abX hl
  obtain⟨o,fd,ho,hd,abJ,Xr,ad8,hgl,YK,ZM,abH⟩:=F.obj
  have X:=OW.kin.keeps I.keep
  obtain⟨pr,loose,mg,mb,T⟩:=OW.top
  have hvl:vs.length=r.params.length:=V.len.trans hl.symm
  refine codeAny_call_function (o:=o) (fd:=fd) (body:=r.body) (by have:=R.2.1;lia) (X f o ho) hd (by rw[Xr];exact F.co) (by rw[Xr];exact F.gen) abJ (codeRec_of X ZM) (abH s vs X hvl _ _ _ _ ?_)
  rw[ad8]
  refine wpAny_newFunctionEnv_cells (by rw[Xr];exact F.kind) (fun b hb=>?_) fun env he dm x=>?_
  ·have hb1:b.1∈r.params:=by
    have:=ae4 (f:=(·.1)) hb
    rwa [E5 hvl]at this
   rw[Xr]
   rcases F.par _ hb1 with h | h
   ·exact .inl (gM h)
   ·exact .inr ⟨gM h,(by obtain⟨c,h⟩:=ke (n:=s.heap.objs.size+1) (acc:=[]) (.inr (gU h));exact by rw[h];rfl)⟩
  ·subst he
   refine⟨(T.keeps I.keep).nolimit.keeps x.toInCall.keep,codeAny_func ?_⟩
   have kp:=x.toInCall.keep
   obtain⟨fx,fdy,noB⟩:=TR F Xr hgl YK hl.symm V I x
   obtain⟨oy,tk,hs⟩:=x.toInCall.same
   let Γ:Fr:=⟨W,n,A.deeper (aeQ fd s.heap.objs.size f),fun zz zz=>False,aeQ fd s.heap.objs.size f,r.scope,s.heap,as,Fe (aeQ fd s.heap.objs.size f),YT W.P (ka W.P n) 40,ka W.P n⟩
   have K:=Kept.grow (W:=W) (as:=as) kp
   let σ:bf Γ (No r.params ps r.scope.names):=⟨dm,as,H,K.inv I,by rw[hs];exact S,fdy,K.fO fc.refl fun zz f=>f.elim⟩
   have rm:Rm n Γ.A:=⟨R.1,by
    show A.depth+1+2*n+2≤_
    have:=R.2.1;lia,by
    show A.units+3+16*n+40<_
    have:=R.2.2;lia⟩
   have C:lJ Γ:=⟨⟨⟨fx,rm⟩,OW,UC OW ih 40,ih⟩,fun zz h=>h⟩
   have out:∀{hZ:bg} (τ:bf Γ hZ),fc gF s.heap as τ.s.heap τ.as:=fun τ=>fc.refl.Kp τ.fO fun b hb=>.inr (noB b hb)
   refine abr (C.exs (K:=fun zz=>ret PV.none) (r:=q) σ e) (fun fl s' z=>?_) fun zz zz h=>h.elim
   induction z with
   | next hZ τ e =>
    cases di e
    exact .mk .none τ.s τ.as τ.inv τ.st (out τ) rfl
   | ret hZ v s' o=>exact Out.el (Γ:=Γ) (Q:=fun v s'=>Back W s as q (.ok (.ret v)) s') (fun v τ e x=>.mk v τ.s τ.as (e▸τ.inv) τ.st (out τ) x.1) o
end
end
end Mine.Sim
namespace Mine.Sim
open PySem PySem.W PyProof.Rows PySem.Calls
theorem dv{a b:Bool}(h:(a&&b)=true):a=true:=(abL.mp h).1
theorem de{a b:Bool}(h:(a&&b)=true):b=true:=(abL.mp h).2
theorem iL{α:Type}{f:Str×α→Bool}{l:List (Str×α)}(h:l.all f=true){x:Str}{v:α}(e:look x l=some v):f (x,v)=true:=adM.mp h _ (gU e)
theorem Lx{α β:Type}{f g:Str×α→β}{l:List (Str×α)}(h:l.map f=l.map g){x:Str}{v:α}(e:look x l=some v):f (x,v)=g (x,v):=List.map_inj_left.mp h _ (gU e)
theorem vT:∀{l:List Str},IX l=true→l.Nodup
 | [],_=>List.nodup_nil
 | a::r,h=>abU.mpr ⟨fun m=>by
   have z:=dv h
   rw[show r.any (qM a)=true from afT.mpr ⟨a,m,sY a⟩]at z
   exact abS z,vT (de h)⟩
theorem P8{α β:Type}{R:α→β→Prop}{f:α→β→Bool}(k:∀a b,f a b=true→R a b):∀{l:List α} {m:List β},all2 f l m=true→ay R l m:=fun{l}=>by
 induction l with
 | nil=>intro m h;induction m with
  | nil=>trivial
  | cons _ _=>exact fS h
 | cons a l ih=>intro m h;induction m with
  | nil=>exact fS h
  | cons b m=>exact⟨k _ _ (dv h),ih (de h)⟩
theorem Bc{v:Value}{a:Addr}(h:SH v=some a):v=.ref a:=by
 induction v with
 | ref b=>exact congrArg _ (aa0 h)
 | _=>exact bw h
theorem Ot{i:Int}{v:Value}(h:isI i v=true):∃t,v=.int i t:=by
 induction v with
 | int j t=>exact⟨t,by rewrite[beq_iff_eq.mp h];rfl⟩
 | _=>exact absurd h abS
theorem ZU{i:Str}{v:Value}(h:isS i v=true):∃t,v=.str i t:=by
 induction v with
 | str j t=>exact⟨t,by rewrite[beq_iff_eq.mp h];rfl⟩
 | _=>exact absurd h abS
theorem iT{α:Type}{o:Option α}{f:α→Bool}(h:o.any f=true):∃a,o=some a∧f a=true:=by
 induction o with
 | none=>exact absurd h abS
 | some a=>exact⟨a,rfl,h⟩
theorem NT{α:Type}{c:Bool}{a:α}{o:Option α}(h:(bif c then o else none)=some a):c=true∧o=some a:=by
 induction c with
 | false=>exact bw h
 | true=>exact⟨rfl,h⟩
theorem Re{o:Option Obj}{l:List Value}(h:aaB o=some l):∃d vs n sl,o=some ⟨.type "tuple",d,.seq vs n,sl⟩∧vs.toList=l:=by
 induction o with
 | none=>exact bw h
 | some o =>
  obtain⟨c,d,dt,sl⟩:=o
  induction dt with
  | seq vs n =>
   have ⟨h1,h2⟩:=NT h
   exact⟨d,vs,n,sl,by rw[beq_iff_eq.mp h1];rfl,aa0 h2⟩
  | _=>exact bw h
theorem ZH{o:Option Obj}{fd:FuncData}(h:fnD o=some fd):∃c d sl,o=some ⟨c,d,.func fd,sl⟩:=by
 induction o with
 | none=>exact bw h
 | some o =>
  obtain⟨c,d,dt,sl⟩:=o
  induction dt with
  | func g=>exact⟨c,d,sl,by rewrite[aa0 h];rfl⟩
  | _=>exact bw h
theorem R8{a:Arguments}(h:UU a=true):∃kd df,a=⟨[],a.args,none,[],kd,none,df⟩:=by
 obtain⟨po,as,va,ko,kd,kw,df⟩:=a
 obtain rfl:po=[]:=afS.mp (dv h)
 obtain rfl:va=none:=afE.mp (dv (de h))
 obtain rfl:ko=[]:=afS.mp (dv (de (de h)))
 obtain rfl:kw=none:=afE.mp (de (de (de h)))
 exact⟨kd,df,rfl⟩
theorem Co{b:Bool}(h:(!b)=true):b=false:=by cases b <;> first | rfl | exact absurd h abS
theorem QO{a b:Bool}(h:(a || b)=true):a=true∨b=true:=ahg.mp h
section
variable{K:Frag}{h:Heap}{as:List Slot}{fT:Addr}
theorem Wx(X:K.In h)(z:as[0]?=some (fT,fT)):∀(n:Nat) (p:PV) (v:Value),vrB K fT n p v=true→VR h as p v
 | 0,_,_,e=>absurd e abS
 | n+1,p,v,e=>by
  induction p using PV.casesOn with
  | int i=>exact Ot e
  | str x=>exact ZU e
  | ref k =>
   obtain⟨a,h1,h2⟩:=iT (de e)
   rewrite[abX (dv e)];rw[Bc h1];rewrite[← abX h2]
   exact⟨_,z,rfl⟩
  | tup l =>
   obtain⟨a,h1,h2⟩:=iT e
   obtain⟨vs,h3,h4⟩:=iT h2
   obtain⟨d,ws,m,sl,h5,rfl⟩:=Re h3
   exact⟨a,ws,Bc h1,⟨_,X _ _ h5,rfl,_,rfl⟩,E7.all▸P8 (Wx X z n) h4⟩
  | _=>exact absurd e abS
theorem Q4{W:Wd}{r:la}{f:Addr}(e:HW W.K (some f)=some (H5 r))(g:fnB r=true):WL W r f:=by
 obtain⟨fd,h1,h2⟩:=aem.mp (show(fnD (W.K.lookup f)).map _=_ from e)
 obtain⟨c,d,sl,ho⟩:=ZH h1
 have h3:=afv h2
 have e2:=afv h3.2
 have e3:=afv e2.2
 have q1:=de h3.1;have q2:=de q1;have q3:=de q2;have q4:=de q3
 have g1:=de g;have g2:=de g1;have g3:=de g2;have g4:=de g3;have g5:=de g4
 have al:=adM.mp (de g5)
 obtain⟨kd,df,pa⟩:=R8 (dv q4)
 have nd:=vT (dv g4)
 refine⟨by unfold keepIn;dsimp only;rw[ho];rfl,⟨_,fd,ho,rfl,e2.1,e3.1,afS.mp (dv q2),abX (dv h3.1),abX (dv q1),dv q3,fun s vals X hl=>?_⟩,
  Co (dv g),Co (dv g1),beq_iff_eq.mp (dv g2),fun x hx=>(QO (adM.mp (dv g3) x hx)).imp beq_iff_eq.mp beq_iff_eq.mp,nd,vT (dv g5),fun p hp=>Co (dv (al p hp)),fun p hp=>(QO (de (al p hp))).imp beq_iff_eq.mp fun h=>(QO h).imp beq_iff_eq.mp beq_iff_eq.mp⟩
 rw[← e3.2]at hl nd ⊢
 refine Tw pa hl ((QO (de q4)).imp beq_iff_eq.mp fun h=>?_) nd
 obtain⟨T,t1,t2⟩:=iT h
 obtain⟨l,t3⟩:=acW.mp t2
 obtain⟨zz,ws,m,zz,t4,zz⟩:=Re t3
 exact⟨T,_,ws,m,Bc t1,X _ _ t4,rfl⟩
end
theorem aaz:iV.all (fun p=>fnB p.2)=true:=by kernel_rfl!
theorem Z4:UE.all (fun p=>(look p.1 vC).any fnB)=true:=by kernel_rfl!
theorem Zs:Bq.all (fun p=>af9 p.1 == some (WY p.2)&&!(p.1 == ("__name__" : Str)))=true:=by kernel_rfl!
theorem aal:af9 (Str.ofString "range")=some (.type "range"):=by kernel_rfl!
theorem Qs{K:Frag}{x:Str}{a:Addr}(e:yT K x=some a):nsIn K adk x=some (some (.ref a)):=by
 obtain⟨o,h1,h2⟩:=aeb.mp e
 obtain⟨v,rfl,h3⟩:=aeb.mp h2
 rw[h1];rw[Bc h3];rfl
noncomputable def wd(w:World)(fA dm:Shared):Wd:=⟨PySem.Challenge.pw_sa0406_01,w,tF fA.heap,dm.heap,dm,ai,W4 (tF fA.heap),Xj (tF fA.heap),yR (tF fA.heap)⟩
section
variable{w:World}{fA dm:Shared}(y:HX (tF fA.heap)=E3)
include y
theorem Wz{x:Str}{r:la}(q:look x iV=some r):HW (tF fA.heap) (yT (tF fA.heap) x)=some (H5 r):=Lx (f:=fun p=>HW (tF fA.heap) (yT (tF fA.heap) p.1)) (g:=fun p=>some (H5 p.2)) (congrArg (fun x=>x.2.1) y) q
theorem aaM{k:Str}{f:Addr}(e:Xj (tF fA.heap) k=some f):∃r,ai.fn k=some r∧WL (wd w fA dm) r f:=by
 unfold Xj at e
 generalize q:look k iV=zq;induction zq with
 | some r =>
  rw[q]at e
  exact⟨r,by show(match look k iV with | some r=>some r | none=>look k vC)=some r;rw[q];rfl,Q4 (e▸Wz y q) (iL aaz q)⟩
 | none =>
  rw[q]at e
  obtain⟨p,q2,e⟩:=aeb.mp (show(look k UE).bind _=_ from e)
  have h:=Lx (f:=fun p=>HW (tF fA.heap) (Z7 (tF fA.heap) p.2.1 p.2.2)) (g:=fun p=>(look p.1 vC).map H5) (congrArg (fun x=>x.2.2) y) q2
  obtain⟨r,z,g⟩:=iT (iL Z4 q2)
  dsimp only at h z
  rw[e,z]at h
  exact⟨r,by show(match look k iV with | some r=>some r | none=>look k vC)=some r;rw[q];rw[z];rfl,Q4 h g⟩
end
end Mine.Sim
namespace Mine.Sim
open PySem PySem.W PyProof.Rows PySem.Calls
theorem Lz{x:Str}:∀{l:List Str},isIn x l=true→x∈l
 | y::r,h=>by
  dsimp only[isIn]at h
  generalize q:qM x y=zq;induction zq with
  | true=>rw[(gg x y).mp q];exact .head _
  | false=>rw[q]at h;exact .tail _ (Lz h)
theorem IL{x:Str}{k:Kind}(e:ai.kind x=some k):(∃b,look x Bq=some b∧k=.blt b)∨(∃i,look x om=some i∧k=.cls)∨∃r,look x iV=some r∧k=.fn:=by
 have e:(match look x Bq with
  | some b=>some (Kind.blt b)
  | none=>match look x om with
   | some zz=>some .cls
   | none=>match look x iV with
    | some zz=>some .fn
    | none=>none)=some k:=e
 split at e
 ·replace e:=zI e;subst e;exact .inl ⟨_,‹_›,rfl⟩
 ·split at e
  ·replace e:=zI e;subst e;exact .inr (.inl ⟨_,‹_›,rfl⟩)
  ·split at e
   ·replace e:=zI e;subst e;exact .inr (.inr ⟨_,‹_›,rfl⟩)
   ·exact du e
section
variable{w:World}{fA dm:Shared}(y:HX (tF fA.heap)=E3)
include y
omit y in
theorem Za{K:Frag}{C:Addr}{m k:Str}(e:Z3 K C m k=true):∃f,Xj K k=some f∧findIn K (.ref C) m=some (some (.ref f))∧typeIn K (.ref f)=some (.type "function") :=
 (iT e).imp fun zz h=>⟨h.1,beq_iff_eq.mp (dv h.2),beq_iff_eq.mp (de h.2)⟩
omit y in
theorem Wy{K:Frag}{c:Str}{i:Option Str}{C:Addr}(hi:look c om=some i)(e:abk K c i=true)(hC:yT K c=some C):Yx ⟨PySem.Challenge.pw_sa0406_01,w,K,dm.heap,dm,ai,W4 K,Xj K,yR K⟩ c C∧keepIn K (.ref C)=true:=by
 obtain⟨zz,h,e⟩:=iT e
 obtain rfl:=aa0 (hC.symm.trans h)
 have e1:=de e;have e2:=de e1;have e3:=de e2;have e4:=de e3;have e5:=de e4;have e6:=de e5;have e7:=de e6;have e8:=de e7
 refine⟨⟨iT (dv e),beq_iff_eq.mp (dv e1),beq_iff_eq.mp (dv e2),beq_iff_eq.mp (dv e3),dv e4,fun a ha=>beq_iff_eq.mp (adM.mp (dv e5) a (Lz ha)),fun m k hm=>?_,fun zz zz=>dv e7,fun k hk=>?_,fun hk=>?_⟩,dv e8⟩
 ·obtain⟨l,h1,h2⟩:=aeb.mp hm
  have z:=dv e6
  rw[h1]at z
  exact Za (iL z h2)
 ·obtain rfl:=aa0 (hi.symm.trans hk)
  exact Za (de e8)
 ·obtain rfl:=aa0 (hi.symm.trans hk)
  exact beq_iff_eq.mp (de e8)
theorem acF(X:(tF fA.heap).In dm.heap)(T:∃p loose mg mb,TopRead p loose mg mb dm.heap):Bn (wd w fA dm):=by
 have t:aay (tF fA.heap)=true:=congrArg (fun x=>x.1) y
 have t1:=de t;have t2:=de t1;have t3:=de t2
 refine⟨X,T,fun x p e=>?_,fun c C e=>?_,fun k f e=>aaM y e,fun x e=>?_,fun x e=>?_,fun x b e=>?_,beq_iff_eq.mp (dv t3),aal⟩
 ·obtain⟨o,q,h⟩:=iT (iL (dv t) e)
  obtain⟨v,rfl,h⟩:=iT h
  exact⟨v,q,fun h' as H z=>Wx (X.keeps H) z _ _ _ h⟩
 ·have e:(bif (look c om).isSome then yT (tF fA.heap) c else none)=some C:=e
  obtain⟨h,hC⟩:=NT e
  obtain⟨i,hi⟩:=acW.mp h
  exact(Wy (w:=w) (dm:=dm) hi (iL (dv t1) hi) hC).1
 ·obtain⟨zz,zz,h⟩ | ⟨zz,zz,h⟩ | ⟨r,q,zz⟩:=IL e
  ·cases h
  ·cases h
  ·obtain⟨f,z,zz⟩:=aeb.mp (show(yT (tF fA.heap) x).bind _=_ from Wz y q)
   exact⟨f,by show Xj _ x=_;unfold Xj;rw[q];exact z,Qs z⟩
 ·obtain⟨zz,zz,h⟩ | ⟨i,q,zz⟩ | ⟨zz,zz,h⟩:=IL e
  ·cases h
  ·have b:=iL (dv t1) q
   obtain⟨C,z,zz⟩:=iT b
   exact⟨C,by show W4 _ x=_;unfold W4;rw[q];exact z,Qs z,(Wy (w:=w) (dm:=dm) q b z).2⟩
  ·cases h
 ·obtain⟨b',q,h⟩ | ⟨zz,zz,h⟩ | ⟨zz,zz,h⟩:=IL e
  ·cases h
   have h:=iL Zs q
   exact⟨beq_iff_eq.mp (iL (dv t2) q),beq_iff_eq.mp (dv h),fun n=>by have:=Co (de h);rw[n]at this;exact rr this⟩
  ·cases h
  ·cases h
end
end Mine.Sim
namespace Mine
open PySem
noncomputable def LV(s:Stmt):Str×List Stmt×List Stmt×Expr:=match s with
 | .For x i b o _=>(((Cm x).map (·.1)).getD (S ""),b,o,i)
 | .While t b o _=>(S "",b,o,t)
 | .If t a b _=>(S "",a,b,t)
 | _=>(S "",[],[],default)
noncomputable def blk:List (Nat×Nat)→List Stmt→List Stmt
 | [],b=>b
 | p::r,b=>match b[p.1]? with
  | some s=>blk r (bif ael p.2 0 then(LV s).2.1 else(LV s).2.2.1)
  | none=>[]
section
variable(cl:Str→List PV→CM PV)(f:String)(p:List (Nat×Nat))(i:Nat)
noncomputable def fnR:la:=(ai.fn (S f)).getD ⟨[],default,[]⟩
noncomputable def aar:Stmt:=((blk p (fnR f).body)[i]?).getD default
noncomputable def EZ(v:PV)(ρ:bg)(k:bg→CM PV):CM PV:=lm (YT ai cl (39-p.length)) (fnR f).scope (LV (aar f p i)).2.1 (gc (fnR f).scope ρ (LV (aar f p i)).1 v) k
noncomputable def wtr(ρ:bg)(k:bg→CM PV):CM PV:=lm (YT ai cl (39-p.length)) (fnR f).scope (LV (aar f p i)).2.1 ρ k
noncomputable def SP(k:bg→CM PV)(ρ:bg):CM PV:=lm (YT ai cl (40-p.length)) (fnR f).scope ((blk p (fnR f).body).drop i) ρ k
end
noncomputable def yI:bg→CM PV:=fun zz=>ret .none
noncomputable section
section
variable(b:Str→List PV→CM PV)(a d f e c p n l:PV)(k:Meth)
def Gr:CM PV:=aj b k a [.tup [.int 10,c]]
def Gu:CM PV:=aa (au ai a (S "put")) (Gr b a c)
def Gv:CM PV:=gC l (Gu b a c)
def Gw:CM PV:=aa (aa (ar a (S "names")) fun g=>aa (au ai g (S "append")) fun m=>aj b m g [d]) (Gv b a c)
def Gx:CM PV:=gC n (Gw b a d c)
def Gy:CM PV:=aa (aa (ar a (S "defaults")) fun h=>aa (au ai h (S "append")) fun o=>aj b o h [e]) (Gx b a d c)
def Gz:CM PV:=gC p (Gy b a d e c)
def GA:CM PV:=aa (aa (ar a (S "bounds")) fun i=>aa (au ai i (S "append")) fun q=>aj b q i [f]) (Gz b a d e c)
def GB:CM PV:=aa (aa (aa (ar a (S "bounds")) fun r=>ret [r]) fun s=>blt .len s) (GA b a d f e)
theorem Iv(j:Nat)(a d f e:PV):Φ (j+1) (S "new_param") [a,d,f,e]=(GB (Φ j) a d f e):=by rw[bo];kernel_rfl!
end
section
variable(b a c:PV)(d g:Bool)
def uu:CM PV:=af d (getItem c (.int 1)) (ret (.tup [a]))
def uv:CM PV:=aa (aa (getItem c (.int 0)) fun e=>ae .Eq e (.int 6)) (uu a c)
def uw:CM PV:=aa (aa (ar b (S "rows")) fun f=>getItem f a) (uv a)
def ux:CM PV:=af g (ret (.tup [])) (uw b a)
def uy:CM PV:=aa (ae .Eq a (.int 2)) (ux b a)
theorem ow(h:Nat)(b a:PV):Φ (h+1) (S "parts_of") [b,a]=(uy b a):=by rw[bo];kernel_rfl!
end
section
variable(c:Bool)(a:PV)(h:Bool)(b:PV)(i j:Bool)
def xE:CM PV:=af c (ret (.int 6)) (ret (.int 7))
def xF:CM PV:=aa (aa (aa (aa (getItem a (.int 3)) fun d=>aa (aa bc fun e=>ret [e]) fun f=>ret (d::f)) fun n=>bc) fun g=>truth g) xE
def xG:CM PV:=af h (xF a) (ret (.int (-1)))
def xH:CM PV:=aa (ae .Eq b (.int 5)) (xG a)
def xI:CM PV:=af i (ret (.int 7)) (xH a b)
def xJ:CM PV:=aa (ae .Eq b (.int 4)) (xI a b)
def xK:CM PV:=af j (ret (.int 6)) (xJ a b)
def xL:CM PV:=aa (aa (ae .Eq b (.int 3)) fun k=>af k (ret true) (aa (ae .Eq b (.int 18)) fun l=>af l (ret true) (ret false))) (xK a b)
def xM:CM PV:=aa (getItem a (.int 0)) (xL a)
theorem yP(m:Nat)(a:PV):Φ (m+1) (S "whole_of_row") [a]=(xM a):=by rw[bo];kernel_rfl!
end
section
variable(a:Str→List PV→CM PV)(c b d:PV)(g:Meth)(j:Bool)(e:PV)
def wN:CM PV:=aa (aa (aa (slice b none (some (.int (-1))) none) fun h=>binop .Add h (.tup [.int 0])) fun i=>ret [i,.int (-1)]) (aj a g d)
def wO:CM PV:=aa (au ai d (S "get")) (wN a b d)
def wP:CM PV:=aa (ar c (S "index")) (wO a b)
def wQ:CM PV:=af j (wP a c b) (ret (.int (-1)))
def wR:CM PV:=aa (aa (aa (getItem b (.int 0)) fun k=>ae .In k (G "MARKED_ROWS")) fun l=>af l (aa (aa (getItem b (.int (-1))) fun m=>ae .Eq m (.int 1)) fun n=>af n (ret true) (ret false)) (ret false)) (wQ a c b)
def wS:CM PV:=aa (aa (ar c (S "rows")) fun o=>getItem o e) (wR a c)
theorem yL(f:Nat)(c e:PV):Φ (f+1) (S "regular_twin") [c,e]=(wS (Φ f) c e):=by rw[bo];kernel_rfl!
end
section
variable(a:PV)(b:Bool)
def Dl(j:Unit):CM PV:=ret .none
def Dm(a:PV)(k:Unit):CM PV:=aa (setItem a (.int 9) (.int 1)) Dl
def Dn:CM PV:=aa (setItem a (.int 8) (.int 1)) (Dm a)
def Do:CM PV:=af b (Dn a) (ret .none)
def Dp:CM PV:=aa (aa (aa (ae .In (.int 8) a) fun c=>af c (ret true) (aa (ae .In (.int 14) a) fun d=>af d (ret true) (ret false))) fun e=>af e (aa (aa (ae .In (.int 9) a) fun f=>af f (ret true) (aa (ae .In (.int 15) a) fun g=>af g (ret true) (ret false))) fun h=>af h (ret true) (ret false)) (ret false)) (Do a)
theorem Fg(i:Nat)(a:PV):Φ (i+1) (S "join_bools") [a]=(Dp a):=by rw[bo];kernel_rfl!
end
section
variable(f:Bool)(d:Str→List PV→CM PV)(b a g c:PV)(k:Bool)
def xh:CM PV:=ret (.bool f)
def xi:CM PV:=aa (ae .NotIn g a) xh
def xj:CM PV:=aa (aa (aa (aa (ar b (S "rows")) fun h=>getItem h c) fun i=>ret [i]) fun j=>d (S "whole_of_row") j) (xi a)
def xk:CM PV:=af k (ret (.bool false)) (xj d b a c)
def xl:CM PV:=aa (aa (d (S "regular_twin") [b,c]) fun l=>ae .In l a) (xk d b a c)
theorem yN(e:Nat)(b a c:PV):Φ (e+1) (S "stays_beside") [b,a,c]=(xl (Φ e) b a c):=by rw[bo];kernel_rfl!
end
section
variable(a b:PV)(c:bg)(d:bg→CM PV)(f:Option PV→CM PV)(g:Bool)(e:It)(j:Nat)(k m:Option PV)
def Pk:CM PV:=af g (ret b) (f (some b))
def Ew:CM PV:=aa (aa (dc (c.set 1 (some b)) 1) fun h=>aa (dc (c.set 1 (some b)) 0) fun i=>ae .In h i) fun g=>af g (dc (c.set 1 (some b)) 1) (d (c.set 1 (some b)))
def Pl:CM PV:=aa (ae .In b a) (Pk b f)
def Pm(o:bg):CM PV:=ret (.int (-1))
def Pn:CM PV:=ek e Ew j 0 [some a,none,none,none,none] Pm
def Po:CM PV:=aa (bj e) (Pn a e)
def Pp:CM PV:=aa (da (.tup [.int 0,.int 13,.int 1])) (Po a)
theorem mC:Ew b [some a,k,none,none,none] d=Pl a b (fun l=>d [some a,l,none,none,none]):=by kernel_rfl!
theorem RJ(n:Nat)(a:PV):Φ (n+1) (S "top_of") [a]=(Pp a):=by rw[bo];kernel_rfl!
end
section
variable(b:Str→List PV→CM PV)(g:bg→CM PV)(a e:PV)(b4 b2 b0:Bool)(a5:Meth)(d c:PV)(o:It)(c1:Nat)(n:PV)(c0:Bool)(b9 t f:PV)(s:Option PV→Option PV→CM PV)(l:Option PV)(h:PV)(q:bg)(k:bg→CM PV)(c2:Option PV)(p:Option PV→CM PV)(z:bg)(c4 c5:Option PV)
def Sx(h:PV)(p:Option PV→CM PV)(w:Unit):CM PV:=p (some h)
def HP:CM PV:=aa (dc (q.set 4 (some h)) 2) fun x=>aa (dc (q.set 4 (some h)) 4) fun y=>aa (setItem x y (.int 1)) fun w=>k (q.set 4 (some h))
def Sy:CM PV:=aa (setItem c h (.int 1)) (Sx h p)
def HQ:CM PV:=g z
def Sz:CM PV:=s (some f) l
def SA(a:PV)(d:PV)(c:PV)(i:Option PV)(f:PV)(g:bg→CM PV)(m:It)(a0:Nat):CM PV:=ek m HP a0 0 [some a,some d,some c,some f,i,none,none,none,none,none,none,none,none,none,none,none,none] (HQ g)
def SB(a:PV)(d:PV)(c:PV)(i:Option PV)(f:PV)(g:bg→CM PV)(m:It):CM PV:=aa (bj m) (SA a d c i f g m)
def xw:=EZ b "union" [] 1
def SC(b:Str→List PV→CM PV)(a:PV)(d:PV)(c:PV)(i:Option PV)(g:bg→CM PV)(f:PV)(s:Option PV→Option PV→CM PV):CM PV:=aa (aa (b (S "parts_of") (a::[f])) fun a1=>da a1) (SB a d c i f g)
def SD:CM (List PV):=aa (aa (aa (b (S "stays_beside") (a::[c,t])) fun a2=>truth a2) fun a3=>af a3 (ret true) (ret false)) fun a4=>af a4 (ret [t]) (ret [])
def Pq:CM PV:=aa (aa (aa (aa (aa (blt .tuple [e]) fun a6=>ret [a6]) fun a7=>ret ((.int 6)::a7)) fun a8=>gB a8) fun a9=>ret [a9]) (aj b a5 a)
def Pr:CM PV:=aa (au ai a (S "put")) (Pq b a e)
def Ps:CM PV:=af b0 bc (Pr b a e)
def Pt:CM PV:=aa (aa (blt .len [e]) fun b1=>ae .Gt b1 (.int 400)) (Ps b a e)
def Pu:CM PV:=af b2 (getItem e (.int 0)) (Pt b a e)
def Pv:CM PV:=aa (aa (blt .len [e]) fun b3=>ae .Eq b3 (.int 1)) (Pu b a e)
def Pw:CM PV:=af b4 (ret (.int 2)) (Pv b a e)
def Ex:CM PV:=aa (aa (truth e) fun b5=>ret (!b5)) (Pw b a e)
def Px:CM PV:=aa (aa (aa (blt .sorted [c]) fun b6=>da b6) fun u=>aa (bj u) fun b7=>aa (av u (SD b a c) b7 0) fun b8=>cw b8) (Ex b a)
def Py:CM PV:=gC b9 (Px b a c)
def Pz:CM PV:=aa (b (S "join_bools") [c]) (Py b a c)
def PA:CM PV:=af c0 (ret n) (Pz b a c)
def PB:CM PV:=aa (ae .GtE n (.int 0)) (PA b a c n)
def sv:=SP b "union" [] 2 yI
def Ey:CM PV:=aa (b (S "top_of") [c]) (PB b a c)
def Ez:CM PV:=ek o (xw b) c1 0 [some a,some d,some c,none,none,none,none,none,none,none,none,none,none,none,none,none,none] (sv b)
def PD:CM PV:=aa (bj o) (Ez b a d c o)
def PE:CM PV:=aa (da d) (PD b a d c)
def PF:CM PV:=aa (new (.dict [])) (PE b a d)
theorem Nd:HP h [some a,some d,some c,some f,c2,none,none,none,none,none,none,none,none,none,none,none,none] k=Sy c h (fun j=>k [some a,some d,some c,some f,j,none,none,none,none,none,none,none,none,none,none,none,none]):=by kernel_rfl!
theorem Nf:HQ g [some a,some d,some c,some f,l,none,none,none,none,none,none,none,none,none,none,none,none]=Sz f (fun r j=>g [some a,some d,some c,r,j,none,none,none,none,none,none,none,none,none,none,none,none]) l:=by kernel_rfl!
theorem Ng(b:Str→List PV→CM PV)(a:PV)(d:PV)(c:PV)(f:PV)(g:bg→CM PV)(c3:Option PV)(i:Option PV):xw b f [some a,some d,some c,c3,i,none,none,none,none,none,none,none,none,none,none,none,none] g=SC b a d c i g f (fun r j=>g [some a,some d,some c,r,j,none,none,none,none,none,none,none,none,none,none,none,none]):=by kernel_rfl!
theorem Ka:sv b [some a,some d,some c,c4,c5,none,none,none,none,none,none,none,none,none,none,none,none]=Ey b a c:=by kernel_rfl!
theorem TV(v:Nat)(a d:PV):Φ (v+1) (S "union") [a,d]=(PF (Φ v) a d):=by rw[bo];kernel_rfl!
end
section
variable(c:Bool)(d a b:PV)
def oV:CM PV:=ret (.bool c)
def oW:CM PV:=aa (ae .In d (G "LITERAL_ROWS")) oV
def oX:CM PV:=aa (aa (aa (ar a (S "rows")) fun e=>getItem e b) fun f=>getItem f (.int 0)) oW
theorem Ff(g:Nat)(a b:PV):Φ (g+1) (S "is_literal") [a,b]=(oX a b):=by rw[bo];kernel_rfl!
end
section
variable(c:Str→List PV→CM PV)(b a d:PV)(g:Bool)(e:PV)(i:Bool)
def yr:CM PV:=af g (ret d) (c (S "is_literal") [b,a])
def ys:CM PV:=aa (truth d) (yr c b a d)
def yt:CM PV:=aa (aa (ae .Eq a (.int 5)) fun h=>ret (.bool h)) (ys c b a)
def yu:CM PV:=af i (ret e) (yt c b a)
def yv:CM PV:=aa (truth e) (yu c b a e)
def yw:CM PV:=aa (aa (ae .Eq a (.int 4)) fun j=>ret (.bool j)) (yv c b a)
theorem N8(f:Nat)(b a:PV):Φ (f+1) (S "is_unit") [b,a]=(yw (Φ f) b a):=by rw[bo];kernel_rfl!
end
section
variable(e:Bool)(f a b:PV)(g:Bool)(c d:PV)
def mo:CM PV:=ret (.bool e)
def mq:CM PV:=aa (ae .Eq f (.int 1)) mo
def mr:CM PV:=aa (getItem a (.int (-1))) mq
def ms:CM PV:=af g (mr a) (ret b)
def mw:CM PV:=aa (truth b) (ms a b)
def mx:CM PV:=aa (aa (getItem a (.int 0)) fun h=>aa (ae .In h (G "MARKED_ROWS")) fun i=>ret (.bool i)) (mw a)
def my:CM PV:=aa (aa (ar c (S "rows")) fun j=>getItem j d) mx
theorem KW(k:Nat)(c d:PV):Φ (k+1) (S "is_fresh") [c,d]=(my c d):=by rw[bo];kernel_rfl!
end
section
variable(c:Str→List PV→CM PV)(a b:PV)(e:Meth)(j:Bool)
def mZ:CM PV:=aa (aa (aa (aa (aa (ar a (S "rows")) fun f=>getItem f b) fun g=>slice g none (some (.int (-1))) none) fun h=>binop .Add h (.tup [.int 0])) fun i=>ret [i]) (aj c e a)
def ng:CM PV:=aa (au ai a (S "put")) (mZ c a b)
def nh:CM PV:=af j (ng c a b) (ret b)
def ni:CM PV:=aa (aa (c (S "is_fresh") [a,b]) fun k=>truth k) (nh c a b)
theorem BK(d:Nat)(a b:PV):Φ (d+1) (S "regular_one") [a,b]=(ni (Φ d) a b):=by rw[bo];kernel_rfl!
end
section
variable(a:Str→List PV→CM PV)(i:List PV)(b e:PV)(h:Meth)(c:PV)(l:List PV)(o:Bool)(f:PV)(p q:Bool)(d:PV)(r s t u:Bool)
def ON:CM PV:=aj a h (G "KEY_FAMILIES") [e,.int 0]
def OO:CM PV:=aa (au ai (G "KEY_FAMILIES") (S "get")) (ON a e)
def OP:CM PV:=a (S "common_family") i
def OQ:CM PV:=aa (aa (aa (getItem c (.int 1)) fun j=>ret [j]) fun k=>ret (b::k)) (OP a)
def OR:CM PV:=a (S "meet_family") l
def OS:CM PV:=aa (aa (aa (getItem c (.int 1)) fun m=>ret [m]) fun n=>ret (b::n)) (OR a)
def OT:CM PV:=af o (ret (.int 1)) (ret (.int 2))
def OU:CM PV:=af p (ret (.int 0)) (aa (ae .Eq f (.int 6)) OT)
def OV:CM PV:=aa (ae .Lt f (.int 0)) (OU f)
def OX:CM PV:=aa (a (S "whole_of_row") [c]) OV
def Mb:CM PV:=af q (OS a b c) (OX a c)
def Mc:CM PV:=aa (ae .Eq d (.int 7)) (Mb a b c)
def Md:CM PV:=af r (OQ a b c) (Mc a b c d)
def Me:CM PV:=aa (ae .Eq d (.int 6)) (Md a b c d)
def Mf:CM PV:=af s (ret (.int 7)) (Me a b c d)
def Mg:CM PV:=aa (ae .In d (G "OBJECT_ROWS")) (Mf a b c d)
def Mh:CM PV:=af t (ret (.int 3)) (Mg a b c d)
def Mi:CM PV:=aa (ae .Eq d (.int 2)) (Mh a b c d)
def Mj:CM PV:=af u (OO a e) (Mi a b c d)
def Mk:CM PV:=aa (ae .Eq d (.int 1)) (Mj a b e c d)
def kA:CM PV:=aa (getItem c (.int 0)) (Mk a b e c)
def Ml:CM PV:=aa (aa (ar b (S "rows")) fun v=>getItem v e) (kA a b e)
theorem RH(g:Nat)(b e:PV):Φ (g+1) (S "family") [b,e]=(Ml (Φ g) b e):=by rw[bo];kernel_rfl!
end
section
variable(d:Bool)(a b:PV)(e:Bool)(c:PV)(g:Bool)
end
section
variable(b:Str→List PV→CM PV)(a f d c e g:PV)
def xc:CM (List PV):=aa (aa (aa (ae .In g e) fun k=>ret (.bool k)) fun h=>aa (truth h) fun l=>af l (aa (aa (aa (getItem c g) fun m=>aa (aa (getItem e g) fun n=>ret [n]) fun o=>ret (m::o)) fun p=>ret (a::p)) fun q=>b (S "units_clash") q) (ret h)) fun r=>ret [r]
def xe:CM PV:=aa (aa (aa (aa (blt .sorted [c]) fun s=>da s) fun i=>aa (bj i) fun t=>aa (av i (xc b a c e) t 0) fun u=>cw u) fun v=>ret [v]) (blt .any)
def xf:CM PV:=aa (b (S "flat_props") [a,d]) (xe b a c)
def xg:CM PV:=aa (b (S "flat_props") [a,f]) (xf b a d)
theorem yM(j:Nat)(a f d:PV):Φ (j+1) (S "shapes_clash") [a,f,d]=(xg (Φ j) a f d):=by rw[bo];kernel_rfl!
end
section
variable(f:Str→List PV→CM PV)(f4 f6:bg)(i:bg→CM PV)(e2:bg)(c d a n:PV)(x:bg)(z:bg→CM PV)(r:Option PV→CM PV)(b7:Bool)(b6 e d3 b:PV)(a4:Option PV→Option PV→Option PV→Option PV→Option PV→Option PV→CM PV)(h g:PV)(p a8:Option PV)(v:PV)(c0:bg→CM PV)(g0:Option PV)(b9:Option PV→CM PV)(e0 l:PV)(o a5:Option PV)(u:PV)(b5:bg→CM PV)(f8:Option PV)(b4:Option PV→CM PV)(c8:PV)(d0:bg)(m:PV)(w:bg)(y:bg→CM PV)(q:Option PV→CM PV)(b2:Bool)(b1:PV)(g5 g6 g7 g8 g9 h0 h1 h2 h3 h4 h5 h6:Option PV)
def zA:=wtr f "flat_props" [] 3
def zB:CM Bool:=aa (dc f4 4) fun f5=>truth f5
def zD:CM PV:=dc f6 2
def zE:CM PV:=fC zB (zA f) iF [some c,some d,some a,some e,some b,none,none,none,none,none,none,none,none,none] zD
def zF:CM PV:=aa (new (.list [d])) (zE f c d a e)
def zG:CM PV:=aa (new (.dict [])) (zF f c d a)
def zH:CM PV:=aa (new (.dict [])) (zG f c d)
theorem Fa(c1:Nat)(c d:PV):Φ (c1+1) (S "flat_props") [c,d]=(zH (Φ c1) c d):=by rw[bo];kernel_rfl!
end
section
variable(h:Bool)(d:Str→List PV→CM PV)(c b a:PV)(n k s:Bool)(e f:PV)
def mR:CM PV:=af h (ret (.int 1)) (ret (.int 3))
def mS:CM PV:=aa (aa (ae .Eq a (.int 6)) fun i=>af i (ret true) (aa (ae .Eq a (.int 7)) fun j=>af j (ret true) (ret false))) mR
def mT:CM PV:=af k (ret (.int 2)) (mS a)
def mU:CM PV:=aa (aa (ae .Eq b (.int 6)) fun l=>af l (ret true) (aa (ae .Eq b (.int 7)) fun m=>af m (ret true) (ret false))) (mT a)
def mV:CM PV:=af n (ret (.int 0)) (mU b a)
def mW:CM PV:=aa (aa (aa (d (S "is_unit") [c,b]) fun o=>truth o) fun p=>af p (aa (aa (d (S "is_unit") [c,a]) fun q=>truth q) fun r=>af r (ret true) (ret false)) (ret false)) (mV b a)
def mX:CM PV:=af s (ret (.int 0)) (mW d c b a)
def mY:CM PV:=aa (ae .NotEq e f) (mX d c b a)
theorem BI(g:Nat)(c b a e f:PV):Φ (g+1) (S "meet_values") [c,b,a,e,f]=(mY (Φ g) c b a e f):=by rw[bo];kernel_rfl!
end
section
variable(h k:Bool)(d:Str→List PV→CM PV)(c a b:PV)(m:Bool)(e f:PV)(n o:Bool)
def ii:CM PV:=af h (ret (.int 0)) (ret (.int 3))
def ij:CM PV:=aa (aa (ae .Eq a (.int 10)) fun i=>af i (ret true) (aa (ae .Eq b (.int 10)) fun j=>af j (ret true) (ret false))) ii
def il:CM PV:=af k (ret (.int 0)) (ret (.int 3))
def im:CM PV:=aa (aa (d (S "shapes_clash") [c,a,b]) fun l=>truth l) il
def io:CM PV:=af m (ij a b) (im d c a b)
def iu:CM PV:=aa (ae .NotEq e f) (io d c a b)
def iw:CM PV:=af n (ret (.int 1)) (iu d c a b e f)
def iy:CM PV:=aa (ae .Eq b (.int 11)) (iw d c a b e f)
def iz:CM PV:=af o (ret (.int 2)) (iy d c a b e f)
def iA:CM PV:=aa (ae .Eq a (.int 11)) (iz d c a b e f)
theorem yK(g:Nat)(c a b e f:PV):Φ (g+1) (S "meet_objects") [c,a,b,e,f]=(iA (Φ g) c a b e f):=by rw[bo];kernel_rfl!
end
section
variable(c:Str→List PV→CM PV)(d a b e f:PV)(h k p s u:Bool)
def F7:CM PV:=c (S "meet_nullish") [a,b,e,f]
def qW:CM PV:=c (S "meet_objects") [d,a,b,e,f]
def qX:CM PV:=c (S "meet_values") [d,a,b,e,f]
def F8:CM PV:=af h (qW c d a b e f) (qX c d a b e f)
def F9:CM PV:=aa (aa (ae .Eq e (.int 7)) fun i=>af i (ret true) (aa (ae .Eq f (.int 7)) fun j=>af j (ret true) (ret false))) (F8 c d a b e f)
def Ga:CM PV:=af k (F7 c a b e f) (F9 c d a b e f)
def Gb:CM PV:=aa (aa (aa (c (S "is_nullish_family") [e]) fun l=>truth l) fun m=>af m (ret true) (aa (aa (c (S "is_nullish_family") [f]) fun n=>truth n) fun o=>af o (ret true) (ret false))) (Ga c d a b e f)
def Gc:CM PV:=af p (ret (.int 3)) (Gb c d a b e f)
def kS:CM PV:=aa (aa (ae .Eq e (.int 0)) fun q=>af q (ret true) (aa (ae .Eq f (.int 0)) fun r=>af r (ret true) (ret false))) (Gc c d a b e f)
def kT:CM PV:=aa (c (S "family") [d,b]) (kS c d a b e)
def jK:CM PV:=aa (c (S "family") [d,a]) (kT c d a b)
def DP:CM PV:=af s (ret (.int 2)) (jK c d a b)
def jL:CM PV:=aa (aa (c (S "regular_twin") [d,a]) fun t=>ae .Eq t b) (DP c d a b)
def pu:CM PV:=af u (ret (.int 1)) (jL c d a b)
def pv:CM PV:=aa (aa (ae .Eq a b) fun v=>af v (ret true) (aa (aa (c (S "regular_twin") [d,b]) fun w=>ae .Eq w a) fun x=>af x (ret true) (ret false))) (pu c d a b)
theorem Iu(g:Nat)(d a b:PV):Φ (g+1) (S "meet_case") [d,a,b]=(pv (Φ g) d a b):=by rw[bo];kernel_rfl!
end
section
variable(b:Str→List PV→CM PV)(h i f a j:PV)(x:Bool)(v c:PV)(l:bg→CM PV)(g:PV)(e:PV→Option PV→Option PV→CM PV)(d:PV)(p:Bool)(n:PV)(k:It)(z:Nat)(a0 a1 a5 a6:Option PV)
def Pa:CM PV:=gC n (e (.bool true) (some c) (some d))
def Pb:CM PV:=aa (aa (au ai a (S "append")) fun o=>aj b o a [c]) (Pa c e d)
def Pc:CM PV:=af p (Pb b a c e d) (e (.bool true) (some c) (some d))
def Pd:CM PV:=aa (ae .NotEq d (.int 2)) (Pc b a c e d)
def Pe(g:PV)(c:PV)(e:PV→Option PV→Option PV→CM PV)(d:PV)(q:PV):CM PV:=gC q (e g (some c) (some d))
def Pf(b:Str→List PV→CM PV)(a:PV)(g:PV)(c:PV)(e:PV→Option PV→Option PV→CM PV)(d:PV):CM PV:=aa (aa (au ai a (S "append")) fun r=>aj b r a [c]) (Pe g c e d)
def Pg(b:Str→List PV→CM PV)(a:PV)(g:PV)(c:PV)(e:PV→Option PV→Option PV→CM PV)(d:PV)(s:Bool):CM PV:=af s (Pf b a g c e d) (e g (some c) (some d))
def Ph(b:Str→List PV→CM PV)(a:PV)(g:PV)(c:PV)(e:PV→Option PV→Option PV→CM PV)(d:PV):CM PV:=aa (ae .NotEq d (.int 2)) (Pg b a g c e d)
def Pi(b:Str→List PV→CM PV)(a:PV)(g:PV)(c:PV)(e:PV→Option PV→Option PV→CM PV)(d:PV)(t:Bool):CM PV:=af t (Pd b a c e d) (Ph b a g c e d)
def Pj(b:Str→List PV→CM PV)(a:PV)(g:PV)(c:PV)(e:PV→Option PV→Option PV→CM PV)(d:PV):CM PV:=aa (ae .Eq d (.int 1)) (Pi b a g c e d)
def MR(b:Str→List PV→CM PV)(a:PV)(g:PV)(c:PV)(e:PV→Option PV→Option PV→CM PV)(d:PV)(u:Bool):CM PV:=af u (ret .none) (Pj b a g c e d)
def MS(b:Str→List PV→CM PV)(a:PV)(g:PV)(c:PV)(e:PV→Option PV→Option PV→CM PV)(d:PV):CM PV:=aa (ae .Eq d (.int 0)) (MR b a g c e d)
def ph:=EZ b "lay_on" [] 2
def MT(b:Str→List PV→CM PV)(h:PV)(f:PV)(a:PV)(g:PV)(c:PV)(e:PV→Option PV→Option PV→CM PV):CM PV:=aa (b (S "meet_case") (h::(c::[f]))) (MS b a g c e)
def MU:CM PV:=gC v (ret a)
def MV:CM PV:=aa (aa (au ai a (S "append")) fun w=>aj b w a [f]) (MU a)
def MW:CM PV:=af x (MV b f a) (ret a)
def pj:=SP b "lay_on" [] 3 yI
def MX:CM PV:=aa (aa (truth j) fun y=>ret (!y)) (MW b f a)
def yx:CM PV:=ek k (ph b) z 0 [some h,some i,some f,some a,some (.bool false),none,none,none,none,none,none] (pj b)
def MY:CM PV:=aa (bj k) (yx b h i f a k)
def MZ:CM PV:=aa (da i) (MY b h i f a)
def M0:CM PV:=aa (new (.list [])) (MZ b h i f)
theorem F5:ph b c [some h,some i,some f,some a,some g,a0,a1,none,none,none,none] l=MT b h f a g c (fun a2 a3 a4=>l [some h,some i,some f,some a,some a2,a3,a4,none,none,none,none]):=by kernel_rfl!
theorem F6:pj b [some h,some i,some f,some a,some j,a5,a6,none,none,none,none]=MX b f a j:=by kernel_rfl!
theorem RI(m:Nat)(h i f:PV):Φ (m+1) (S "lay_on") [h,i,f]=(M0 (Φ m) h i f):=by rw[bo];kernel_rfl!
end
section
variable(c:Str→List PV→CM PV)(b a:PV)(g:Bool)(d:PV)(i k:Bool)(l:PV)(t v x:Bool)
def fg:CM PV:=aa (aa (c (S "regular_one") [b,a]) fun f=>ret [f]) gB
def fh:CM PV:=af g (fg c b a) (ret (.tup [a]))
def fi:CM PV:=aa (aa (getItem d (.int 0)) fun h=>ae .Eq h (.int 8)) (fh c b a)
def fj:CM PV:=af i (getItem d (.int 1)) (fi c b a d)
def fo:CM PV:=aa (aa (getItem d (.int 0)) fun j=>ae .Eq j (.int 7)) (fj c b a d)
def fp:CM PV:=af k (ret (.tup [.int 11])) (fo c b a d)
def fq:CM PV:=aa (aa (ae .IsNot l .none) fun m=>af m (aa (aa bc fun n=>aa bc fun o=>ae .Eq n o) fun p=>af p (aa (aa bc fun q=>ae .Eq q (.int 11)) fun r=>af r (ret true) (ret false)) (ret false)) (ret false)) (fp c b a d)
def fr:CM PV:=aa (c (S "known_decl") [b,d]) (fq c b a d)
def fu:CM PV:=aa (aa (c (S "regular_one") [b,a]) fun s=>ret [s]) gB
def fw:CM PV:=af t (fu c b a) (ret (.tup [a]))
def eT:CM PV:=aa (aa (getItem d (.int 0)) fun u=>ae .Eq u (.int 8)) (fw c b a)
def eU:CM PV:=af v (getItem d (.int 1)) (eT c b a d)
def eV:CM PV:=aa (aa (getItem d (.int 0)) fun w=>ae .Eq w (.int 7)) (eU c b a d)
def eW:CM PV:=af x (fr c b a d) (eV c b a d)
def eX:CM PV:=aa (aa (getItem d (.int 0)) fun y=>ae .Eq y (.int 9)) (eW c b a d)
def eY:CM PV:=aa (aa (ar b (S "rows")) fun z=>getItem z a) (eX c b a)
theorem ju(e:Nat)(b a:PV):Φ (e+1) (S "members_of_meet") [b,a]=(eY (Φ e) b a):=by rw[bo];kernel_rfl!
end
section
variable(p:PV)(b:Str→List PV→CM PV)(a r c d h:PV)(k:It)(a4:Nat)(j f:PV)(g:Option PV→PV→CM PV)(i:PV)(q:Bool)(b2:Option PV)(e:PV)(a2:Bool)(t:Meth)
def DQ:CM (List PV):=ret [p]
def DR:CM PV:=af q (ret (.int 2)) (g (some f) i)
def DS:CM PV:=aa (ae .Is i .none) (DR f g i)
def jM:=EZ b "meet_parts" [] 1
def DT:CM PV:=aa (b (S "lay_on") (a::(j::[f]))) (DS f g)
def DU:CM (List PV):=aa (b (S "regular_one") [a,r]) fun s=>ret [s]
def DV:CM PV:=aa (aa (aa (aa (aa (aa (aa (aa (da e) fun m=>aa (bj m) fun u=>aa (av m (DU b a) u 0) fun v=>cw v) fun w=>ret [w]) fun x=>blt .tuple x) fun y=>ret [y]) fun z=>ret ((.int 7)::z)) fun a0=>gB a0) fun a1=>ret [a1]) (aj b t a)
def DW:CM PV:=aa (au ai a (S "put")) (DV b a e)
def DX:CM PV:=af a2 (getItem e (.int 0)) (DW b a e)
def jN:=SP b "meet_parts" [] 2 yI
def mQ:CM PV:=aa (aa (blt .len [e]) fun a3=>ae .Eq a3 (.int 1)) (DX b a e)
def Ad:CM PV:=ek k (jM b) a4 0 [some a,some c,some d,none,some h,none,none,none,none,none,none] (jN b)
def Ae:CM PV:=aa (bj k) (Ad b a c d h k)
def Af:CM PV:=aa (aa (b (S "members_of_meet") [a,d]) fun a5=>da a5) (Ae b a c d h)
def Ag:CM PV:=aa (aa (aa (b (S "members_of_meet") [a,c]) fun a6=>da a6) fun n=>aa (bj n) fun a7=>aa (av n DQ a7 0) fun a8=>cw a8) (Af b a c d)
theorem wG(b:Str→List PV→CM PV)(a:PV)(c:PV)(d:PV)(f:PV)(l:bg→CM PV)(a9:Option PV)(j:PV):jM b f [some a,some c,some d,a9,some j,none,none,none,none,none,none] l=DT b a j f (fun b0 b1=>l [some a,some c,some d,b0,some b1,none,none,none,none,none,none]):=by kernel_rfl!
theorem wH:jN b [some a,some c,some d,b2,some e,none,none,none,none,none,none]=mQ b a e:=by kernel_rfl!
theorem Fh(o:Nat)(a c d:PV):Φ (o+1) (S "meet_parts") [a,c,d]=(Ag (Φ o) a c d):=by rw[bo];kernel_rfl!
end
section
variable(b:Str→List PV→CM PV)(b1:List PV)(j:PV)(x:Option PV→Option PV→Option PV→CM PV)(r s:Option PV)(m:bg→CM PV)(a9:bg)(a d e:PV)(c5 c4:Bool)(c:PV)(c0:List PV)(g h f:PV)(u:It)(b4:Nat)(i:PV)(k:Option PV→Option PV→CM PV)(l:PV)(a8 a4 a0:Bool)(d1 d2 d3:Option PV)
def JF:CM PV:=af a0 bc (k (some i) (some l))
def JG(c:PV)(f:PV)(i:PV)(k:Option PV→Option PV→CM PV)(l:PV)(d4:Unit):CM PV:=aa (aa (truth f) fun a1=>af a1 (aa (aa (blt .len [c]) fun a2=>ae .Gt a2 (.int 200)) fun a3=>af a3 (ret true) (ret false)) (ret false)) (JF i k l)
def JH:CM PV:=aa (setItem c l (.int 1)) (JG c f i k l)
def JI:CM PV:=af a4 bc (k (some i) (some l))
def JJ:CM PV:=aa (aa (truth f) fun a5=>af a5 (aa (aa (blt .len [c]) fun a6=>ae .Gt a6 (.int 200)) fun a7=>af a7 (ret true) (ret false)) (ret false)) (JI i k l)
def JK:CM PV:=af a8 (JH c f i k l) (JJ c f i k l)
def JL:CM PV:=aa (ae .NotEq l (.int 2)) (JK c f i k l)
def jh:=EZ b "meet_two" [(5,0)] 0
def JM(b:Str→List PV→CM PV)(a:PV)(c:PV)(f:PV)(j:PV)(i:PV)(k:Option PV→Option PV→CM PV):CM PV:=aa (b (S "meet_parts") (a::(j::[i]))) (JL c f i k)
def ji:CM PV:=m a9
def Gd:CM PV:=x (some j) r s
def qY(b:Str→List PV→CM PV)(a:PV)(d:PV)(e:PV)(c:PV)(g:PV)(h:PV)(f:PV)(n:Option PV)(o:Option PV)(j:PV)(m:bg→CM PV)(t:It)(b0:Nat):CM PV:=ek t (jh b) b0 0 [some a,some d,some e,some c,some g,some h,some f,some j,n,o,none,none,none,none,none,none,none,none,none] (ji m)
def Ge(b:Str→List PV→CM PV)(a:PV)(d:PV)(e:PV)(c:PV)(g:PV)(h:PV)(f:PV)(n:Option PV)(o:Option PV)(j:PV)(m:bg→CM PV)(t:It):CM PV:=aa (bj t) (qY b a d e c g h f n o j m t)
def kU:=EZ b "meet_two" [] 5
def Gf(b:Str→List PV→CM PV)(a:PV)(d:PV)(e:PV)(c:PV)(g:PV)(h:PV)(f:PV)(n:Option PV)(o:Option PV)(m:bg→CM PV)(j:PV)(x:Option PV→Option PV→Option PV→CM PV):CM PV:=aa (da h) (Ge b a d e c g h f n o j m)
def Gg:CM PV:=b (S "union") b1
def kW:=SP b "meet_two" [] 6 yI
def qZ:CM PV:=aa (aa (aa (blt .sorted [c]) fun b2=>ret [b2]) fun b3=>ret (a::b3)) (Gg b)
def rg:CM PV:=ek u (kU b) b4 0 [some a,some d,some e,some c,some g,some h,some f,none,none,none,none,none,none,none,none,none,none,none,none] (kW b)
def Gh:CM PV:=aa (bj u) (rg b a d e c g h f u)
def Gi:CM PV:=aa (da g) (Gh b a d e c g h f)
def Gj:CM PV:=aa (aa (aa (blt .len [g]) fun b5=>aa (ae .Gt b5 (.int 1)) fun b6=>ret (.bool b6)) fun y=>aa (truth y) fun b7=>af b7 (aa (blt .len [h]) fun b8=>aa (ae .Gt b8 (.int 1)) fun b9=>ret (.bool b9)) (ret y)) (Gi b a d e c g h)
def Gk:CM PV:=two c0 (Gj b a d e c)
def Gl:CM PV:=aa (aa (b (S "parts_of") [a,d]) fun c1=>aa (aa (b (S "parts_of") [a,e]) fun c2=>ret [c2]) fun c3=>ret (c1::c3)) (Gk b a d e c)
def Gm:CM PV:=aa (new (.dict [])) (Gl b a d e)
def Gn:CM PV:=af c4 (ret e) (Gm b a d e)
def Go:CM PV:=aa (ae .Eq d (.int 1)) (Gn b a d e)
def Gp:CM PV:=af c5 (ret d) (Go b a d e)
def Gq:CM PV:=aa (aa (ae .Eq d e) fun c6=>af c6 (ret true) (aa (ae .Eq e (.int 1)) fun c7=>af c7 (ret true) (ret false))) (Gp b a d e)
theorem DY(b:Str→List PV→CM PV)(a:PV)(d:PV)(e:PV)(c:PV)(g:PV)(h:PV)(f:PV)(j:PV)(i:PV)(v:bg→CM PV)(c8:Option PV)(c9:Option PV):jh b i [some a,some d,some e,some c,some g,some h,some f,some j,c8,c9,none,none,none,none,none,none,none,none,none] v=JM b a c f j i (fun p q=>v [some a,some d,some e,some c,some g,some h,some f,some j,p,q,none,none,none,none,none,none,none,none,none]):=by kernel_rfl!
theorem DZ(m:bg→CM PV)(a:PV)(d:PV)(e:PV)(c:PV)(g:PV)(h:PV)(f:PV)(j:PV)(r:Option PV)(s:Option PV):ji m [some a,some d,some e,some c,some g,some h,some f,some j,r,s,none,none,none,none,none,none,none,none,none]=Gd j (fun w p q=>m [some a,some d,some e,some c,some g,some h,some f,w,p,q,none,none,none,none,none,none,none,none,none]) r s:=by kernel_rfl!
theorem Ah(b:Str→List PV→CM PV)(a:PV)(d:PV)(e:PV)(c:PV)(g:PV)(h:PV)(f:PV)(j:PV)(m:bg→CM PV)(d0:Option PV)(n:Option PV)(o:Option PV):kU b j [some a,some d,some e,some c,some g,some h,some f,d0,n,o,none,none,none,none,none,none,none,none,none] m=Gf b a d e c g h f n o m j (fun w p q=>m [some a,some d,some e,some c,some g,some h,some f,w,p,q,none,none,none,none,none,none,none,none,none]):=by kernel_rfl!
theorem Ai:kW b [some a,some d,some e,some c,some g,some h,some f,d1,d2,d3,none,none,none,none,none,none,none,none,none]=qZ b a c:=by kernel_rfl!
theorem K5(z:Nat)(a d e:PV):Φ (z+1) (S "meet_two") [a,d,e]=(Gq (Φ z) a d e):=by rw[bo];kernel_rfl!
end
section
variable(c:Str→List PV→CM PV)(b a e:PV)(i:bg)(j:bg→CM PV)(n:Option PV→CM PV)(o:Bool)(a1:bg)(f:Option PV)(k d:PV)(p:bg→CM PV)(g:PV)(h:PV→Option PV→CM PV)(t:PV)(l:It)(a2:Nat)(m:It)(a4:Nat)(a5 a7 b0:Option PV)
def Sa:CM PV:=af o (ret e) (n (some e))
def HI:CM PV:=aa (aa (dc (i.set 2 (some e)) 2) fun r=>aa (dc (i.set 2 (some e)) 1) fun s=>ae .In r s) fun o=>af o (dc (i.set 2 (some e)) 2) (j (i.set 2 (some e)))
def Sb:CM PV:=aa (ae .In e a) (Sa e n)
def Sc:CM PV:=h t (some d)
def Sd(c:Str→List PV→CM PV)(b:PV)(a:PV)(g:PV)(d:PV)(h:PV→Option PV→CM PV):CM PV:=aa (aa (aa (aa (aa (getItem a d) fun u=>ret [u]) fun v=>ret (g::v)) fun w=>ret (b::w)) fun x=>c (S "meet_two") x) (Sc d h)
def Se(c:Str→List PV→CM PV)(b:PV)(a:PV)(g:PV)(d:PV)(h:PV→Option PV→CM PV)(y:Bool):CM PV:=af y (Sd c b a g d h) (h g (some d))
def pQ:=EZ c "inter" [] 2
def Sf(c:Str→List PV→CM PV)(b:PV)(a:PV)(g:PV)(d:PV)(h:PV→Option PV→CM PV):CM PV:=aa (aa (getItem a d) fun z=>aa (slice a none (some d) none) fun a0=>ae .NotIn z a0) (Se c b a g d h)
def pR:CM PV:=dc a1 3
def Sg:CM PV:=ret k
def OY:CM PV:=ek l (pQ c) a2 0 [some b,some a,f,some (.int 1),none,none,none,none,none,none,none,none] pR
def OZ:CM PV:=aa (bj l) (OY c b a f l)
def Dj:=SP c "inter" [] 1 yI
def O0:CM PV:=aa (aa (blt .len [a]) fun a3=>gj a3) (OZ c b a f)
def Dk:CM PV:=ek m HI a4 0 [some b,some a,none,none,none,none,none,none,none,none,none,none] (Dj c)
def O1:CM PV:=aa (bj m) (Dk c b a m)
def O2:CM PV:=aa (da (.tup [.int 2,.int 0,.int 13])) (O1 c b a)
theorem oU:HI e [some b,some a,a5,none,none,none,none,none,none,none,none,none] j=Sb a e (fun a6=>j [some b,some a,a6,none,none,none,none,none,none,none,none,none]):=by kernel_rfl!
theorem Mm:pQ c d [some b,some a,f,some g,a7,none,none,none,none,none,none,none] p=Sf c b a g d (fun a8 a9=>p [some b,some a,f,some a8,a9,none,none,none,none,none,none,none]):=by kernel_rfl!
theorem Mn:pR [some b,some a,f,some k,b0,none,none,none,none,none,none,none]=Sg k:=by kernel_rfl!
theorem Jj:Dj c [some b,some a,f,none,none,none,none,none,none,none,none,none]=O0 c b a f:=by kernel_rfl!
theorem TU(q:Nat)(b a:PV):Φ (q+1) (S "inter") [b,a]=(O2 (Φ q) b a):=by rw[bo];kernel_rfl!
end
section
variable(d:Str→List PV→CM PV)(a g b c e f:PV)(k:Bool)(j:Meth)
def L0:CM PV:=aj d j e [a,b,c]
def L1:CM PV:=aa (au ai e (S "holds")) (L0 d a b c e)
def L2:CM PV:=af k (L1 d a b c e) (ret f)
def L3:CM PV:=aa (truth f) (L2 d a b c e f)
def L4:CM PV:=aa (aa (ae .IsNot e .none) fun l=>ret (.bool l)) (L3 d a b c e)
def L5:CM PV:=aa (aa (ar a (S "rules")) fun h=>aa (au ai h (S "get")) fun m=>aj d m h [g]) (L4 d a b c)
theorem rE(i:Nat)(a g b c:PV):Φ (i+1) (S "by_rule") [a,g,b,c]=(L5 (Φ i) a g b c):=by rw[bo];kernel_rfl!
end
section
variable(f:Str→List PV→CM PV)(b a e c:PV)
def AL(a:PV)(i:Unit):CM PV:=ret a
def AN(a:PV)(j:Unit):CM PV:=aa (ee ai.field a (S "telling") (.bool false)) (AL a)
def AO:CM PV:=aa (ee ai.field a (S "rules") e) (AN a)
def AP:CM PV:=aa (ar b (S "rules")) (AO a)
def AQ:CM PV:=aa (aa (aa (ar b (S "host")) fun g=>ret [g,c]) fun h=>jz f (S "Rel") h (some (some (S "Rel.__init__")))) (AP b)
theorem BL(d:Nat)(b c:PV):Φ (d+1) (S "silent_with") [b,c]=(AQ (Φ d) b c):=by rw[bo];kernel_rfl!
end
section
variable(b:Str→List PV→CM PV)(a d:PV)(e g:Bool)
def M6(a:PV)(i:Unit):CM PV:=ar a (S "twin")
def M7:CM PV:=aa (ee ai.field a (S "twin") d) (M6 a)
def M8:CM PV:=aa (b (S "silent_with") [a,.int 3]) (M7 a)
def M9:CM PV:=af e (M8 b a) (ar a (S "twin"))
def Na:CM PV:=aa (aa (ar a (S "twin")) fun f=>ae .Is f .none) (M9 b a)
def Nb:CM PV:=af g (ret a) (Na b a)
def Nc:CM PV:=aa (aa (ar a (S "mode")) fun h=>ae .Eq h (.int 3)) (Nb b a)
theorem Ob(c:Nat)(a:PV):Φ (c+1) (S "twin_of") [a]=(Nc (Φ c) a):=by rw[bo];kernel_rfl!
end
section
variable(c:Str→List PV→CM PV)(a:PV)(d:CM PV)(e o:PV)(m:bg)(b:PV)(f:bg→CM PV)(k s:PV)
def Jc(d:CM PV)(u:Unit):CM PV:=d
def Jd:CM PV:=aa (delItem e o) (Jc d)
def Je:CM PV:=aa (aa (ar a (S "trail")) fun l=>aa (au ai l (S "pop")) fun p=>aj c p l []) (Jd d e)
def me:=wtr c "cut_back" [] 1
def Jf:CM PV:=aa (ar a (S "assumed")) (Je c a d)
def je:CM Bool:=aa (aa (aa (aa (dc m 0) fun q=>ar q (S "trail")) fun g=>ret [g]) fun h=>blt .len h) fun i=>aa (aa (dc m 1) fun r=>getItem r (.int 1)) fun j=>ae .Gt i j
def Jg:CM Bool:=aa (aa (aa (ar a (S "trail")) fun g=>ret [g]) fun h=>blt .len h) fun i=>aa (getItem b (.int 1)) fun j=>ae .Gt i j
def mh(w:bg):CM PV:=ret .none
def Jh:CM PV:=ret .none
def Ji(c:Str→List PV→CM PV)(a:PV)(b:PV)(x:Unit):CM PV:=fC je (me c) iF [some a,some b,none] mh
def FK:CM PV:=aa (pH k s) (Ji c a b)
def FL:CM PV:=aa (getItem b (.int 0)) (FK c a b k)
def FM:CM PV:=aa (aa (ar a (S "notes")) fun t=>ar t (S "rows")) (FL c a b)
theorem C1:me c [some a,some b,none] f=Jf c a (f [some a,some b,none]):=by kernel_rfl!
theorem C2:je [some a,some b,none]=Jg a b:=by kernel_rfl!
theorem C3:mh [some a,some b,none]=Jh:=by kernel_rfl!
theorem KV(n:Nat)(a b:PV):Φ (n+1) (S "cut_back") [a,b]=(FM (Φ n) a b):=by rw[bo];kernel_rfl!
end
section
variable(b:Str→List PV→CM PV)(f:List PV)(a c:PV)(h:Bool)(d:PV)
def M1:CM PV:=b (S "regular_one") f
def M2:CM PV:=aa (aa (ar a (S "tab")) fun g=>ret [g,c]) (M1 b)
def M3:CM PV:=af h (M2 b a c) (ret c)
def M4:CM PV:=aa (aa (aa (aa (ar a (S "tab")) fun i=>ret [i,c]) fun j=>b (S "is_literal") j) fun k=>truth k) (M3 b a c)
def M5:CM PV:=aa (aa (au ai a (S "force")) fun l=>aj b l a [d]) (M4 b a)
theorem Oa(e:Nat)(a d:PV):Φ (e+1) (S "settled") [a,d]=(M5 (Φ e) a d):=by rw[bo];kernel_rfl!
end
section
variable(b:Str→List PV→CM PV)(a f e c d:PV)(a8 a6:Bool)(h:PV)(y:Bool)(i:PV)(w:Bool)(g:PV)(r k b3:Bool)
def Fs:CM PV:=af k (ret (.bool false)) (b (S "relbase_kept") [a,c,d])
def Ft:CM PV:=aa (aa (aa (aa (getItem g c) fun l=>getItem l (.int 0)) fun m=>ae .In m (G "VALUE_ROWS")) fun n=>af n (ret true) (aa (aa (aa (getItem g d) fun o=>getItem o (.int 0)) fun p=>ae .In p (G "VALUE_ROWS")) fun q=>af q (ret true) (ret false))) (Fs b a c d)
def Fu:CM PV:=af r (ret (.bool true)) (Ft b a c d g)
def Fv:CM PV:=aa (aa (ae .Eq c (.int 13)) fun s=>af s (ret true) (aa (ae .Eq d (.int 13)) fun t=>af t (ret true) (ret false))) (Fu b a c d g)
def Fw:CM PV:=aa (aa (aa (ar a (S "host")) fun u=>ar u (S "tab")) fun v=>ar v (S "rows")) (Fv b a c d)
def Fy:CM PV:=af w (b (S "relbase_kept") [a,c,d]) (ret i)
def Fz:CM PV:=aa (truth i) (Fy b a c d i)
def FA:CM PV:=aa (aa (ae .Lt h (.int 0)) fun x=>ret (.bool x)) (Fz b a c d)
def FB:CM PV:=af y (ret (.bool true)) (FA b a c d h)
def FC:CM PV:=aa (aa (ae .Eq h (.int 1)) fun z=>af z (ret true) (aa (aa (aa (ar a (S "mode")) fun a0=>ae .Eq a0 (.int 2)) fun a1=>af a1 (aa (ae .NotEq d (.int 2)) fun a2=>af a2 (aa (aa (b (S "simple_related") [a,d,c]) fun a3=>ae .Eq a3 (.int 1)) fun a4=>af a4 (ret true) (ret false)) (ret false)) (ret false)) fun a5=>af a5 (ret true) (ret false))) (FB b a c d h)
def CG:CM PV:=aa (b (S "simple_related") [a,c,d]) (FC b a c d)
def CI:CM PV:=af a6 (Fw b a c d) (CG b a c d)
def CJ:CM PV:=aa (aa (ar a (S "mode")) fun a7=>ae .Eq a7 (.int 3)) (CI b a c d)
def CK:CM PV:=af a8 (ret (.bool true)) (CJ b a c d)
def CL:CM PV:=aa (ae .Eq c d) (CK b a c d)
def CN:CM PV:=aa (aa (aa (ar a (S "host")) fun a9=>ret [a9,e]) fun b0=>b (S "settled") b0) (CL b a c)
def CP:CM PV:=aa (aa (aa (ar a (S "host")) fun b1=>ret [b1,f]) fun b2=>b (S "settled") b2) (CN b a e)
def CQ:CM PV:=af b3 (ret (.bool true)) (CP b a f e)
def CR:CM PV:=aa (ae .Eq f e) (CQ b a f e)
theorem jc(j:Nat)(a f e:PV):Φ (j+1) (S "ask_kinds") [a,f,e]=(CR (Φ j) a f e):=by rw[bo];kernel_rfl!
end
section
variable(j:PV)(d:Str→List PV→CM PV)(a b c i e f:PV)(o:Bool)(n t u:PV)(a4 a6:Bool)(a8 a9 b2 b3 b4 b6 b8 b9:PV)(c0 c5 d1 d3:Bool)
def wT:CM PV:=getItem i (.tup [b,c])
def wU:CM PV:=aa (ar a (S "known")) (wT b c)
def wV:CM PV:=gC j (ret (.bool true))
def wW:CM PV:=aa (aa (au ai a (S "note")) fun k=>aa (aa bc fun l=>ret [l]) fun m=>aj d k a m) wV
def wX(f:PV)(d5:Unit):CM PV:=ret f
def wY:CM PV:=aa (setItem n (.tup [b,c]) (.bool false)) (wX f)
def lD:CM PV:=aa (ar a (S "known")) (wY b c f)
def wZ:CM PV:=af o (lD a b c f) (ret f)
def xa:CM PV:=aa (aa (aa (getItem e (.int 1)) fun p=>ae .Eq p (.int 0)) fun q=>af q (ret true) (aa (aa (ar a (S "mode")) fun r=>ae .NotEq r (.int 4)) fun s=>af s (ret true) (ret false))) (wZ a b c f)
def xb:CM PV:=gC t (xa a b c e f)
def kB:CM PV:=aa (d (S "cut_back") [a,e]) (xb a b c e f)
def uz:CM PV:=gC u (ret f)
def uA:CM PV:=aa (aa (aa (aa (aa (aa (aa (aa (ar a (S "notes")) fun v=>ar v (S "rows")) fun w=>ret [w]) fun x=>blt .len x) fun y=>aa (aa (getItem e (.int 0)) fun z=>ae .Eq y z) fun a0=>ret (.bool a0)) fun a1=>ret [a1]) fun a2=>ret (a::a2)) fun a3=>d (S "close_trail") a3) (uz f)
def uB:CM PV:=af a4 (uA d a e f) (ret f)
def kC:CM PV:=aa (aa (getItem e (.int 1)) fun a5=>ae .Eq a5 (.int 0)) (uB d a e f)
def uC:CM PV:=af a6 (kB d a b c e f) (kC d a e f)
def uD(d:Str→List PV→CM PV)(a:PV)(b:PV)(c:PV)(e:PV)(f:PV)(d6:Unit):CM PV:=aa (aa (truth f) fun a7=>ret (!a7)) (uC d a b c e f)
def kD:CM PV:=aa (ee ai.field a (S "deep") a8) (uD d a b c e f)
def uE:CM PV:=aug .Sub a9 (.int 1) (kD d a b c e f)
def uF:CM PV:=aa (ar a (S "deep")) (uE d a b c e f)
def uG(d:Str→List PV→CM PV)(a:PV)(b:PV)(c:PV)(e:PV)(d7:Unit):CM PV:=aa (aa (aa (ar a (S "mode")) fun b0=>ae .Eq b0 (.int 3)) fun b1=>af b1 (d (S "same_kind") [a,b,c]) (d (S "structured") [a,b,c])) (uF d a b c e)
def uH:CM PV:=aa (ee ai.field a (S "deep") b2) (uG d a b c e)
def uI:CM PV:=aug .Add b3 (.int 1) (uH d a b c e)
def uJ:CM PV:=aa (ar a (S "deep")) (uI d a b c e)
def uK:CM PV:=gC b4 (uJ d a b c e)
def uL(d:Str→List PV→CM PV)(a:PV)(b:PV)(c:PV)(e:PV)(d8:Unit):CM PV:=aa (aa (ar a (S "trail")) fun g=>aa (au ai g (S "append")) fun b5=>aj d b5 g [.tup [b,c]]) (uK d a b c e)
def uM:CM PV:=aa (setItem b6 (.tup [b,c]) (.int 1)) (uL d a b c e)
def uO:CM PV:=aa (ar a (S "assumed")) (uM d a b c e)
def uP(d:Str→List PV→CM PV)(a:PV)(b:PV)(c:PV)(d9:Unit):CM PV:=aa (aa (au ai a (S "mark")) fun b7=>aj d b7 a []) (uO d a b c)
def uQ:CM PV:=aa (ee ai.field a (S "looks") b8) (uP d a b c)
def uR:CM PV:=aug .Add b9 (.int 1) (uQ d a b c)
def uS:CM PV:=aa (ar a (S "looks")) (uR d a b c)
def uT:CM PV:=af c0 (wW d a) (uS d a b c)
def uU:CM PV:=aa (aa (aa (ar a (S "deep")) fun c1=>ae .GtE c1 (.int 60)) fun c2=>af c2 (ret true) (aa (aa (ar a (S "looks")) fun c3=>ae .GtE c3 (.int 20000)) fun c4=>af c4 (ret true) (ret false))) (uT d a b c)
def uV:CM PV:=af c5 (ret (.bool false)) (uU d a b c)
def uW:CM PV:=aa (aa (aa (ar a (S "looks")) fun c6=>ae .GtE c6 (.int 20000)) fun c7=>af c7 (aa (aa (aa (d (S "tells") [a]) fun c8=>truth c8) fun c9=>ret (!c9)) fun d0=>af d0 (ret true) (ret false)) (ret false)) (uV d a b c)
def uX:CM PV:=af d1 (ret (.bool true)) (uW d a b c)
def uY:CM PV:=aa (aa (ar a (S "assumed")) fun d2=>ae .In (.tup [b,c]) d2) (uX d a b c)
def uZ:CM PV:=af d3 (wU a b c) (uY d a b c)
def vb:CM PV:=aa (aa (ar a (S "known")) fun d4=>ae .In (.tup [b,c]) d4) (uZ d a b c)
theorem mK(h:Nat)(a b c:PV):Φ (h+1) (S "relbase_kept") [a,b,c]=(vb (Φ h) a b c):=by rw[bo];kernel_rfl!
end
section
variable(a c b:PV)(d:Option PV→CM PV)(i:Bool)(h j:PV)(e:bg)(f:bg→CM PV)(k:PV)(t:bg)(g:It)(v:Nat)(x z:Option PV)
def zp(b:PV)(d:Option PV→CM PV)(l:Unit):CM PV:=d (some b)
def zr:CM PV:=aa (setItem h b (.bool true)) (zp b d)
def zs:CM PV:=aa (ar a (S "known")) (zr b d)
def zt:CM PV:=af i (zs a b d) (d (some b))
def zu(a:PV)(c:PV)(b:PV)(d:Option PV→CM PV)(m:Unit):CM PV:=aa (truth c) (zt a b d)
def zv:CM PV:=aa (delItem j b) (zu a c b d)
def iU:CM PV:=aa (aa (dc (e.set 2 (some b)) 0) fun n=>ar n (S "assumed")) fun j=>aa (dc (e.set 2 (some b)) 2) fun o=>aa (delItem j o) fun m=>aa (aa (dc (e.set 2 (some b)) 1) fun p=>truth p) fun i=>af i (aa (aa (dc (e.set 2 (some b)) 0) fun q=>ar q (S "known")) fun h=>aa (dc (e.set 2 (some b)) 2) fun r=>aa (setItem h r (.bool true)) fun l=>f (e.set 2 (some b))) (f (e.set 2 (some b)))
def zw:CM PV:=aa (ar a (S "assumed")) (zv a c b d)
def zx(s:Unit):CM PV:=ret .none
def zy:CM PV:=aa (ee ai.field a (S "trail") k) zx
def ig:CM PV:=aa (new (.list [])) fun k=>aa (dc t 0) fun u=>aa (ee ai.field u (S "trail") k) fun s=>ret .none
def lA:CM PV:=aa (new (.list [])) (zy a)
def we:CM PV:=ek g iU v 0 [some a,some c,none] ig
def wg:CM PV:=aa (bj g) (we a c g)
def wh:CM PV:=aa (aa (ar a (S "trail")) fun w=>da w) (wg a c)
theorem ub:iU b [some a,some c,x] f=zw a c b (fun y=>f [some a,some c,y]):=by kernel_rfl!
theorem rQ:ig [some a,some c,z]=lA a:=by kernel_rfl!
theorem BH(a0:Nat)(a c:PV):Φ (a0+1) (S "close_trail") [a,c]=(wh a c):=by rw[bo];kernel_rfl!
end
section
variable(c:Bool)(d a b:PV)(e:Bool)
end
section
variable(j:Bool)(d:Str→List PV→CM PV)(c a b:PV)(k l:Bool)(g e f:PV)(r q p:Bool)(h:PV)(y:Bool)
def rZ:CM PV:=af j (ret (.int 0)) (ret (.int (-1)))
def sd:CM PV:=aa (ae .In e (G "VALUE_ROWS")) rZ
def se:CM PV:=d (S "values_related") [c,a,b]
def sf:CM PV:=af k (se d c a b) (ret (.int 0))
def sg:CM PV:=aa (ae .In e (G "VALUE_ROWS")) (sf d c a b)
def si:CM PV:=af l (ret (.int 0)) (ret (.int (-1)))
def sj:CM PV:=aa (aa (ae .Eq a (.int 4)) fun m=>af m (ret true) (aa (ae .Eq a (.int 5)) fun n=>af n (ret true) (aa (ae .Eq a (.int 3)) fun o=>af o (ret true) (ret false)))) si
def sk:CM PV:=af p (sg d c a b e) (sj a)
def sn:CM PV:=aa (ae .In f (G "VALUE_ROWS")) (sk d c a b e)
def so:CM PV:=af q (sd e) (sn d c a b e f)
def qq:CM PV:=aa (ae .Eq b (.int 10)) (so d c a b e f)
def qr:CM PV:=af r (ret (.int (-1))) (qq d c a b e f)
def gz:CM PV:=aa (aa (ae .In e (G "OPEN_ROWS")) fun s=>af s (ret true) (aa (ae .In f (G "OPEN_ROWS")) fun t=>af t (ret true) (ret false))) (qr d c a b e f)
def qt:CM PV:=aa (aa (getItem g b) fun u=>getItem u (.int 0)) (gz d c a b e)
def qu:CM PV:=aa (aa (getItem g a) fun v=>getItem v (.int 0)) (qt d c a b g)
def qv:CM PV:=aa (aa (aa (ar c (S "host")) fun w=>ar w (S "tab")) fun x=>ar x (S "rows")) (qu d c a b)
def qw:CM PV:=af y (ret h) (qv d c a b)
def qx:CM PV:=aa (ae .GtE h (.int 0)) (qw d c a b h)
def qy:CM PV:=aa (d (S "tops_related") [c,a,b]) (qx d c a b)
theorem gQ(i:Nat)(c a b:PV):Φ (i+1) (S "simple_related") [c,a,b]=(qy (Φ i) c a b):=by rw[bo];kernel_rfl!
end
section
variable(f:PV)(d:Str→List PV→CM PV)(a:PV)(j k:Bool)(c b:PV)(s t u v z:Bool)
def xm:CM PV:=gC f (ret (.int 1))
def xn:CM PV:=aa (aa (au ai a (S "note")) fun g=>aa (aa bc fun h=>ret [h]) fun i=>aj d g a i) xm
def xo:CM PV:=af j (ret (.int 0)) (xn d a)
def xp:CM PV:=aa (ae .Eq b (.int 2)) (xo d a)
def xq:CM PV:=af k (ret (.int 0)) (ret (.int (-1)))
def xr:CM PV:=aa (aa (ae .Eq b (.int 2)) fun l=>af l (aa (aa (aa (aa (aa (aa (ar a (S "host")) fun m=>ar m (S "tab")) fun n=>ar n (S "rows")) fun o=>getItem o c) fun p=>getItem p (.int 0)) fun q=>ae .NotIn q (G "OPEN_ROWS")) fun r=>af r (ret true) (ret false)) (ret false)) xq
def xt:CM PV:=af s (d (S "unknown_told") [a,b]) (xr a c b)
def iB:CM PV:=aa (ae .Eq c (.int 1)) (xt d a c b)
def xu:CM PV:=af t (xp d a b) (iB d a c b)
def xv:CM PV:=aa (ae .Eq c (.int 0)) (xu d a c b)
def vg:CM PV:=af u (ret (.int 1)) (xv d a c b)
def vh:CM PV:=aa (ae .Eq b (.int 1)) (vg d a c b)
def kE:CM PV:=af v (ret (.int 0)) (vh d a c b)
def vi:CM PV:=aa (aa (ae .Eq c (.int 0)) fun w=>af w (aa (aa (ar a (S "mode")) fun x=>ae .Eq x (.int 4)) fun y=>af y (ret true) (ret false)) (ret false)) (kE d a c b)
def vj:CM PV:=af z (ret (.int 1)) (vi d a c b)
def vm:CM PV:=aa (aa (ae .Eq b (.int 0)) fun a0=>af a0 (ret true) (aa (ae .Eq b (.int 13)) fun a1=>af a1 (ret true) (aa (ae .Eq c (.int 2)) fun a2=>af a2 (ret true) (aa (ae .Eq c (.int 13)) fun a3=>af a3 (ret true) (ret false))))) (vj d a c b)
theorem mL(e:Nat)(a c b:PV):Φ (e+1) (S "tops_related") [a,c,b]=(vm (Φ e) a c b):=by rw[bo];kernel_rfl!
end
section
variable(f:Bool)(d:Str→List PV→CM PV)(a c:PV)(j:Bool)(b:PV)(o:Bool)
def xx:CM PV:=af f (ret (.int 1)) (ret (.int 0))
def xy:CM PV:=aa (aa (ae .In (.int 11) c) fun g=>af g (aa (ae .In (.int 5) c) fun h=>af h (aa (ae .In (.int 4) c) fun i=>af i (ret true) (ret false)) (ret false)) (ret false)) xx
def xz:CM PV:=af j (ret (.int 0)) (xy c)
def xA:CM PV:=aa (aa (ar a (S "mode")) fun k=>ae .Eq k (.int 4)) (xz c)
def xB:CM PV:=aa (aa (aa (aa (ar a (S "host")) fun l=>ar l (S "tab")) fun m=>ret [m,b]) fun n=>d (S "parts_of") n) (xA a)
def xC:CM PV:=af o (ret (.int (-1))) (xB d a b)
def xD:CM PV:=aa (aa (aa (aa (aa (aa (ar a (S "host")) fun p=>ar p (S "tab")) fun q=>ar q (S "rows")) fun r=>getItem r b) fun s=>getItem s (.int 0)) fun t=>ae .In t (G "DEFERRED_ROWS")) (xC d a b)
theorem yO(e:Nat)(a b:PV):Φ (e+1) (S "unknown_told") [a,b]=(xD (Φ e) a b):=by rw[bo];kernel_rfl!
end
section
variable(h i l:Bool)(a:Str→List PV→CM PV)(c d f b e:PV)(u w a4 a9 c0:Bool)
def sw:CM PV:=af h (ret (.int 1)) (ret (.int 0))
def sx:CM PV:=aa (ae .Eq f (.int 3)) sw
def sz:CM PV:=af i (ret (.int 1)) (ret (.int 0))
def sA:CM PV:=aa (aa (getItem b (.int 3)) fun j=>aa (getItem e (.int 3)) fun k=>ae .Eq j k) sz
def sB:CM PV:=af l (ret (.int 1)) (ret (.int 0))
def sC:CM PV:=aa (aa (aa (getItem e (.int 0)) fun m=>ae .In m (.tup [.int 3,.int 4])) fun n=>af n (aa (aa (a (S "whole_of_row") [e]) fun o=>aa (a (S "whole_of_row") [b]) fun p=>ae .Eq o p) fun q=>af q (aa (aa (getItem e (.int 1)) fun r=>aa (getItem b (.int 3)) fun s=>ae .Eq r s) fun t=>af t (ret true) (ret false)) (ret false)) (ret false)) sB
def sD:CM PV:=a (S "number_to_enum") [c,d,b,e]
def sE:CM PV:=af u (sC a b e) (sD a c d b e)
def sF:CM PV:=aa (aa (getItem b (.int 0)) fun v=>ae .Eq v (.int 5)) (sE a c d b e)
def sG:CM PV:=af w (sA b e) (sF a c d b e)
def qz:CM PV:=aa (aa (aa (getItem b (.int 0)) fun x=>ae .Eq x (.int 5)) fun y=>af y (aa (aa (getItem e (.int 0)) fun z=>ae .Eq z (.int 5)) fun a0=>af a0 (aa (aa (getItem b (.int 1)) fun a1=>aa (getItem e (.int 1)) fun a2=>ae .Eq a1 a2) fun a3=>af a3 (ret true) (ret false)) (ret false)) (ret false)) (sG a c d b e)
def qA:CM PV:=af a4 (ret (.int 1)) (qz a c d b e)
def ja:CM PV:=aa (aa (aa (ar c (S "mode")) fun a5=>ae .Eq a5 (.int 2)) fun a6=>af a6 (aa (aa (a (S "whole_of_row") [e]) fun a7=>ae .Eq a7 d) fun a8=>af a8 (ret true) (ret false)) (ret false)) (qA a c d b e)
def qB:CM PV:=af a9 (ret (.int 1)) (ja a c d b e)
def qC:CM PV:=aa (aa (aa (a (S "whole_of_row") [b]) fun b0=>ae .Eq b0 f) fun b1=>af b1 (aa (aa (a (S "whole_of_row") [b]) fun b2=>ae .GtE b2 (.int 0)) fun b3=>af b3 (ret true) (ret false)) (ret false)) (qB a c d b e)
def qD:CM PV:=aa (aa (aa (aa (ar c (S "host")) fun b4=>ar b4 (S "tab")) fun b5=>ar b5 (S "rows")) fun b6=>getItem b6 f) (qC a c d f b)
def qE:CM PV:=aa (aa (aa (aa (ar c (S "host")) fun b7=>ar b7 (S "tab")) fun b8=>ar b8 (S "rows")) fun b9=>getItem b9 d) (qD a c d f)
def qF:CM PV:=af c0 (sx f) (qE a c d f)
def qG:CM PV:=aa (ae .Eq d (.int 4)) (qF a c d f)
theorem ti(g:Nat)(c d f:PV):Φ (g+1) (S "values_related") [c,d,f]=(qG (Φ g) c d f):=by rw[bo];kernel_rfl!
end
section
variable(g:PV)(b:Str→List PV→CM PV)(a:PV)(k:Bool)(e c d:PV)(s:Bool)
def rR:CM PV:=gC g (ret (.int 1))
def rS:CM PV:=aa (aa (au ai a (S "note")) fun h=>aa (aa bc fun i=>ret [i]) fun j=>aj b h a j) rR
def rU:CM PV:=af k (rS b a) (ret (.int 0))
def rV:CM PV:=aa (aa (ae .Eq e (.int 7)) fun l=>af l (ret true) (aa (aa (aa (getItem c (.int 0)) fun m=>ae .Eq m (.int 4)) fun n=>af n (aa (aa (getItem c (.int 1)) fun o=>aa (getItem d (.int 3)) fun p=>ae .Eq o p) fun q=>af q (ret true) (ret false)) (ret false)) fun r=>af r (ret true) (ret false))) (rU b a)
def rW:CM PV:=af s (ret (.int 0)) (rV b a e c d)
def rX:CM PV:=aa (aa (aa (ar a (S "mode")) fun t=>ae .Eq t (.int 4)) fun u=>af u (ret true) (aa (aa (aa (b (S "is_numeric_enum") [d]) fun v=>truth v) fun w=>ret (!w)) fun x=>af x (ret true) (ret false))) (rW b a e c d)
theorem ta(f:Nat)(a e c d:PV):Φ (f+1) (S "number_to_enum") [a,e,c,d]=(rX (Φ f) a e c d):=by rw[bo];kernel_rfl!
end
section
variable(e:Bool)(f:PV)(b:Str→List PV→CM PV)(a c:PV)(g:Bool)
def qk:CM PV:=ret (.bool e)
def ql:CM PV:=aa (ae .Eq f (.int 7)) qk
def qm:CM PV:=aa (b (S "whole_of_row") [a]) ql
def qn:CM PV:=af g (qm b a) (ret c)
def qo:CM PV:=aa (truth c) (qn b a c)
def qp:CM PV:=aa (aa (getItem a (.int 0)) fun h=>aa (ae .Eq h (.int 5)) fun i=>ret (.bool i)) (qo b a)
theorem rF(d:Nat)(a:PV):Φ (d+1) (S "is_numeric_enum") [a]=(qp (Φ d) a):=by rw[bo];kernel_rfl!
end
section
variable(d:Str→List PV→CM PV)(i:List PV)(a b c g e f:PV)(m l:Bool)
def El:CM PV:=d (S "by_rule") i
def jP:CM PV:=aa (aa (aa (d (S "rule_for") [e,f]) fun j=>ret [j,b,c]) fun k=>ret (a::k)) (El d)
def Em:CM PV:=af l (d (S "to_union") [a,b,c]) (jP d a b c e f)
def En:CM PV:=aa (ae .Eq f (.int 6)) (Em d a b c e f)
def Eo:CM PV:=af m (d (S "from_union") [a,b,c]) (En d a b c e f)
def Ep:CM PV:=aa (ae .Eq e (.int 6)) (Eo d a b c e f)
def Er:CM PV:=aa (aa (getItem g c) fun n=>getItem n (.int 0)) (Ep d a b c e)
def Es:CM PV:=aa (aa (getItem g b) fun o=>getItem o (.int 0)) (Er d a b c g)
def Et:CM PV:=aa (aa (aa (ar a (S "host")) fun p=>ar p (S "tab")) fun q=>ar q (S "rows")) (Es d a b c)
theorem Fi(h:Nat)(a b c:PV):Φ (h+1) (S "structured") [a,b,c]=(Et (Φ h) a b c):=by rw[bo];kernel_rfl!
end
section
variable(c:Bool)(a b:PV)(f i l:Bool)
def JN:CM PV:=af c (ret (.int 4)) (ret (.int 5))
def vc:CM PV:=aa (aa (ae .In a (G "LIST_ROWS")) fun d=>af d (aa (ae .In b (G "LIST_ROWS")) fun e=>af e (ret true) (ret false)) (ret false)) JN
def JO:CM PV:=af f (ret (.int 3)) (vc a b)
def JP:CM PV:=aa (aa (ae .Eq a (.int 13)) fun g=>af g (aa (ae .Eq b (.int 13)) fun h=>af h (ret true) (ret false)) (ret false)) (JO a b)
def JQ:CM PV:=af i (ret (.int 2)) (JP a b)
def ve:CM PV:=aa (aa (ae .In a (G "DEFERRED_ROWS")) fun j=>af j (ret true) (aa (ae .In b (G "DEFERRED_ROWS")) fun k=>af k (ret true) (ret false))) (JQ a b)
def JR:CM PV:=af l (ret (.int 1)) (ve a b)
def JS:CM PV:=aa (aa (ae .Eq a (.int 7)) fun m=>af m (ret true) (aa (ae .Eq b (.int 7)) fun n=>af n (ret true) (ret false))) (JR a b)
theorem xY(o:Nat)(a b:PV):Φ (o+1) (S "rule_for") [a,b]=(JS a b):=by rw[bo];kernel_rfl!
end
section
variable(f:Str→List PV→CM PV)(a:PV)(i:Bool)(j:PV)(s:bg)(d c b:PV)(h:bg→CM PV)(e:Option PV→CM PV)(p n l:Bool)(g:It)(u:Nat)(z a1:Option PV)
def Db:CM PV:=af l (ret (.bool true)) (e (some b))
def Dc:CM PV:=aa (aa (ar a (S "mode")) fun m=>ae .Eq m (.int 2)) (Db b e)
def Dd:CM PV:=af n (ret (.bool false)) (e (some b))
def De:CM PV:=aa (aa (ar a (S "mode")) fun o=>ae .NotEq o (.int 2)) (Dd b e)
def Df:CM PV:=af p (Dc a b e) (De a b e)
def jG:=EZ f "from_union" [] 0
def Dg:CM PV:=aa (aa (aa (au ai a (S "ask")) fun q=>aj f q a (b::[c])) fun r=>truth r) (Df a b e)
def Dh:CM PV:=ret (.bool i)
def Di:CM PV:=aa (ae .NotEq j (.int 2)) Dh
def jH:CM PV:=aa (aa (dc s 0) fun t=>ar t (S "mode")) fun j=>aa (ae .NotEq j (.int 2)) fun i=>ret (.bool i)
def zX:CM PV:=aa (ar a (S "mode")) Di
def zY:CM PV:=ek g (jG f) u 0 [some a,some d,some c,none,none,none] jH
def zZ:CM PV:=aa (bj g) (zY f a d c g)
def Aa:CM PV:=aa (aa (aa (aa (aa (ar a (S "host")) fun v=>ar v (S "tab")) fun w=>ret [w,d]) fun x=>f (S "parts_of") x) fun y=>da y) (zZ f a d c)
theorem wm:jG f b [some a,some d,some c,z,none,none] h=Dg f a c b (fun a0=>h [some a,some d,some c,a0,none,none]):=by kernel_rfl!
theorem wn:jH [some a,some d,some c,a1,none,none]=zX a:=by kernel_rfl!
theorem Fc(k:Nat)(a d c:PV):Φ (k+1) (S "from_union") [a,d,c]=(Aa (Φ k) a d c):=by rw[bo];kernel_rfl!
end
section
variable(b:Str→List PV→CM PV)(a g b3 h i:PV)(b4:Bool)(c:PV)(l:bg→CM PV)(f:PV)(e:PV→Option PV→Option PV→CM PV)(d k n:PV)(j:It)(b5:Nat)(b6 b7 c1 c2:Option PV)
def GR:CM PV:=gC n (e k (some c) (some d))
def GS:CM PV:=aa (aa (au ai a (S "back")) fun o=>aj b o a [d]) (GR c e d k)
def GU:CM PV:=aa (aa (aa (aa (aa (ar a (S "notes")) fun p=>ar p (S "rows")) fun q=>aa (aa (getItem d (.int 0)) fun r=>ret (some r)) fun s=>slice q s none none) fun t=>aa (aa (aa (ar a (S "trail")) fun u=>aa (aa (getItem d (.int 1)) fun v=>ret (some v)) fun w=>slice u w none none) fun x=>ret [x]) fun y=>ret (t::y)) fun z=>gB z) (GS b a c e d)
def GV(f:PV)(c:PV)(e:PV→Option PV→Option PV→CM PV)(d:PV)(a0:PV):CM PV:=gC a0 (e f (some c) (some d))
def GW(b:Str→List PV→CM PV)(a:PV)(f:PV)(c:PV)(e:PV→Option PV→Option PV→CM PV)(d:PV):CM PV:=aa (aa (au ai a (S "back")) fun a1=>aj b a1 a [d]) (GV f c e d)
def GX(b:Str→List PV→CM PV)(a:PV)(f:PV)(c:PV)(e:PV→Option PV→Option PV→CM PV)(d:PV)(a2:Bool):CM PV:=af a2 (GU b a c e d) (GW b a f c e d)
def GY(b:Str→List PV→CM PV)(a:PV)(f:PV)(c:PV)(e:PV→Option PV→Option PV→CM PV)(d:PV):CM PV:=aa (ae .Is f .none) (GX b a f c e d)
def GZ(b:Str→List PV→CM PV)(a:PV)(f:PV)(c:PV)(e:PV→Option PV→Option PV→CM PV)(d:PV)(a3:Bool):CM PV:=af a3 (ret (.bool true)) (GY b a f c e d)
def G0(b:Str→List PV→CM PV)(a:PV)(f:PV)(c:PV)(e:PV→Option PV→Option PV→CM PV)(d:PV):CM PV:=aa (aa (aa (aa (aa (ar a (S "notes")) fun a4=>ar a4 (S "rows")) fun a5=>ret [a5]) fun a6=>blt .len a6) fun a7=>aa (getItem d (.int 0)) fun a8=>ae .Eq a7 a8) (GZ b a f c e d)
def G5(b:Str→List PV→CM PV)(a:PV)(f:PV)(c:PV)(e:PV→Option PV→Option PV→CM PV)(d:PV)(a9:Bool):CM PV:=af a9 (G0 b a f c e d) (e f (some c) (some d))
def Ed(b:Str→List PV→CM PV)(a:PV)(g:PV)(f:PV)(c:PV)(e:PV→Option PV→Option PV→CM PV)(d:PV):CM PV:=aa (aa (aa (au ai a (S "ask")) fun b0=>aj b b0 a (g::[c])) fun b1=>truth b1) (G5 b a f c e d)
def gZ:=EZ b "some_part" [] 1
def Ee(b:Str→List PV→CM PV)(a:PV)(g:PV)(f:PV)(c:PV)(e:PV→Option PV→Option PV→CM PV):CM PV:=aa (aa (au ai a (S "mark")) fun b2=>aj b b2 a []) (Ed b a g f c e)
def Ef:CM PV:=gC b3 (ret (.bool true))
def Eg:CM PV:=aa (b (S "lay_again") (a::[i])) Ef
def Eh:CM PV:=af b4 (ret (.bool false)) (Eg b a i)
def hA:=SP b "some_part" [] 2 yI
def Ei:CM PV:=aa (ae .Is i .none) (Eh b a i)
def jO:CM PV:=ek j (gZ b) b5 0 [some a,some g,some h,some .none,none,none,none,none] (hA b)
def Ej:CM PV:=aa (bj j) (jO b a g h j)
def Ek:CM PV:=aa (da h) (Ej b a g h)
theorem lE:gZ b c [some a,some g,some h,some f,b6,b7,none,none] l=Ee b a g f c (fun b8 b9 c0=>l [some a,some g,some h,some b8,b9,c0,none,none]):=by kernel_rfl!
theorem lF:hA b [some a,some g,some h,some i,c1,c2,none,none]=Ei b a i:=by kernel_rfl!
theorem te(m:Nat)(a g h:PV):Φ (m+1) (S "some_part") [a,g,h]=(Ek (Φ m) a g h):=by rw[bo];kernel_rfl!
end
section
variable(d:Str→List PV→CM PV)(b a c g:PV)(j:Bool)(e:PV)(l o s:Bool)(f:PV)(v:Bool)(h:PV)
def J0:CM PV:=d (S "by_rule") [b,.int 2,a,c]
def J1:CM PV:=d (S "by_rule") [b,.int 6,a,c]
def J2:CM PV:=d (S "by_rule") [b,.int 12,a,c]
def J3:CM PV:=af j (J2 d b a c) (ret g)
def J4:CM PV:=aa (truth g) (J3 d b a c g)
def J5:CM PV:=aa (aa (ae .Eq e (.int 12)) fun k=>ret (.bool k)) (J4 d b a c)
def J6:CM PV:=af l (J1 d b a c) (J5 d b a c e)
def J7:CM PV:=aa (aa (ae .Eq e (.int 7)) fun m=>af m (ret true) (aa (ae .In e (G "SHAPED_ROWS")) fun n=>af n (ret true) (ret false))) (J6 d b a c e)
def J8:CM PV:=af o (ret (.bool true)) (J7 d b a c e)
def J9:CM PV:=aa (aa (ae .Eq e (.int 7)) fun p=>af p (aa (aa (d (S "by_rule") [b,.int 1,a,c]) fun q=>truth q) fun r=>af r (ret true) (ret false)) (ret false)) (J8 d b a c e)
def G6:CM PV:=af s (J0 d b a c) (J9 d b a c e)
def G7:CM PV:=aa (ae .In e (G "DEFERRED_ROWS")) (G6 d b a c e)
def G8:CM PV:=aa (aa (aa (ar f (S "rows")) fun t=>getItem t a) fun u=>getItem u (.int 0)) (G7 d b a c)
def G9:CM PV:=af v (ret (.bool true)) (G8 d b a c f)
def Ha:CM PV:=aa (aa (ae .In a h) fun w=>af w (ret true) (aa (aa (d (S "some_part") [b,a,h]) fun x=>truth x) fun y=>af y (ret true) (ret false))) (G9 d b a c f)
def Hb:CM PV:=aa (d (S "parts_of") [f,c]) (Ha d b a c f)
def Hc:CM PV:=aa (aa (ar b (S "host")) fun z=>ar z (S "tab")) (Hb d b a c)
theorem K8(i:Nat)(b a c:PV):Φ (i+1) (S "to_union") [b,a,c]=(Hc (Φ i) b a c):=by rw[bo];kernel_rfl!
end
section
variable(a:Str→List PV→CM PV)(j:List PV)(b:PV)(u:List PV)(e f h c d:PV)(a6 a1:Bool)(g:PV)(o:Bool)
def GF:CM PV:=a (S "each_in") j
def GG:CM PV:=aa (aa (aa (getItem d (.int 1)) fun k=>aa (aa (getItem c (.int 1)) fun l=>ret [l]) fun m=>ret (k::m)) fun n=>ret (b::n)) (GF a)
def GH:CM PV:=af o (GG a b c d) (ret g)
def GI:CM PV:=aa (truth g) (GH a b c d g)
def GJ:CM PV:=aa (aa (aa (aa (getItem c (.int 1)) fun p=>aa (aa (getItem d (.int 1)) fun q=>ret [q]) fun r=>ret (p::r)) fun s=>ret (b::s)) fun t=>a (S "each_in") t) (GI a b c d)
def GL:CM PV:=a (S "by_rule") u
def rh:CM PV:=aa (aa (aa (aa (aa (getItem c (.int 0)) fun v=>aa (aa (getItem d (.int 0)) fun w=>ret [w]) fun x=>ret (v::x)) fun y=>a (S "rule_for") y) fun z=>ret [z,e,f]) fun a0=>ret (b::a0)) (GL a)
def GN:CM PV:=af a1 (ret (.bool false)) (rh a b e f c d)
def GO:CM PV:=aa (aa (aa (getItem c (.int 0)) fun a2=>ae .In a2 (.tup [.int 6,.int 7])) fun a3=>af a3 (ret true) (aa (aa (getItem d (.int 0)) fun a4=>ae .In a4 (.tup [.int 6,.int 7])) fun a5=>af a5 (ret true) (ret false))) (GN a b e f c d)
def GQ:CM PV:=af a6 (GJ a b c d) (GO a b e f c d)
def pz:CM PV:=aa (aa (aa (getItem c (.int 0)) fun a7=>aa (getItem d (.int 0)) fun a8=>ae .Eq a7 a8) fun a9=>af a9 (aa (aa (aa (getItem c (.int 0)) fun b0=>ae .Eq b0 (.int 6)) fun b1=>af b1 (ret true) (aa (aa (getItem c (.int 0)) fun b2=>ae .Eq b2 (.int 7)) fun b3=>af b3 (ret true) (ret false))) fun b4=>af b4 (ret true) (ret false)) (ret false)) (GQ a b e f c d)
def Ea:CM PV:=aa (getItem h f) (pz a b e f c)
def Eb:CM PV:=aa (getItem h e) (Ea a b e f h)
def Ec:CM PV:=aa (aa (aa (ar b (S "host")) fun b5=>ar b5 (S "tab")) fun b6=>ar b6 (S "rows")) (Eb a b e f)
theorem Iw(i:Nat)(b e f:PV):Φ (i+1) (S "same_kind") [b,e,f]=(Ec (Φ i) b e f):=by rw[bo];kernel_rfl!
end
section
variable(d:Str→List PV→CM PV)(a c b e:PV)(h:bg→CM PV)(g:Option PV→CM PV)(j:Bool)(f:It)(m:Nat)(n p:Option PV)
def L6:CM PV:=af j (ret (.bool false)) (g (some e))
def oR:=EZ d "each_in" [] 0
def L7:CM PV:=aa (aa (aa (d (S "some_part") (a::(e::[b]))) fun k=>truth k) fun l=>ret (!l)) (L6 e g)
def oS(r:bg):CM PV:=ret (.bool true)
def L8:CM PV:=ret (.bool true)
def yq:CM PV:=ek f (oR d) m 0 [some a,some c,some b,none,none] oS
def L9:CM PV:=aa (bj f) (yq d a c b f)
def Ma:CM PV:=aa (da c) (L9 d a c b)
theorem FN:oR d e [some a,some c,some b,n,none] h=L7 d a b e (fun o=>h [some a,some c,some b,o,none]):=by kernel_rfl!
theorem FO:oS [some a,some c,some b,p,none]=L8:=by kernel_rfl!
theorem N7(i:Nat)(a c b:PV):Φ (i+1) (S "each_in") [a,c,b]=(Ma (Φ i) a c b):=by rw[bo];kernel_rfl!
end
section
variable(d:PV)(e:Bool)(a b c:PV)(j:Bool)
end
section
variable(c a:PV)(l:Bool)
def Mo:CM (List PV):=aa (aa (aa (getItem c (.int 2)) fun d=>binop .BitAnd d (.int 1)) fun e=>aa (ae .NotEq e (.int 0)) fun f=>ret (.bool f)) fun g=>ret [g]
def Mp:CM PV:=aa (aa (aa (aa (getItem a (.int 1)) fun h=>da h) fun b=>aa (bj b) fun i=>aa (av b Mo i 0) fun j=>cw j) fun k=>ret [k]) (blt .all)
def Mq:CM PV:=af l (ret (.bool false)) (Mp a)
def Mr:CM PV:=aa (aa (aa (getItem a (.int 1)) fun m=>ae .Eq m (.tup [])) fun n=>af n (ret true) (aa (aa (getItem a (.int 2)) fun o=>ae .NotEq o (.tup [])) fun p=>af p (ret true) (aa (aa (getItem a (.int 3)) fun q=>ae .NotEq q (.tup [])) fun r=>af r (ret true) (aa (aa (getItem a (.int 4)) fun s=>ae .NotEq s (.tup [])) fun t=>af t (ret true) (aa (aa (getItem a (.int 5)) fun u=>ae .NotEq u (.tup [])) fun v=>af v (ret true) (ret false)))))) (Mq a)
theorem N9(w:Nat)(a:PV):Φ (w+1) (S "is_weak") [a]=(Mr a):=by rw[bo];kernel_rfl!
end
section
variable(b:Str→List PV→CM PV)(a h:PV)(n:List PV)(c d e:PV)(t w:Bool)
def wo:CM (List PV):=aa (b (S "is_weak_kind") [a,h]) fun i=>ret [i]
def wp:CM PV:=aa (aa (aa (aa (getItem d (.int 1)) fun j=>da j) fun f=>aa (bj f) fun k=>aa (av f (wo b a) k 0) fun l=>cw l) fun m=>ret [m]) (blt .all)
def wq:CM PV:=b (S "is_weak") n
def wr:CM PV:=aa (aa (aa (aa (ar a (S "tab")) fun o=>ar o (S "rows")) fun p=>aa (aa (au ai a (S "shape")) fun q=>aj b q a [c]) fun r=>getItem p r) fun s=>ret [s]) (wq b)
def wt:CM PV:=af t (wr b a c) (ret e)
def wu:CM PV:=aa (truth e) (wt b a c e)
def wv:CM PV:=aa (aa (getItem d (.int 0)) fun u=>aa (ae .In u (G "SHAPED_ROWS")) fun v=>ret (.bool v)) (wu b a c)
def wx:CM PV:=af w (wp b a d) (wv b a c d)
def wy:CM PV:=aa (aa (getItem d (.int 0)) fun x=>ae .Eq x (.int 7)) (wx b a c d)
def wz:CM PV:=aa (aa (aa (ar a (S "tab")) fun y=>ar y (S "rows")) fun z=>getItem z c) (wy b a c)
theorem mJ(g:Nat)(a c:PV):Φ (g+1) (S "is_weak_kind") [a,c]=(wz (Φ g) a c):=by rw[bo];kernel_rfl!
end
section
variable(c:Str→List PV→CM PV)(a b g o d:PV)(x:Bool)
def EF:CM (List PV):=aa (aa (aa (aa (aa (aa (getItem g (.int 0)) fun h=>ret [h]) fun i=>ret (b::i)) fun j=>ret (a::j)) fun k=>c (S "prop_row") k) fun l=>aa (ae .Is l .none) fun m=>ret (.bool m)) fun n=>ret [n]
def EG:CM PV:=aa (aa (aa (aa (getItem o (.int 1)) fun p=>da p) fun e=>aa (bj e) fun q=>aa (av e (EF c a b) q 0) fun r=>cw r) fun s=>ret [s]) (blt .all)
def EH:CM PV:=aa (aa (aa (ar a (S "tab")) fun t=>ar t (S "rows")) fun u=>aa (aa (au ai a (S "shape")) fun v=>aj c v a [d]) fun w=>getItem u w) (EG c a b)
def EI:CM PV:=af x (ret (.bool false)) (EH c a b d)
def EJ:CM PV:=aa (aa (aa (aa (c (S "is_weak_kind") [a,d]) fun y=>truth y) fun z=>ret (!z)) fun a0=>af a0 (ret true) (aa (aa (c (S "shows_nothing") [a,b]) fun a1=>truth a1) fun a2=>af a2 (ret true) (ret false))) (EI c a b d)
theorem Fk(f:Nat)(a b d:PV):Φ (f+1) (S "weak_fault") [a,b,d]=(EJ (Φ f) a b d):=by rw[bo];kernel_rfl!
end
section
variable(a:PV)(d:Bool)(b c:PV)
def GC:CM PV:=af d (ret (.int 1)) (ret a)
def GD:CM PV:=aa (aa (ae .Lt a (.int 0)) fun e=>af e (ret true) (aa (ae .Eq a (.int 0)) fun f=>af f (ret true) (ret false))) (GC a)
def GE:CM PV:=aa (aa (ar b (S "bounds")) fun g=>getItem g c) GD
theorem tc(h:Nat)(b c:PV):Φ (h+1) (S "pid_bound") [b,c]=(GE b c):=by rw[bo];kernel_rfl!
end
section
variable(b:Str→List PV→CM PV)(f:List PV)(a c d:PV)(j:Meth)(k m:Bool)
def CS:CM PV:=b (S "pid_bound") f
def CT:CM PV:=aa (aa (ar a (S "tab")) fun g=>aa (aa (getItem d (.int 1)) fun h=>ret [h]) fun i=>ret (g::i)) (CS b)
def CU:CM PV:=aj b j a [c]
def CV:CM PV:=aa (au ai a (S "bound")) (CU b a c)
def CW:CM PV:=af k (CV b a c) (ret c)
def CX:CM PV:=aa (aa (getItem d (.int 0)) fun l=>ae .In l (G "DEFERRED_ROWS")) (CW b a c)
def CY:CM PV:=af m (CT b a d) (CX b a c d)
def CZ:CM PV:=aa (aa (getItem d (.int 0)) fun n=>ae .Eq n (.int 10)) (CY b a c d)
def C0:CM PV:=aa (aa (aa (ar a (S "tab")) fun o=>ar o (S "rows")) fun p=>getItem p c) (CZ b a c)
theorem qN(e:Nat)(a c:PV):Φ (e+1) (S "bound_kind") [a,c]=(C0 (Φ e) a c):=by rw[bo];kernel_rfl!
end
section
variable(c:Str→List PV→CM PV)(f:List PV)(a b d:PV)(i:Bool)
def EA:CM PV:=c (S "is_unit") f
def EB:CM PV:=aa (aa (aa (ar a (S "host")) fun g=>ar g (S "tab")) fun h=>ret [h,b]) (EA c)
def EC:CM PV:=af i (ret d) (EB c a b)
def ED:CM PV:=aa (truth d) (EC c a b d)
def EE:CM PV:=aa (aa (ar a (S "mode")) fun j=>aa (ae .NotEq j (.int 2)) fun k=>ret (.bool k)) (ED c a b)
theorem Fj(e:Nat)(a b:PV):Φ (e+1) (S "weak_asked") [a,b]=(EE (Φ e) a b):=by rw[bo];kernel_rfl!
end
section
variable(d:Str→List PV→CM PV)(a c b:PV)(m:Meth)(n e:PV)(u:Bool)(h g:PV)(v:Meth)(i:PV)(w z a0:Bool)(f:PV)(a7 a8 a9:Bool)
def D0:CM PV:=aj d m a [c,b]
def D1:CM PV:=aa (au ai a (S "ask")) (D0 d a c b)
def D2:CM (List PV):=aa (d (S "part_holds") [a,n,b]) fun o=>ret [o]
def D3:CM PV:=aa (aa (aa (aa (aa (getItem e c) fun p=>getItem p (.int 1)) fun q=>da q) fun j=>aa (bj j) fun r=>aa (av j (D2 d a b) r 0) fun s=>cw s) fun t=>ret [t]) (blt .all)
def D4:CM PV:=d (S "bound_holds") [a,c,b]
def D5:CM PV:=ret (.bool u)
def D6:CM PV:=aa (ae .Eq h (.int 1)) D5
def D7:CM PV:=aj d v g [a,c,b]
def D8:CM PV:=aa (au ai g (S "loose")) (D7 d a c b g)
def D9:CM PV:=af w (D8 d a c b g) (ret i)
def Aj:CM PV:=aa (truth i) (D9 d a c b g i)
def Ak:CM PV:=aa (aa (ae .IsNot g .none) fun x=>ret (.bool x)) (Aj d a c b g)
def Al:CM PV:=aa (aa (ar a (S "rules")) fun k=>aa (au ai k (S "get")) fun y=>aj d y k [.int 5]) (Ak d a c b)
def Am:CM PV:=af z (D6 h) (Al d a c b)
def Ao:CM PV:=aa (ae .GtE h (.int 0)) (Am d a c b h)
def Ap:CM PV:=aa (d (S "simple_related") [a,c,b]) (Ao d a c b)
def Aq:CM PV:=af a0 (ret (.bool true)) (Ap d a c b)
def Ar:CM PV:=aa (aa (ae .Eq c b) fun a1=>af a1 (ret true) (aa (aa (ae .Eq f (.int 7)) fun a2=>af a2 (aa (aa (aa (getItem e c) fun a3=>getItem a3 (.int 1)) fun a4=>ae .In b a4) fun a5=>af a5 (ret true) (ret false)) (ret false)) fun a6=>af a6 (ret true) (ret false))) (Aq d a c b)
def At:CM PV:=af a7 (D4 d a c b) (Ar d a c b e f)
def Au:CM PV:=aa (ae .In f (G "DEFERRED_ROWS")) (At d a c b e f)
def Av:CM PV:=af a8 (D3 d a c b e) (Au d a c b e f)
def Aw:CM PV:=aa (ae .Eq f (.int 6)) (Av d a c b e f)
def Ax:CM PV:=af a9 (D1 d a c b) (Aw d a c b e f)
def Ay:CM PV:=aa (aa (aa (aa (getItem e b) fun b0=>getItem b0 (.int 0)) fun b1=>ae .NotIn b1 (G "SHAPED_ROWS")) fun b2=>af b2 (ret true) (aa (aa (ae .Eq f (.int 6)) fun b3=>af b3 (aa (aa (ar a (S "mode")) fun b4=>ae .Eq b4 (.int 2)) fun b5=>af b5 (ret true) (ret false)) (ret false)) fun b6=>af b6 (ret true) (ret false))) (Ax d a c b e f)
def Az:CM PV:=aa (aa (getItem e c) fun b7=>getItem b7 (.int 0)) (Ay d a c b e)
def AA:CM PV:=aa (aa (aa (ar a (S "host")) fun b8=>ar b8 (S "tab")) fun b9=>ar b9 (S "rows")) (Az d a c b)
theorem qO(l:Nat)(a c b:PV):Φ (l+1) (S "part_holds") [a,c,b]=(AA (Φ l) a c b):=by rw[bo];kernel_rfl!
end
section
variable(b:Str→List PV→CM PV)(a g c:PV)(e:PV→Option PV→CM PV)(f:PV)(l:Bool)(q:bg)(h d:PV)(i:It)(r:Nat)(v:Option PV)
end
section
variable(b:Str→List PV→CM PV)(a c d:PV)(h:Meth)(i e:PV)(k:Bool)(f:PV)
end
section
variable(d:Str→List PV→CM PV)(a b c e:PV)(h:bg→CM PV)(g:Option PV→CM PV)(j:Bool)(f:It)(m:Nat)(s:Bool)(a5 a7:Option PV)
def vf:CM PV:=af j (ret (.bool false)) (g (some e))
def jj:=EZ d "to_inter" [] 1
def JT:CM PV:=aa (aa (aa (d (S "part_holds") (a::(b::[e]))) fun k=>truth k) fun l=>ret (!l)) (vf e g)
def jk(a9:bg):CM PV:=ret (.bool true)
def JU:CM PV:=ret (.bool true)
def JV:CM PV:=ek f (jj d) m 0 [some a,some b,some c,none,none,none,none,none] jk
def JW:CM PV:=aa (bj f) (JV d a b c f)
def JX:CM PV:=aa (aa (aa (aa (aa (aa (ar a (S "host")) fun n=>ar n (S "tab")) fun o=>ar o (S "rows")) fun p=>getItem p c) fun q=>getItem q (.int 1)) fun r=>da r) (JW d a b c)
def JY:CM PV:=af s (ret (.bool false)) (JX d a b c)
def JZ:CM PV:=aa (aa (aa (aa (aa (aa (aa (ar a (S "host")) fun t=>ar t (S "tab")) fun u=>ar u (S "rows")) fun v=>getItem v b) fun w=>getItem w (.int 0)) fun x=>ae .NotIn x (G "DEFERRED_ROWS")) fun y=>af y (aa (aa (d (S "weak_asked") [a,b]) fun z=>truth z) fun a0=>af a0 (aa (aa (aa (aa (ar a (S "host")) fun a1=>ret [a1,b,c]) fun a2=>d (S "weak_fault") a2) fun a3=>truth a3) fun a4=>af a4 (ret true) (ret false)) (ret false)) (ret false)) (JY d a b c)
theorem Eu:jj d e [some a,some b,some c,a5,none,none,none,none] h=JT d a b e (fun a6=>h [some a,some b,some c,a6,none,none,none,none]):=by kernel_rfl!
theorem Ev:jk [some a,some b,some c,a7,none,none,none,none]=JU:=by kernel_rfl!
theorem K7(i:Nat)(a b c:PV):Φ (i+1) (S "to_inter") [a,b,c]=(JZ (Φ i) a b c):=by rw[bo];kernel_rfl!
end
section
variable(c:Str→List PV→CM PV)(a d b m e g f h:PV)(k:bg→CM PV)(j:Option PV→CM PV)(q o:Bool)(i:It)(t:Nat)(u:Bool)(x:PV)(z a6:Bool)(b0 b2:Option PV)
def C4:CM PV:=gC m (c (S "by_bounds") [a,d,b])
def C5:CM PV:=aa (aa (au ai a (S "back")) fun n=>aj c n a [f]) (C4 c a d b)
def C6:CM PV:=af o (ret (.bool true)) (C5 c a d b f)
def C7:CM PV:=aa (aa (c (S "by_rule") [a,.int 5,d,b]) fun p=>truth p) (C6 c a d b f)
def C8:CM PV:=af q (ret (.bool true)) (j (some h))
def jE:=EZ c "from_inter" [] 7
def C9:CM PV:=aa (aa (aa (au ai a (S "ask")) fun r=>aj c r a (h::[b])) fun s=>truth s) (C8 h j)
def jF:=SP c "from_inter" [] 8 yI
def Da:CM PV:=c (S "by_bounds") (a::(d::[b]))
def oT:CM PV:=ek i (jE c) t 0 [some a,some d,some b,some e,some g,some f,none,none,none,none,none,none,none] (jF c)
def zJ:CM PV:=aa (bj i) (oT c a d b e g f i)
def zK:CM PV:=aa (da g) (zJ c a d b e g f)
def zL:CM PV:=af u (C7 c a d b f) (zK c a d b e g f)
def zN:CM PV:=aa (aa (aa (getItem e b) fun v=>getItem v (.int 0)) fun w=>ae .In w (G "SHAPED_ROWS")) (zL c a d b e g f)
def zO:CM PV:=gC x (zN c a d b e g f)
def zQ:CM PV:=aa (aa (au ai a (S "back")) fun y=>aj c y a [f]) (zO c a d b e g f)
def mP:CM PV:=af z (ret (.bool true)) (zQ c a d b e g f)
def zR:CM PV:=aa (aa (aa (aa (getItem e b) fun a0=>getItem a0 (.int 0)) fun a1=>ae .In a1 (G "DEFERRED_ROWS")) fun a2=>af a2 (aa (aa (c (S "by_rule") [a,.int 2,d,b]) fun a3=>truth a3) fun a4=>af a4 (ret true) (ret false)) (ret false)) (mP c a d b e g f)
def zS:CM PV:=aa (aa (au ai a (S "mark")) fun a5=>aj c a5 a []) (zR c a d b e g)
def zT:CM PV:=af a6 (ret (.bool true)) (zS c a d b e g)
def zU:CM PV:=aa (ae .In b g) (zT c a d b e g)
def zV:CM PV:=aa (aa (getItem e d) fun a7=>getItem a7 (.int 1)) (zU c a d b e)
def zW:CM PV:=aa (aa (aa (ar a (S "host")) fun a8=>ar a8 (S "tab")) fun a9=>ar a9 (S "rows")) (zV c a d b)
theorem wi:jE c h [some a,some d,some b,some e,some g,some f,b0,none,none,none,none,none,none] k=C9 c a b h (fun b1=>k [some a,some d,some b,some e,some g,some f,b1,none,none,none,none,none,none]):=by kernel_rfl!
theorem wj:jF c [some a,some d,some b,some e,some g,some f,b2,none,none,none,none,none,none]=Da c a d b:=by kernel_rfl!
theorem Fb(l:Nat)(a d b:PV):Φ (l+1) (S "from_inter") [a,d,b]=(zW (Φ l) a d b):=by rw[bo];kernel_rfl!
end
section
variable(b:Str→List PV→CM PV)(a j e c d f:PV)(o:Bool)(n:Meth)(g:PV)
def qU:CM (List PV):=aa (aa (aa (ar a (S "host")) fun k=>ret [k,j]) fun l=>b (S "bound_kind") l) fun m=>ret [m]
def FD:CM PV:=aj b n a [d,c]
def FE:CM PV:=aa (au ai a (S "ask")) (FD b a c d)
def FF:CM PV:=af o (FE b a c d) (ret f)
def FG:CM PV:=aa (truth f) (FF b a c d f)
def FH:CM PV:=aa (aa (ae .NotEq d e) fun p=>ret (.bool p)) (FG b a c d)
def FI:CM PV:=aa (aa (aa (aa (aa (aa (aa (aa (ar g (S "rows")) fun q=>getItem q e) fun r=>getItem r (.int 1)) fun s=>da s) fun h=>aa (bj h) fun t=>aa (av h (qU b a) t 0) fun u=>cw u) fun v=>ret [v]) fun w=>ret (g::w)) fun x=>b (S "inter") x) (FH b a e c)
def FJ:CM PV:=aa (aa (ar a (S "host")) fun y=>ar y (S "tab")) (FI b a e c)
theorem Ip(i:Nat)(a e c:PV):Φ (i+1) (S "by_bounds") [a,e,c]=(FJ (Φ i) a e c):=by rw[bo];kernel_rfl!
end
section
variable(e:Str→List PV→CM PV)(a b d:PV)
def nQ(f:Unit):CM PV:=ret .none
def nR:CM PV:=aa (setItem d (.int 1) b) nQ
def nS:CM PV:=aa (ar a (S "rules")) (nR b)
def nT:CM PV:=aa (jz e (S "RelateMeetRule") [] (some none)) (nS a)
theorem ou(c:Nat)(a:PV):Φ (c+1) (S "install_rel_meets") [a]=(nT (Φ c) a):=by rw[bo];kernel_rfl!
end
section
variable(d:Str→List PV→CM PV)(a f b:PV)(c:PV→Option PV→Option PV→CM PV)(a0:Bool)(e:PV)(x v s l:Bool)(k g:PV)(h:It)(a1:Nat)(a7:PV)(a8 a9:Option PV)
def AB:CM PV:=c k (some b) (some e)
def AC:CM PV:=af l bc (aa bc (AB b c e))
def AD:CM PV:=aa (aa (aa (getItem e (.int 0)) fun m=>ae .NotEq m (.int 9)) fun n=>af n (ret true) (aa (aa (getItem e (.int 2)) fun o=>truth o) fun p=>af p (ret true) (aa (aa bc fun q=>truth q) fun r=>af r (ret true) (ret false)))) (AC b c e)
def AE:CM PV:=af s (ret (.int 11)) (AD b c e)
def AF:CM PV:=aa (aa (getItem e (.int 0)) fun t=>aa bc fun u=>ae .In t u) (AE b c e)
def AG:CM PV:=af v (d (S "func_type") (a::[f])) (AF b c e)
def AH:CM PV:=aa (aa (getItem e (.int 0)) fun w=>ae .Eq w (.int 13)) (AG d a f b c e)
def AI:CM PV:=af x (ret f) (AH d a f b c e)
def AJ:CM PV:=aa (aa (getItem e (.int 0)) fun y=>ae .Eq y (.int 8)) (AI d a f b c e)
def AK:CM PV:=aa (aa (ar a (S "rows")) fun z=>getItem z f) (AJ d a f b c)
def wI:CM PV:=af a0 bc (AK d a f b c)
def lB:=EZ d "plain_shape" [] 0
def wJ:CM PV:=aa (ae .Lt f (.int 0)) (wI d a f b c)
def wK(b1:bg):CM PV:=bc
def wL:CM PV:=ek h (lB d) a1 0 [some a,some g,none,none,none,none,none,none,none,none,none,none,none,none] wK
def wM:CM PV:=aa (bj h) (wL d a g h)
def lC:CM PV:=aa (gj (.int 40)) (wM d a g)
theorem rY(d:Str→List PV→CM PV)(a:PV)(b:PV)(i:bg→CM PV)(f:PV)(a2:Option PV)(a3:Option PV):lB d b [some a,some f,a2,a3,none,none,none,none,none,none,none,none,none,none] i=wJ d a f b (fun a4 a5 a6=>i [some a,some a4,a5,a6,none,none,none,none,none,none,none,none,none,none]):=by kernel_rfl!
theorem BJ(j:Nat)(a g:PV):Φ (j+1) (S "plain_shape") [a,g]=(lC (Φ j) a g):=by rw[bo];kernel_rfl!
end
section
variable(c:Str→List PV→CM PV)(a d b e g:PV)(j:Bool)(i:Meth)(f:PV)(q:Bool)
def ui:CM PV:=aj c i a [e,b]
def uj:CM PV:=aa (au ai a (S "ask")) (ui c a b e)
def uk:CM PV:=af j (uj c a b e) (ret g)
def ul:CM PV:=aa (truth g) (uk c a b e g)
def um:CM PV:=aa (aa (ae .NotEq e d) fun k=>ret (.bool k)) (ul c a b e)
def uo:CM PV:=aa (aa (aa (aa (ar a (S "host")) fun l=>ar l (S "tab")) fun m=>aa (aa (getItem f (.int 1)) fun n=>ret [n]) fun o=>ret (m::o)) fun p=>c (S "pid_bound") p) (um c a d b)
def uq:CM PV:=af q (ret (.bool false)) (uo c a d b f)
def ur:CM PV:=aa (aa (getItem f (.int 0)) fun r=>ae .NotEq r (.int 10)) (uq c a d b f)
def ut:CM PV:=aa (aa (aa (aa (ar a (S "host")) fun s=>ar s (S "tab")) fun t=>ar t (S "rows")) fun u=>getItem u d) (ur c a d b)
theorem lj(h:Nat)(a d b:PV):Φ (h+1) (S "param_related") [a,d,b]=(ut (Φ h) a d b):=by rw[bo];kernel_rfl!
end
section
variable(e:Str→List PV→CM PV)(a b d:PV)
def mi(f:Unit):CM PV:=ret .none
def mj:CM PV:=aa (setItem d (.int 2) b) mi
def ml:CM PV:=aa (ar a (S "rules")) (mj b)
def mn:CM PV:=aa (jz e (S "ParamRule") [] (some none)) (ml a)
theorem nj(c:Nat)(a:PV):Φ (c+1) (S "install_rel_params") [a]=(mn (Φ c) a):=by rw[bo];kernel_rfl!
end
section
variable(a b d c k:PV)
def uh:CM PV:=binop .Mod d b
def JB(a:PV)(b:PV)(c:PV)(m:Unit):CM PV:=aa (aa (aa (aa (aa (getItem a (.int 1)) fun e=>ret [e]) fun f=>blt .len f) fun g=>ae .Lt c g) fun h=>af h (aa (getItem a (.int 1)) fun i=>getItem i c) (aa (binop .Mult c (.int 11)) fun j=>binop .Add j (.int 3))) (uh b)
def JC:CM PV:=aa (setItem a (.int 0) k) (JB a b c)
def JD:CM PV:=aa (binop .Add c (.int 1)) (JC a b c)
def JE:CM PV:=aa (getItem a (.int 0)) (JD a b)
theorem K0(l:Nat)(a b:PV):Φ (l+1) (S "_law_take") [a,b]=(JE a b):=by rw[bo];kernel_rfl!
end
section
variable(b:Str→List PV→CM PV)(c d:PV)(y:bg)(e f a g:PV)(k:bg→CM PV)(i:Option PV→Option PV→CM PV)(h:PV)(o:Bool)(m:PV)(j:It)(z:Nat)(a2 a3 a6 a7:Option PV)
def Jt:CM PV:=gC m (i (some g) (some h))
def Ju:CM PV:=aa (aa (au ai a (S "append")) fun n=>aj b n a [h]) (Jt g i h)
def Jv:CM PV:=af o (Ju b a g i h) (i (some g) (some h))
def Jw:CM PV:=aa (aa (ae .NotIn h a) fun p=>af p (aa (aa (ae .NotIn h (.tup [.int 2,.int 3])) fun q=>af q (ret true) (aa (ae .NotIn (.int 4) a) fun r=>af r (ret true) (ret false))) fun s=>af s (aa (aa (ae .NotEq h (.int 4)) fun t=>af t (ret true) (aa (aa (ae .NotIn (.int 2) a) fun u=>af u (aa (ae .NotIn (.int 3) a) fun v=>af v (ret true) (ret false)) (ret false)) fun w=>af w (ret true) (ret false))) fun x=>af x (ret true) (ret false)) (ret false)) (ret false)) (Jv b a g i h)
def jf:=EZ b "_law_some" [] 1
def Jx:CM PV:=aa (b (S "_law_take") (c::[d])) (Jw b a g i)
def jg:CM PV:=dc y 4
def Jy:CM PV:=ret a
def Jz:CM PV:=ek j (jf b) z 0 [some c,some d,some e,some f,some a,none,none,none,none] jg
def JA:CM PV:=aa (bj j) (Jz b c d e f a j)
def F3:CM PV:=aa (aa (aa (b (S "_law_take") [c,e]) fun a0=>binop .Add f a0) fun a1=>gj a1) (JA b c d e f a)
def F4:CM PV:=aa (new (.list [])) (F3 b c d e f)
theorem DN:jf b g [some c,some d,some e,some f,some a,a2,a3,none,none] k=Jx b c d a g (fun a4 a5=>k [some c,some d,some e,some f,some a,a4,a5,none,none]):=by kernel_rfl!
theorem DO:jg [some c,some d,some e,some f,some a,a6,a7,none,none]=Jy a:=by kernel_rfl!
theorem KZ(l:Nat)(c d e f:PV):Φ (l+1) (S "_law_some") [c,d,e,f]=(F4 (Φ l) c d e f):=by rw[bo];kernel_rfl!
end
section
variable(c:Str→List PV→CM PV)(n q:PV)(r:It)(b3:Nat)(b4:PV)(c4:bg)(e:PV)(c3:PV→Option PV→Option PV→Option PV→Option PV→CM PV)(j:bg→CM PV)(c2:bg)(d:PV)(x y:Option PV)(f:PV)(m:Option PV→Option PV→CM PV)(v:Option PV)(h:bg→CM PV)(a b u:PV)(a1:It)(f1:Nat)(a0:PV)(d5:bg)(p:PV)(a2:Option PV→CM PV)(c8 c0:PV)(f6 f7 f8 f9:Option PV)
def FT:CM (List PV):=aa (aa (ae .NotIn c0 f) fun c6=>af c6 (ret true) (ret false)) fun c7=>af c7 (ret [c0]) (ret [])
def FU:CM PV:=gC c8 (a2 (some p))
def kQ:=EZ c "_law_cases" [(1,0),(1,0),(0,0)] 0
def FV:CM PV:=aa (aa (au ai d (S "append")) fun c9=>aa (aa (aa (aa (da p) fun c1=>aa (bj c1) fun d0=>aa (av c1 (FT f) d0 0) fun d1=>cw d1) fun d2=>binop .Add f d2) fun d3=>ret [d3]) fun d4=>aj c c9 d d4) (FU p a2)
def kR:CM PV:=h d5
def FW:CM PV:=m (some f) v
def FX(c:Str→List PV→CM PV)(a:PV)(b:PV)(g:PV)(e:PV)(d:PV)(i:Option PV)(f:PV)(h:bg→CM PV)(w:It)(d6:Nat):CM PV:=ek w (kQ c) d6 0 [some a,some b,some g,some e,some d,some f,i] (kR h)
def FY(c:Str→List PV→CM PV)(a:PV)(b:PV)(g:PV)(e:PV)(d:PV)(i:Option PV)(f:PV)(h:bg→CM PV)(w:It):CM PV:=aa (bj w) (FX c a b g e d i f h w)
def FZ(c:Str→List PV→CM PV)(a:PV)(b:PV)(g:PV)(e:PV)(d:PV)(i:Option PV)(f:PV)(h:bg→CM PV):CM PV:=aa (aa (getItem a e) fun d7=>da d7) (FY c a b g e d i f h)
def F0(i:Option PV)(f:PV)(m:Option PV→Option PV→CM PV)(d8:PV):CM PV:=gC d8 (m (some f) i)
def oY(c:Str→List PV→CM PV)(d:PV)(i:Option PV)(f:PV)(m:Option PV→Option PV→CM PV):CM PV:=aa (aa (au ai d (S "append")) fun d9=>aj c d9 d [f]) (F0 i f m)
def Dy(c:Str→List PV→CM PV)(a:PV)(b:PV)(g:PV)(e:PV)(d:PV)(i:Option PV)(f:PV)(m:Option PV→Option PV→CM PV)(h:bg→CM PV)(e0:Bool):CM PV:=af e0 (FZ c a b g e d i f h) (oY c d i f m)
def gX:=EZ c "_law_cases" [(1,0)] 1
def Dz(c:Str→List PV→CM PV)(a:PV)(b:PV)(g:PV)(e:PV)(d:PV)(i:Option PV)(h:bg→CM PV)(f:PV)(m:Option PV→Option PV→CM PV):CM PV:=aa (aa (aa (binop .Add (.int 5) e) fun e1=>ae .In e1 f) fun e2=>af e2 (aa (aa (getItem a e) fun e3=>aa (new (.list [])) fun e4=>ae .NotEq e3 e4) fun e5=>af e5 (ret true) (ret false)) (ret false)) (Dy c a b g e d i f m h)
def gY:CM PV:=aa (dc c2 4) fun e6=>j (c2.set 2 (some e6))
def DA:CM PV:=c3 d (some e) (some d) x y
def oZ(c:Str→List PV→CM PV)(a:PV)(b:PV)(g:PV)(k:Option PV)(l:Option PV)(e:PV)(j:bg→CM PV)(d:PV)(z:It)(e7:Nat):CM PV:=ek z (gX c) e7 0 [some a,some b,some g,some e,some d,k,l] (gY j)
def DB(c:Str→List PV→CM PV)(a:PV)(b:PV)(g:PV)(k:Option PV)(l:Option PV)(e:PV)(j:bg→CM PV)(d:PV)(z:It):CM PV:=aa (bj z) (oZ c a b g k l e j d z)
def DC(c:Str→List PV→CM PV)(a:PV)(b:PV)(g:PV)(k:Option PV)(l:Option PV)(e:PV)(j:bg→CM PV)(d:PV):CM PV:=aa (da g) (DB c a b g k l e j d)
def jI:=EZ c "_law_cases" [] 1
def DD(c:Str→List PV→CM PV)(a:PV)(b:PV)(g:PV)(k:Option PV)(l:Option PV)(j:bg→CM PV)(e:PV)(c3:PV→Option PV→Option PV→Option PV→Option PV→CM PV):CM PV:=aa (new (.list [])) (DC c a b g k l e j)
def jJ:CM (List PV):=aa (aa (aa (ae .In (.int 3) n) fun a4=>af a4 (aa (ae .NotIn (.int 2) n) fun a5=>af a5 (ret true) (ret false)) (ret false)) fun a6=>af a6 (aa (new (.list [.int 2])) fun a7=>binop .Add n a7) (ret n)) fun a8=>ret [a8]
def pc:CM (List PV):=aa (aa (aa (ae .NotIn (.int 4) q) fun a9=>af a9 (ret true) (aa (ae .NotIn (.int 2) q) fun b0=>af b0 (ret true) (ret false))) fun b1=>af b1 (ret true) (ret false)) fun b2=>af b2 (ret [q]) (ret [])
def DE:CM PV:=aa (av r pc b3 0) cw
def DF:CM PV:=aa (bj r) (DE r)
def DG:CM PV:=aa (da b4) DF
def pd:CM PV:=aa (aa (aa (dc c4 2) fun e8=>da e8) fun t=>aa (bj t) fun b5=>aa (av t (fun n=>aa (aa (aa (ae .In (.int 3) n) fun a4=>af a4 (aa (ae .NotIn (.int 2) n) fun a5=>af a5 (ret true) (ret false)) (ret false)) fun a6=>af a6 (aa (new (.list [.int 2])) fun a7=>binop .Add n a7) (ret n)) fun a8=>ret [a8]) b5 0) fun b6=>cw b6) fun b4=>aa (aa (dc (c4.set 2 (some b4)) 2) fun e9=>da e9) fun r=>aa (bj r) fun b3=>aa (av r (fun q=>aa (aa (aa (ae .NotIn (.int 4) q) fun a9=>af a9 (ret true) (aa (ae .NotIn (.int 2) q) fun b0=>af b0 (ret true) (ret false))) fun b1=>af b1 (ret true) (ret false)) fun b2=>af b2 (ret [q]) (ret [])) b3 0) fun f0=>cw f0
def DH:CM PV:=aa (aa (da a0) fun t=>aa (bj t) fun b5=>aa (av t jJ b5 0) fun b6=>cw b6) DG
def pg:CM PV:=ek a1 (jI c) f1 0 [some a,some b,some u,none,none,none,none] pd
def DI:CM PV:=aa (bj a1) (pg c a b u a1)
def DJ:CM PV:=aa (da (.tup [.int 2,.int 1,.int 0])) (DI c a b u)
def DK:CM PV:=aa (new (.list [b])) (DJ c a b)
theorem Ab(c:Str→List PV→CM PV)(a:PV)(b:PV)(g:PV)(e:PV)(d:PV)(f:PV)(p:PV)(a3:bg→CM PV)(f2:Option PV):kQ c p [some a,some b,some g,some e,some d,some f,f2] a3=FV c d f p (fun o=>a3 [some a,some b,some g,some e,some d,some f,o]):=by kernel_rfl!
theorem Ac(h:bg→CM PV)(a:PV)(b:PV)(g:PV)(e:PV)(d:PV)(f:PV)(v:Option PV):kR h [some a,some b,some g,some e,some d,some f,v]=FW f (fun s o=>h [some a,some b,some g,some e,some d,s,o]) v:=by kernel_rfl!
theorem wC(c:Str→List PV→CM PV)(a:PV)(b:PV)(g:PV)(e:PV)(d:PV)(f:PV)(h:bg→CM PV)(f3:Option PV)(i:Option PV):gX c f [some a,some b,some g,some e,some d,f3,i] h=Dz c a b g e d i h f (fun s o=>h [some a,some b,some g,some e,some d,s,o]):=by kernel_rfl!
theorem wD(j:bg→CM PV)(a:PV)(b:PV)(g:PV)(e:PV)(d:PV)(x:Option PV)(y:Option PV):gY j [some a,some b,some g,some e,some d,x,y]=DA e (fun b7 b8 b9 s o=>j [some a,some b,some b7,b8,b9,s,o]) d x y:=by kernel_rfl!
theorem wE(c:Str→List PV→CM PV)(a:PV)(b:PV)(e:PV)(j:bg→CM PV)(g:PV)(f4:Option PV)(f5:Option PV)(k:Option PV)(l:Option PV):jI c e [some a,some b,some g,f4,f5,k,l] j=DD c a b g k l j e (fun b7 b8 b9 s o=>j [some a,some b,some b7,b8,b9,s,o]):=by kernel_rfl!
theorem wF:pd [some a,some b,some a0,f6,f7,f8,f9]=DH a0:=by kernel_rfl!
theorem Iq(c5:Nat)(a b:PV):Φ (c5+1) (S "_law_cases") [a,b]=(DK (Φ c5) a b):=by rw[bo];kernel_rfl!
end
section
variable(c a b:PV)(s:bg)(f:bg→CM PV)(q:Option PV→CM PV)(r:Bool)(k h:PV)(g:It)(a1:Nat)(a2 a4:Option PV)
def ue:CM (List PV):=aa (aa (ae .In h b) fun i=>ret (.bool i)) fun j=>ret [j]
def Jk:CM (List PV):=aa (aa (aa (aa (da k) fun d=>aa (bj d) fun l=>aa (av d (ue b) l 0) fun m=>cw m) fun n=>ret [n]) fun o=>blt .all o) fun p=>ret [p]
def Jl:CM PV:=af r (ret (.bool false)) (q (some b))
def mz:CM PV:=aa (aa (aa (aa (aa (aa (aa (dc (s.set 2 (some b)) 1) fun z=>da z) fun e=>aa (bj e) fun t=>aa (av e (fun k=>aa (aa (aa (aa (da k) fun d=>aa (bj d) fun l=>aa (av d (fun h=>aa (aa (aa (rN (XM (s.set 2 (some b)) 2)) fun a0=>ae .In h a0) fun i=>ret (.bool i)) fun j=>ret [j]) l 0) fun m=>cw m) fun n=>ret [n]) fun o=>blt .all o) fun p=>ret [p]) t 0) fun u=>cw u) fun v=>ret [v]) fun w=>blt .any w) fun x=>truth x) fun y=>ret (!y)) fun r=>af r (ret (.bool false)) (f (s.set 2 (some b)))
def Jm:CM PV:=aa (aa (aa (aa (aa (aa (da a) fun e=>aa (bj e) fun t=>aa (av e (Jk b) t 0) fun u=>cw u) fun v=>ret [v]) fun w=>blt .any w) fun x=>truth x) fun y=>ret (!y)) (Jl b q)
def mB(a6:bg):CM PV:=ret (.bool true)
def Jn:CM PV:=ret (.bool true)
def uf:CM PV:=ek g mz a1 0 [some c,some a,none,none] mB
def Jo:CM PV:=aa (bj g) (uf c a g)
def Jp:CM PV:=aa (da c) (Jo c a)
theorem DL:mz b [some c,some a,a2,none] f=Jm a b (fun a3=>f [some c,some a,a3,none]):=by kernel_rfl!
theorem DM:mB [some c,some a,a4,none]=Jn:=by kernel_rfl!
theorem KX(a5:Nat)(c a:PV):Φ (a5+1) (S "_law_goes") [c,a]=(Jp c a):=by rw[bo];kernel_rfl!
end
section
variable(c:Str→List PV→CM PV)(b a h j:PV)(q:List PV)(d:PV)
def Jq:CM (List PV):=aa (getItem a h) fun i=>ret [i]
def ug:CM (List PV):=aa (aa (aa (aa (aa (da j) fun e=>aa (bj e) fun k=>aa (av e (Jq a) k 0) fun l=>cw l) fun m=>ret [m]) fun n=>ret (b::n)) fun o=>c (S "inter") o) fun p=>ret [p]
def Jr:CM PV:=c (S "union") q
def Js:CM PV:=aa (aa (aa (aa (da d) fun f=>aa (bj f) fun r=>aa (av f (ug c b a) r 0) fun s=>cw s) fun t=>ret [t]) fun u=>ret (b::u)) (Jr c)
theorem KY(g:Nat)(b a d:PV):Φ (g+1) (S "_law_kind") [b,a,d]=(Js (Φ g) b a d):=by rw[bo];kernel_rfl!
end
section
variable(a b:PV)
def F1:CM (List PV):=aa (aa (aa (ae .NotEq b (.int 2)) fun d=>af d (ret true) (aa (ae .NotIn (.int 3) a) fun e=>af e (ret true) (ret false))) fun f=>af f (ret true) (ret false)) fun g=>af g (ret [b]) (ret [])
def F2:CM PV:=aa (aa (aa (da a) fun c=>aa (bj c) fun h=>aa (av c (F1 a) h 0) fun i=>cw i) fun j=>ret [j]) (blt .sorted)
theorem Ir(k:Nat)(a:PV):Φ (k+1) (S "_law_plain") [a]=(F2 a):=by rw[bo];kernel_rfl!
end
section
variable(d:Str→List PV→CM PV)(a b c:PV)(g:Meth)(h:Bool)(e:PV)
def FP:CM PV:=aj d g a [b,c]
def FQ:CM PV:=aa (au ai a (S "ask")) (FP d a b c)
def qV:CM PV:=af h (d (S "from_inter") [a,b,c]) (FQ d a b c)
def FS:CM PV:=aa (aa (aa (blt .len [e]) fun i=>ae .Eq i (.int 1)) fun j=>af j (aa (aa (aa (aa (getItem e (.int 0)) fun k=>ret [k]) fun l=>blt .len l) fun m=>ae .Eq m (.int 1)) fun n=>af n (ret true) (ret false)) (ret false)) (qV d a b c)
theorem sZ(f:Nat)(a b c e:PV):Φ (f+1) (S "_law_asked") [a,b,c,e]=(FS (Φ f) a b c e):=by rw[bo];kernel_rfl!
end
section
variable(i3:PV)(a:Str→List PV→CM PV)(o9 r4 r5 f8:PV)(z6:Bool)(z7 a2 f g d c b cL cK:PV)(aI:Bool)(e2:PV)(aD:Bool)(e1:PV)(z9:Bool)(a7:PV)(e7:It)(cJ:Nat)(k:Option PV)(e:PV)(e6:It)(cD:Nat)(y8:PV)(l:Option PV)(h:PV)(e5:It)(cC:Nat)(n a6:Option PV)(x:PV)(a8:Option PV→Option PV→Option PV→CM PV)(m7 a9 m5 c4 f3 m2 l8 f2 c3:PV)(f0:Option PV→CM PV)(j5 c2:PV)(e9:bg→CM PV)(cV:Option PV)(e8:Option PV→CM PV)(i4:PV)(d2:Option PV→Option PV→Option PV→Option PV→Option PV→Option PV→CM PV)(w:PV)(q:Option PV)(i h0 f7 j h7 z0 o r:PV)(e4:It)(bC:Nat)(b3 c9 b4 b5 b6 b7:Option PV)(e3:It)(bB:Nat)(d9 g5:PV)(c5 c6 c7 c8:Option PV)(q9 a1:PV)(a4:Option PV→Option PV→Option PV→Option PV→CM PV)(a3 a5 b1:PV)(p3:Bool)(p1 d1 f5:PV)(y:Option PV)(m:PV)(s:Option PV→Option PV→Option PV→Option PV→Option PV→Option PV→Option PV→Option PV→Option PV→CM PV)(p t u v:PV)(y2:Bool)(z a0:PV)(x4:Bool)(d4:PV)(w0:Bool)(b2:PV)(u2:Bool)(d3:PV)(s8:Bool)
def QT:CM (List PV):=ret [i3]
def X4:CM PV:=gC i4 (e8 (some c2))
def QU:=EZ a "law" [] 7
def QV:CM PV:=aa (aa (au ai a7 (S "append")) fun i5=>aa (aa (aa (au ai c (S "put")) fun i6=>aa (aa (aa (aa (aa (aa (au ai c (S "put")) fun i7=>aj a i7 c [c2]) fun i8=>ret [i8,.int 0]) fun i9=>ret ((.int 11)::i9)) fun j0=>gB j0) fun j1=>ret [j1]) fun j2=>aj a i6 c j2) fun j3=>ret [j3]) fun j4=>aj a i5 a7 j4) (X4 c2 e8)
def X5:CM PV:=gC j5 (f0 (some c3))
def QW:=EZ a "law" [] 9
def QX:CM PV:=aa (aa (au ai e (S "append")) fun j6=>aa (aa (aa (au ai c (S "put")) fun j7=>aa (aa (aa (aa (aa (aa (aa (aa (aa (aa (getItem e (.int 3)) fun j8=>ret [j8,.int 0,.int 0]) fun j9=>ret (c3::j9)) fun k0=>gB k0) fun k1=>ret [k1]) fun k2=>gB k2) fun k3=>ret [k3,.tup [],.tup [],.tup [],.tup [],.int 0]) fun k4=>ret ((.int 8)::k4)) fun k5=>gB k5) fun k6=>ret [k6]) fun k7=>aj a j7 c k7) fun k8=>ret [k8]) fun k9=>aj a j6 e k9) (X5 c3 f0)
def QY(a:Str→List PV→CM PV)(d:PV)(x:PV)(eJ:PV):CM (List PV):=aa (aa (aa (aa (binop .Add (.int 7) x) fun l0=>ret [l0,.int 2,.int 1]) fun l1=>ret (d::l1)) fun l2=>a (S "_law_some") l2) fun l3=>ret [l3]
def X6:CM (List PV):=aa (aa (aa (binop .Add (.int 5) x) fun l4=>ae .Lt f2 l4) fun l5=>af l5 (ret f2) (aa (binop .Add f2 (.int 3)) fun l6=>binop .Sub l6 x)) fun l7=>ret [l7]
def QZ:CM (List PV):=aa (aa (da l8) fun g2=>aa (bj g2) fun l9=>aa (av g2 (X6 x) l9 0) fun m0=>cw m0) fun m1=>ret [m1]
def UY(x:PV)(a8:Option PV→Option PV→Option PV→CM PV)(a9:PV)(c4:PV)(eK:Unit):CM PV:=a8 (some x) (some a9) (some c4)
def UZ:CM PV:=aa (setItem e m2 f3) (UY x a8 a9 c4)
def Mv:CM PV:=aa (binop .Add (.int 5) x) (UZ e x a8 a9 c4 f3)
def U0:CM PV:=aa (a (S "new_param") (c::((.str (S "T"))::[c4,.int (-1)]))) (Mv e x a8 a9 c4)
def U1:CM PV:=aa (aa (aa (blt .len [a9]) fun m3=>ae .Gt m3 (.int 0)) fun m4=>af m4 (a (S "_law_kind") (c::(e::[a9]))) (ret (.int (-1)))) (U0 a c e x a8 a9)
def U2:CM PV:=gC m5 (U1 a c e x a8 a9)
def U3:CM PV:=aa (aa (au ai h (S "append")) fun m6=>aj a m6 h [a9]) (U2 a c e x a8 a9)
def U4:CM PV:=aa (aa (da m7) fun g3=>aa (bj g3) fun m8=>aa (av g3 (QZ x) m8 0) fun m9=>cw m9) (U3 a c e h x a8)
def Dq:=EZ a "law" [] 11
def Mw:CM PV:=aa (aa (aa (aa (aa (aa (aa (ae .Eq x (.int 0)) fun n0=>af n0 (ret (.int 3)) (ret (.int 2))) fun n1=>ret [n1]) fun n2=>ret (d::n2)) fun n3=>a (S "_law_take") n3) fun n4=>gj n4) fun g4=>aa (bj g4) fun n5=>aa (av g4 (QY a d x) n5 0) fun n6=>cw n6) (U4 a c e h x a8)
def U5:CM (List PV):=aa (aa (ae .NotIn g5 d9) fun n7=>af n7 (ret true) (ret false)) fun n8=>af n8 (ret [g5]) (ret [])
def Mx(a:Str→List PV→CM PV)(d:PV)(a3:PV)(eM:PV):CM (List PV):=aa (aa (aa (aa (aa (blt .len [a3]) fun n9=>ret [n9]) fun o0=>ret (d::o0)) fun o1=>a (S "_law_take") o1) fun o2=>getItem a3 o2) fun o3=>ret [o3]
def My:CM (List PV):=aa (aa (aa (getItem d1 f5) fun o4=>aa (slice d1 none (some f5) none) fun o5=>ae .NotIn o4 o5) fun o6=>af o6 (ret true) (ret false)) fun o7=>af o7 (aa (getItem d1 f5) fun o8=>ret [o8]) (ret [])
def Mz:CM (List PV):=aa (a (S "_law_plain") [o9]) fun p0=>ret [p0]
def U6:CM PV:=a4 (some b1) (some a1) (some a3) (some a5)
def U7:CM PV:=gC p1 (U6 a1 a4 a3 a5 b1)
def U8:CM PV:=aa (aa (au ai w (S "append")) fun p2=>aj a p2 w [b1]) (U7 a1 a4 a3 a5 b1)
def U9:CM PV:=a4 (some b1) (some a1) (some a3) (some a5)
def Va:CM PV:=af p3 (U8 a w a1 a4 a3 a5 b1) (U9 a1 a4 a3 a5 b1)
def Vb:CM PV:=aa (aa (a (S "_law_plain") [b1]) fun p4=>aa (aa (da w) fun g6=>aa (bj g6) fun p5=>aa (av g6 (Mz a) p5 0) fun p6=>cw p6) fun p7=>ae .NotIn p4 p7) (Va a w a1 a4 a3 a5 b1)
def MA:CM PV:=aa (aa (aa (blt .len [d1]) fun p8=>gj p8) fun g7=>aa (bj g7) fun p9=>aa (av g7 (My d1) p9 0) fun q0=>cw q0) (Vb a w a1 a4 a3 a5)
def Vc:CM PV:=aa (aa (ae .Lt a5 (.int 3)) fun q1=>af q1 (aa (aa (binop .Add (.int 1) a5) fun q2=>gj q2) fun g8=>aa (bj g8) fun q3=>aa (av g8 (Mx a d a3) q3 0) fun q4=>cw q4) (a (S "_law_some") [d,.int 10,.int 3,.int 1])) (MA a w a1 a4 a3 a5)
def Vd:CM PV:=aa (a (S "_law_take") [d,.int 4]) (Vc a d w a1 a4 a3)
def uc:=EZ a "law" [(17,0)] 1
def MB(a:Str→List PV→CM PV)(d:PV)(i:PV)(o:PV)(w:PV)(a1:PV)(a4:Option PV→Option PV→Option PV→Option PV→CM PV):CM PV:=aa (aa (aa (blt .len [o]) fun q5=>ae .Gt q5 (.int 0)) fun q6=>af q6 (aa (aa (blt .len [o]) fun q7=>binop .Mod a1 q7) fun q8=>getItem o q8) (ret i)) (Vd a d w a1 a4)
def Ve:CM PV:=d2 (some a2) (some w) c5 c6 c7 c8
def Vf:CM PV:=gC q9 (Ve a2 d2 w c5 c6 c7 c8)
def Dr:=SP a "law" [(17,0)] 2
def Vg(a:Str→List PV→CM PV)(r:PV)(a2:PV)(d2:Option PV→Option PV→Option PV→Option PV→Option PV→Option PV→CM PV)(w:PV)(c5:Option PV)(c6:Option PV)(c7:Option PV)(c8:Option PV):CM PV:=aa (aa (au ai r (S "append")) fun r0=>aj a r0 r [w]) (Vf a2 d2 w c5 c6 c7 c8)
def Vh(a:Str→List PV→CM PV)(f:PV)(g:PV)(d:PV)(c:PV)(b:PV)(k:Option PV)(e:PV)(l:Option PV)(h:PV)(n:Option PV)(q:Option PV)(i:PV)(j:PV)(o:PV)(r:PV)(b8:Option PV)(b9:Option PV)(c0:Option PV)(c1:Option PV)(a2:PV)(b0:bg→CM PV)(w:PV)(e0:It)(r1:Nat):CM PV:=ek e0 (uc a) r1 0 [some f,some g,some d,some c,some b,some e,k,l,some h,n,some a2,some w,b8,q,some i,some j,some o,some r,b9,c0,c1,none,none,none,none,none,none,none,none,none,none,none,none,none,none,none,none,none,none,none,none,none,none,none,none,none] (Dr a b0)
def Vi(a:Str→List PV→CM PV)(f:PV)(g:PV)(d:PV)(c:PV)(b:PV)(k:Option PV)(e:PV)(l:Option PV)(h:PV)(n:Option PV)(q:Option PV)(i:PV)(j:PV)(o:PV)(r:PV)(b8:Option PV)(b9:Option PV)(c0:Option PV)(c1:Option PV)(a2:PV)(b0:bg→CM PV)(w:PV)(e0:It):CM PV:=aa (bj e0) (Vh a f g d c b k e l h n q i j o r b8 b9 c0 c1 a2 b0 w e0)
def Vj(a:Str→List PV→CM PV)(f:PV)(g:PV)(d:PV)(c:PV)(b:PV)(k:Option PV)(e:PV)(l:Option PV)(h:PV)(n:Option PV)(q:Option PV)(i:PV)(j:PV)(o:PV)(r:PV)(b8:Option PV)(b9:Option PV)(c0:Option PV)(c1:Option PV)(a2:PV)(b0:bg→CM PV)(w:PV):CM PV:=aa (aa (aa (a (S "_law_take") [d,.int 2]) fun r2=>binop .Add (.int 1) r2) fun r3=>gj r3) (Vi a f g d c b k e l h n q i j o r b8 b9 c0 c1 a2 b0 w)
def Ds:=EZ a "law" [] 17
def MC(a:Str→List PV→CM PV)(f:PV)(g:PV)(d:PV)(c:PV)(b:PV)(k:Option PV)(e:PV)(l:Option PV)(h:PV)(n:Option PV)(q:Option PV)(i:PV)(j:PV)(o:PV)(r:PV)(b8:Option PV)(b9:Option PV)(c0:Option PV)(c1:Option PV)(b0:bg→CM PV)(a2:PV)(d2:Option PV→Option PV→Option PV→Option PV→Option PV→Option PV→CM PV):CM PV:=aa (new (.list [])) (Vj a f g d c b k e l h n q i j o r b8 b9 c0 c1 a2 b0)
def MD:CM (List PV):=ret [r4]
def ME:CM (List PV):=aa (da r5) fun g9=>aa (bj g9) fun r6=>av g9 MD r6 0
def Vk:CM (List PV):=aa (aa (aa (ae .Gt f7 (.int 7)) fun r7=>af r7 (aa (ae .NotIn f7 i) fun r8=>af r8 (ret true) (ret false)) (ret false)) fun r9=>af r9 (ret true) (ret false)) fun s0=>af s0 (ret [f7]) (ret [])
def MF:CM (List PV):=aa (aa (aa (blt .len [h0]) fun s1=>ae .Gt s1 (.int 1)) fun s2=>af s2 (ret true) (ret false)) fun s3=>af s3 (aa (da h0) fun h1=>aa (bj h1) fun s4=>av h1 (Vk i) s4 0) (ret [])
def MG:CM (List PV):=aa (aa (aa (ae .Lt (.int 4) f8) fun s5=>af s5 (ae .Lt f8 (.int 8)) (ret false)) fun s6=>af s6 (ret true) (ret false)) fun s7=>af s7 (ret [f8]) (ret [])
def Vl:CM PV:=s (some m) (some p) (some t) (some u) (some v) (some z) (some a0) (some b2) (some d3)
def Vm:CM PV:=af s8 (ret (.bool false)) (Vl m s p t u v z a0 b2 d3)
def Vn:CM PV:=aa (aa (aa (aa (au ai b (S "same")) fun s9=>aj a s9 b (j::[p])) fun t0=>ae .NotEq t0 d3) fun t1=>af t1 (ret true) (aa (aa (a (S "_law_asked") (b::(j::(p::[m])))) fun t2=>ae .NotEq t2 u) fun t3=>af t3 (ret true) (ret false))) (Vm m s p t u v z a0 b2 d3)
def Vo:CM PV:=aa (aa (aa (blt .len [m]) fun t4=>aa (ae .Eq t4 (.int 1)) fun t5=>ret (.bool t5)) fun h2=>aa (truth h2) fun t6=>af t6 (aa (aa (aa (getItem m (.int 0)) fun t7=>ret [t7]) fun t8=>a (S "_law_plain") t8) fun t9=>aa (aa (a (S "_law_plain") [i]) fun u0=>ae .Eq t9 u0) fun u1=>ret (.bool u1)) (ret h2)) (Vn a b j m s p t u v z a0 b2)
def Dt:CM PV:=af u2 (ret (.bool false)) (Vo a b i j m s p t u v z a0 b2)
def Vp:CM PV:=aa (aa (aa (aa (truth u) fun u3=>ret (!u3)) fun u4=>af u4 (aa (aa (aa (new (.list [])) fun u5=>ae .Eq b2 u5) fun u6=>af u6 (ret true) (aa (aa (aa (aa (getItem h (.int 0)) fun u7=>ret [u7]) fun u8=>blt .len u8) fun u9=>ae .Lt u9 (.int 2)) fun v0=>af v0 (ret true) (ret false))) fun v1=>af v1 (ret true) (ret false)) (ret false)) fun v2=>af v2 (ret true) (aa (aa (aa (truth v) fun v3=>ret (!v3)) fun v4=>af v4 (aa (aa (new (.list [])) fun v5=>ae .Eq b2 v5) fun v6=>af v6 (ret true) (ret false)) (ret false)) fun v7=>af v7 (ret true) (ret false))) (Dt a b i j m s p t u v z a0 b2)
def Vq:CM PV:=aa (aa (da z) fun h3=>aa (bj h3) fun v8=>aa (av h3 MG v8 0) fun v9=>cw v9) (Vp a b h i j m s p t u v z a0)
def Vr:CM PV:=s (some m) (some p) (some t) (some u) (some v) (some z) (some a0) y (some d4)
def Vt:CM PV:=af w0 (ret (.bool false)) (Vr y m s p t u v z a0 d4)
def Vu:CM PV:=aa (aa (aa (aa (au ai b (S "same")) fun w1=>aj a w1 b (j::[p])) fun w2=>ae .NotEq w2 d4) fun w3=>af w3 (ret true) (aa (aa (a (S "_law_asked") (b::(j::(p::[m])))) fun w4=>ae .NotEq w4 u) fun w5=>af w5 (ret true) (ret false))) (Vt y m s p t u v z a0 d4)
def Vv:CM PV:=aa (aa (aa (blt .len [m]) fun w6=>aa (ae .Eq w6 (.int 1)) fun w7=>ret (.bool w7)) fun h4=>aa (truth h4) fun w8=>af w8 (aa (aa (aa (getItem m (.int 0)) fun w9=>ret [w9]) fun x0=>a (S "_law_plain") x0) fun x1=>aa (aa (a (S "_law_plain") [i]) fun x2=>ae .Eq x1 x2) fun x3=>ret (.bool x3)) (ret h4)) (Vu a b j y m s p t u v z a0)
def MH:CM PV:=af x4 (Vq a b h i j m s p t u v z a0) (Vv a b i j y m s p t u v z a0)
def Vw:CM PV:=aa (aa (aa (new (.list [])) fun x5=>ae .Eq a0 x5) fun x6=>af x6 (aa (truth t) fun x7=>af x7 (ret true) (ret false)) (ret false)) (MH a b h i j y m s p t u v z a0)
def Vx:CM PV:=aa (aa (da m) fun h5=>aa (bj h5) fun x8=>aa (av h5 (MF i) x8 0) fun x9=>cw x9) (Vw a b h i j y m s p t u v z)
def Vy:CM PV:=aa (aa (da m) fun h6=>aa (bj h6) fun y0=>aa (av h6 ME y0 0) fun y1=>cw y1) (Vx a b h i j y m s p t u v)
def Vz:CM PV:=af y2 (ret (.bool false)) (Vy a b h i j y m s p t u v)
def VA:CM PV:=aa (aa (aa (truth u) fun y3=>af y3 (ret true) (aa (truth v) fun y4=>af y4 (ret true) (ret false))) fun y5=>af y5 (aa (aa (truth t) fun y6=>ret (!y6)) fun y7=>af y7 (ret true) (ret false)) (ret false)) (Vz a b h i j y m s p t u v)
def VB:CM PV:=aa (a (S "by_bounds") (b::(j::[p]))) (VA a b h i j y m s p t u)
def VC:CM PV:=aa (a (S "_law_asked") (b::(j::(p::[m])))) (VB a b h i j y m s p t)
def VD:CM PV:=aa (a (S "_law_goes") (o::[m])) (VC a b h i j y m s p)
def Du:=EZ a "law" [] 18
def MI:CM PV:=aa (a (S "_law_kind") (c::(e::[m]))) (VD a b h i j o y m s)
def VE:CM (List PV):=aa (getItem e y8) fun y9=>ret [y9]
def MJ:CM (List PV):=aa (aa (au ai b (S "ask")) fun z1=>aa (aa (aa (getItem e z0) fun z2=>ret [z2]) fun z3=>ret (j::z3)) fun z4=>aj a z1 b z4) fun z5=>ret [z5]
def VF:CM PV:=ret (.bool z6)
def VG:CM PV:=aa (aa (new (.dict [])) fun z8=>ae .Eq z7 z8) VF
def VH:CM PV:=af z9 (aa (ar b (S "assumed")) VG) (ret e1)
def VI:CM PV:=aa (truth e1) (VH b e1)
def VJ:CM PV:=aa (aa (ar b (S "trail")) fun aA=>aa (aa (new (.list [])) fun aB=>ae .Eq aA aB) fun aC=>ret (.bool aC)) (VI b)
def VK:CM PV:=af aD (VJ b) (ret e2)
def VL:CM PV:=aa (truth e2) (VK b e2)
def MK:CM PV:=aa (aa (aa (ar b (S "notes")) fun aE=>ar aE (S "rows")) fun aF=>aa (aa (new (.list [])) fun aG=>ae .Eq aF aG) fun aH=>ret (.bool aH)) (VL b)
def VM:CM PV:=af aI (ret (.bool false)) (MK b)
def VN:CM PV:=aa (aa (aa (aa (aa (au ai b (S "ask")) fun aJ=>aj a aJ b (j::[h7])) fun aK=>truth aK) fun aL=>ret (!aL)) fun aM=>af aM (ret true) (aa (aa (aa (aa (au ai b (S "same")) fun aN=>aj a aN b (j::[h7])) fun aO=>truth aO) fun aP=>ret (!aP)) fun aQ=>af aQ (ret true) (aa (aa (aa (da i) fun h8=>aa (bj h8) fun aR=>aa (av h8 (MJ a b e j) aR 0) fun aS=>cw aS) fun aT=>ae .In (.bool false) aT) fun aU=>af aU (ret true) (ret false)))) (VM b)
def Dw:=SP a "law" [] 19 yI
def ML:CM PV:=aa (aa (aa (aa (aa (aa (slice i none none (some (.int (-1)))) fun aV=>da aV) fun h9=>aa (bj h9) fun aW=>aa (av h9 (VE e) aW 0) fun aX=>cw aX) fun aY=>ret [aY]) fun aZ=>ret (c::aZ)) fun bA=>a (S "inter") bA) (VN a b e i j)
def MM:CM PV:=ek e3 (Du a) bB 0 [some f,some g,some d,some c,some b,some e,k,l,some h,n,b3,c9,b4,q,some i,some j,some o,some r,b5,b6,b7,none,none,none,none,none,none,none,none,none,none,none,none,none,none,none,none,none,none,none,none,none,none,none,none,none] (Dw a)
def VO:CM PV:=aa (bj e3) (MM a f g d c b k e l h n q i j o r b3 c9 b4 b5 b6 b7 e3)
def ud:=SP a "law" [] 18 yI
def VP:CM PV:=aa (da r) (VO a f g d c b k e l h n q i j o r b3 c9 b4 b5 b6 b7)
def VQ:CM PV:=ek e4 (Ds a) bC 0 [some f,some g,some d,some c,some b,some e,k,l,some h,n,none,a6,none,q,some i,some j,some o,some r,none,none,none,none,none,none,none,none,none,none,none,none,none,none,none,none,none,none,none,none,none,none,none,none,none,none,none,none] (ud a)
def VS:CM PV:=aa (bj e4) (VQ a f g d c b k e l h n a6 q i j o r e4)
def VT:CM PV:=aa (aa (aa (aa (aa (blt .len [g]) fun bD=>ae .Lt bD (.int 7)) fun bE=>af bE (ret true) (aa (aa (ar b (S "mode")) fun bF=>ae .Eq bF (.int 4)) fun bG=>af bG (ret true) (ret false))) fun bH=>af bH (ret (.int 1)) (aa (aa (blt .len [g]) fun bI=>ae .Lt bI (.int 21)) fun bJ=>af bJ (ret (.int 2)) (ret (.int 3)))) fun bK=>gj bK) (VS a f g d c b k e l h n a6 q i j o r)
def MN:CM PV:=aa (aa (aa (aa (aa (slice i none (some (.int 1)) none) fun bL=>ret [bL]) fun bM=>Ck bM) fun bN=>ret [bN]) fun bO=>Ck bO) (VT a f g d c b k e l h n a6 q i j o)
def VU:CM PV:=aa (a (S "_law_cases") (h::[i])) (MN a f g d c b k e l h n a6 q i j)
def MO:CM PV:=aa (aa (aa (aa (aa (Ck [i]) fun bP=>ret [bP]) fun bQ=>ret (e::bQ)) fun bR=>ret (c::bR)) fun bS=>a (S "_law_kind") bS) (VU a f g d c b k e l h n a6 q i)
def VV:CM PV:=aa (aa (aa (aa (a (S "_law_some") [d,.int 10,.int 3,.int 0]) fun bT=>da bT) fun i0=>aa (bj i0) fun bU=>aa (av i0 (U5 d9) bU 0) fun bV=>cw bV) fun bW=>binop .Add d9 bW) (MO a f g d c b k e l h n a6 q)
def Dx:=SP a "law" [] 12 yI
def MQ:CM PV:=aa (aa (aa (aa (a (S "_law_take") [d,.int 3]) fun bX=>binop .Add (.int 5) bX) fun bY=>aa (aa (a (S "_law_take") [d,.int 2]) fun bZ=>ret [bZ]) fun cA=>ret (bY::cA)) fun cB=>Ck cB) (VV a f g d c b k e l h n a6 q)
def VW:CM PV:=ek e5 (Dq a) cC 0 [some f,some g,some d,some c,some b,some e,k,l,some h,none,none,none,none,none,none,none,none,none,none,none,none,none,none,none,none,none,none,none,none,none,none,none,none,none,none,none,none,none,none,none,none,none,none,none,none,none] (Dx a)
def VX:CM PV:=aa (bj e5) (VW a f g d c b k e l h e5)
def Sh:CM PV:=aa (gj (.int 3)) (VX a f g d c b k e l h)
def HJ:=SP a "law" [] 10 yI
def Si:CM PV:=aa (new (.list [])) (Sh a f g d c b k e l)
def Sj:CM PV:=ek e6 (QW a) cD 0 [some f,some g,some d,some c,some b,some e,k,none,none,none,none,none,none,none,none,none,none,none,none,none,none,none,none,none,none,none,none,none,none,none,none,none,none,none,none,none,none,none,none,none,none,none,none,none,none,none] (HJ a)
def Sk:CM PV:=aa (bj e6) (Sj a f g d c b k e e6)
def Sl:CM PV:=aa (da (.str (S "vw"))) (Sk a f g d c b k e)
def HK:=SP a "law" [] 8 yI
def Sm:CM PV:=aa (aa (aa (aa (aa (aa (au ai c (S "put")) fun cE=>aj a cE c [.tup [.int 3,.str (S "a"),.int 0]]) fun cF=>ret [cF,.int 7,.int (-1),.int (-1),.int (-1)]) fun cG=>ret ((.int 6)::cG)) fun cH=>Ck cH) fun cI=>binop .Add a7 cI) (Sl a f g d c b k)
def Sn:CM PV:=ek e7 (QU a) cJ 0 [some f,some g,some d,some c,some b,some a7,none,none,none,none,none,none,none,none,none,none,none,none,none,none,none,none,none,none,none,none,none,none,none,none,none,none,none,none,none,none,none,none,none,none,none,none,none,none,none,none] (HK a)
def So:CM PV:=aa (bj e7) (Sn a f g d c b a7 e7)
def Sq:CM PV:=aa (da (.tup [.tup [.int 3,.str (S "a"),.int 0],.tup [.int 4,.int 1,.int 0]])) (So a f g d c b a7)
def wA:CM PV:=aa (new (.list [])) (Sq a f g d c b)
def Sr:CM PV:=gC cK (wA a f g d c b)
def Ss:CM PV:=aa (a (S "install_rel_params") [b]) (Sr a f g d c b)
def Su:CM PV:=gC cL (Ss a f g d c b)
def wB:CM PV:=aa (a (S "install_rel_meets") [b]) (Su a f g d c b)
def HL:CM PV:=aa (aa (aa (jz a (S "BoundHost") [c] (some (some (S "Thin.__init__")))) fun cM=>aa (aa (aa (aa (a (S "_law_take") [d,.int 3]) fun cN=>ae .Eq cN (.int 2)) fun cO=>af cO (ret (.int 4)) (ret (.int 1))) fun cP=>ret [cP]) fun cQ=>ret (cM::cQ)) fun cR=>jz a (S "Rel") cR (some (some (S "Rel.__init__")))) (wB a f g d c)
def Sv:CM PV:=aa (jz a (S "TypeTable") [] (some (some (S "TypeTable.__init__")))) (HL a f g d)
def HM:CM PV:=aa (new (.list [.int 0,g])) (Sv a f g)
def Sw:CM PV:=aa (aa (aa (slice f none (some (.int 48)) none) fun cS=>da cS) fun i1=>aa (bj i1) fun cT=>aa (av i1 QT cT 0) fun cU=>cw cU) (HM a f)
theorem HN:QU a c2 [some f,some g,some d,some c,some b,some a7,cV,none,none,none,none,none,none,none,none,none,none,none,none,none,none,none,none,none,none,none,none,none,none,none,none,none,none,none,none,none,none,none,none,none,none,none,none,none,none,none] e9=QV a c a7 c2 (fun cW=>e9 [some f,some g,some d,some c,some b,some a7,cW,none,none,none,none,none,none,none,none,none,none,none,none,none,none,none,none,none,none,none,none,none,none,none,none,none,none,none,none,none,none,none,none,none,none,none,none,none,none,none]):=by kernel_rfl!
theorem HO(a:Str→List PV→CM PV)(f:PV)(g:PV)(d:PV)(c:PV)(b:PV)(e:PV)(k:Option PV)(c3:PV)(f1:bg→CM PV)(cX:Option PV):QW a c3 [some f,some g,some d,some c,some b,some e,k,cX,none,none,none,none,none,none,none,none,none,none,none,none,none,none,none,none,none,none,none,none,none,none,none,none,none,none,none,none,none,none,none,none,none,none,none,none,none,none] f1=QX a c e c3 (fun cY=>f1 [some f,some g,some d,some c,some b,some e,k,cY,none,none,none,none,none,none,none,none,none,none,none,none,none,none,none,none,none,none,none,none,none,none,none,none,none,none,none,none,none,none,none,none,none,none,none,none,none,none]):=by kernel_rfl!
theorem O3(a:Str→List PV→CM PV)(f:PV)(g:PV)(d:PV)(c:PV)(b:PV)(e:PV)(k:Option PV)(l:Option PV)(h:PV)(x:PV)(f4:bg→CM PV)(cZ:Option PV)(dA:Option PV)(dB:Option PV):Dq a x [some f,some g,some d,some c,some b,some e,k,l,some h,cZ,none,dA,none,dB,none,none,none,none,none,none,none,none,none,none,none,none,none,none,none,none,none,none,none,none,none,none,none,none,none,none,none,none,none,none,none,none] f4=Mw a d c e h x (fun dC d0 g0=>f4 [some f,some g,some d,some c,some b,some e,k,l,some h,dC,none,d0,none,g0,none,none,none,none,none,none,none,none,none,none,none,none,none,none,none,none,none,none,none,none,none,none,none,none,none,none,none,none,none,none,none,none]):=by kernel_rfl!
theorem O4(a:Str→List PV→CM PV)(f:PV)(g:PV)(d:PV)(c:PV)(b:PV)(e:PV)(k:Option PV)(l:Option PV)(h:PV)(n:Option PV)(a2:PV)(w:PV)(q:Option PV)(i:PV)(j:PV)(o:PV)(r:PV)(a1:PV)(f6:bg→CM PV)(dD:Option PV)(dE:Option PV)(dF:Option PV)(dG:Option PV):uc a a1 [some f,some g,some d,some c,some b,some e,k,l,some h,n,some a2,some w,dD,q,some i,some j,some o,some r,dE,dF,dG,none,none,none,none,none,none,none,none,none,none,none,none,none,none,none,none,none,none,none,none,none,none,none,none,none] f6=MB a d i o w a1 (fun d5 d6 d7 d8=>f6 [some f,some g,some d,some c,some b,some e,k,l,some h,n,some a2,some w,d5,q,some i,some j,some o,some r,d6,d7,d8,none,none,none,none,none,none,none,none,none,none,none,none,none,none,none,none,none,none,none,none,none,none,none,none,none]):=by kernel_rfl!
theorem O5(a:Str→List PV→CM PV)(b0:bg→CM PV)(f:PV)(g:PV)(d:PV)(c:PV)(b:PV)(e:PV)(k:Option PV)(l:Option PV)(h:PV)(n:Option PV)(a2:PV)(w:PV)(q:Option PV)(i:PV)(j:PV)(o:PV)(r:PV)(c5:Option PV)(c6:Option PV)(c7:Option PV)(c8:Option PV):Dr a b0 [some f,some g,some d,some c,some b,some e,k,l,some h,n,some a2,some w,c5,q,some i,some j,some o,some r,c6,c7,c8,none,none,none,none,none,none,none,none,none,none,none,none,none,none,none,none,none,none,none,none,none,none,none,none,none]=Vg a r a2 (fun g1 d0 d5 d6 d7 d8=>b0 [some f,some g,some d,some c,some b,some e,k,l,some h,n,g1,d0,d5,q,some i,some j,some o,some r,d6,d7,d8,none,none,none,none,none,none,none,none,none,none,none,none,none,none,none,none,none,none,none,none,none,none,none,none,none]) w c5 c6 c7 c8:=by kernel_rfl!
theorem O6(a:Str→List PV→CM PV)(f:PV)(g:PV)(d:PV)(c:PV)(b:PV)(e:PV)(k:Option PV)(l:Option PV)(h:PV)(n:Option PV)(q:Option PV)(i:PV)(j:PV)(o:PV)(r:PV)(a2:PV)(b0:bg→CM PV)(dH:Option PV)(dI:Option PV)(b8:Option PV)(b9:Option PV)(c0:Option PV)(c1:Option PV):Ds a a2 [some f,some g,some d,some c,some b,some e,k,l,some h,n,dH,dI,b8,q,some i,some j,some o,some r,b9,c0,c1,none,none,none,none,none,none,none,none,none,none,none,none,none,none,none,none,none,none,none,none,none,none,none,none,none] b0=MC a f g d c b k e l h n q i j o r b8 b9 c0 c1 b0 a2 (fun g1 d0 d5 d6 d7 d8=>b0 [some f,some g,some d,some c,some b,some e,k,l,some h,n,g1,d0,d5,q,some i,some j,some o,some r,d6,d7,d8,none,none,none,none,none,none,none,none,none,none,none,none,none,none,none,none,none,none,none,none,none,none,none,none,none]):=by kernel_rfl!
theorem Dv(a:Str→List PV→CM PV)(f:PV)(g:PV)(d:PV)(c:PV)(b:PV)(e:PV)(k:Option PV)(l:Option PV)(h:PV)(n:Option PV)(b3:Option PV)(b4:Option PV)(i:PV)(j:PV)(o:PV)(r:PV)(b5:Option PV)(b6:Option PV)(b7:Option PV)(m:PV)(f9:bg→CM PV)(dJ:Option PV)(dK:Option PV)(dL:Option PV)(dM:Option PV)(dN:Option PV)(dO:Option PV)(dP:Option PV)(y:Option PV)(dQ:Option PV):Du a m [some f,some g,some d,some c,some b,some e,k,l,some h,n,b3,dJ,b4,dK,some i,some j,some o,some r,b5,b6,b7,dL,dM,dN,dO,dP,y,dQ,none,none,none,none,none,none,none,none,none,none,none,none,none,none,none,none,none,none] f9=MI a c b e h i j o y m (fun d0 g0 dR dS dT dU dV dW dX=>f9 [some f,some g,some d,some c,some b,some e,k,l,some h,n,b3,d0,b4,g0,some i,some j,some o,some r,b5,b6,b7,dR,dS,dT,dU,dV,dW,dX,none,none,none,none,none,none,none,none,none,none,none,none,none,none,none,none,none,none]):=by kernel_rfl!
theorem O7(a:Str→List PV→CM PV)(f:PV)(g:PV)(d:PV)(c:PV)(b:PV)(e:PV)(k:Option PV)(l:Option PV)(h:PV)(n:Option PV)(b3:Option PV)(b4:Option PV)(i:PV)(j:PV)(o:PV)(r:PV)(b5:Option PV)(b6:Option PV)(b7:Option PV)(dY:Option PV)(dZ:Option PV)(eA:Option PV)(eB:Option PV)(eC:Option PV)(eD:Option PV)(eE:Option PV)(eF:Option PV)(eG:Option PV):Dw a [some f,some g,some d,some c,some b,some e,k,l,some h,n,b3,dY,b4,dZ,some i,some j,some o,some r,b5,b6,b7,eA,eB,eC,eD,eE,eF,eG,none,none,none,none,none,none,none,none,none,none,none,none,none,none,none,none,none,none]=ML a c b e i j:=by kernel_rfl!
theorem O8(a:Str→List PV→CM PV)(f:PV)(g:PV)(d:PV)(c:PV)(b:PV)(e:PV)(k:Option PV)(l:Option PV)(h:PV)(n:Option PV)(q:Option PV)(i:PV)(j:PV)(o:PV)(r:PV)(b3:Option PV)(c9:Option PV)(b4:Option PV)(b5:Option PV)(b6:Option PV)(b7:Option PV):ud a [some f,some g,some d,some c,some b,some e,k,l,some h,n,b3,c9,b4,q,some i,some j,some o,some r,b5,b6,b7,none,none,none,none,none,none,none,none,none,none,none,none,none,none,none,none,none,none,none,none,none,none,none,none,none]=VP a f g d c b k e l h n q i j o r b3 c9 b4 b5 b6 b7:=by kernel_rfl!
theorem O9(a:Str→List PV→CM PV)(f:PV)(g:PV)(d:PV)(c:PV)(b:PV)(e:PV)(k:Option PV)(l:Option PV)(h:PV)(n:Option PV)(a6:Option PV)(q:Option PV):Dx a [some f,some g,some d,some c,some b,some e,k,l,some h,n,none,a6,none,q,none,none,none,none,none,none,none,none,none,none,none,none,none,none,none,none,none,none,none,none,none,none,none,none,none,none,none,none,none,none,none,none]=MQ a f g d c b k e l h n a6 q:=by kernel_rfl!
theorem Ms(a:Str→List PV→CM PV)(f:PV)(g:PV)(d:PV)(c:PV)(b:PV)(e:PV)(k:Option PV)(l:Option PV):HJ a [some f,some g,some d,some c,some b,some e,k,l,none,none,none,none,none,none,none,none,none,none,none,none,none,none,none,none,none,none,none,none,none,none,none,none,none,none,none,none,none,none,none,none,none,none,none,none,none,none]=Si a f g d c b k e l:=by kernel_rfl!
theorem Mu:HK a [some f,some g,some d,some c,some b,some a7,k,none,none,none,none,none,none,none,none,none,none,none,none,none,none,none,none,none,none,none,none,none,none,none,none,none,none,none,none,none,none,none,none,none,none,none,none,none,none,none]=Sm a f g d c b a7 k:=by kernel_rfl!
theorem ZF(i2:Nat)(f:PV):Φ (i2+1) (S "law") [f]=(Sw (Φ i2) f):=by rw[bo];kernel_rfl!
end
section
variable(a b:PV)
def vY(d:Unit):CM PV:=ret .none
def vZ:CM PV:=aa (ee ai.field a (S "rows") b) vY
def wc:CM PV:=aa (new (.list [])) (vZ a)
theorem yJ(c:Nat)(a:PV):Φ (c+1) (S "Notes.__init__") [a]=(wc a):=by rw[bo];kernel_rfl!
end
section
variable(b:Str→List PV→CM PV)(a c:PV)(f:bg→CM PV)(e:Option PV→CM PV)(h:PV)(d:It)(j:Nat)(k l m n o p q r:PV)(s u:Option PV)
def oJ:CM PV:=gC h (e (some c))
def fY:=EZ b "TypeTable.__init__" [] 10
def oK:CM PV:=aa (aa (au ai a (S "put")) fun i=>aj b i a [c]) (oJ c e)
def fZ(w:bg):CM PV:=ret .none
def oL:CM PV:=ret .none
def oM:CM PV:=ek d (fY b) j 0 [some a,none,none] fZ
def oN:CM PV:=aa (bj d) (oM b a d)
def oO(b:Str→List PV→CM PV)(a:PV)(x:Unit):CM PV:=aa (da (G "FIRST_ROWS")) (oN b a)
def oP(b:Str→List PV→CM PV)(a:PV)(y:Unit):CM PV:=aa (ee ai.field a (S "putting") (.int 0)) (oO b a)
def oQ(b:Str→List PV→CM PV)(a:PV)(z:Unit):CM PV:=aa (ee ai.field a (S "shaping") (.int 0)) (oP b a)
def nv:CM PV:=aa (ee ai.field a (S "renamed") k) (oQ b a)
def ny(b:Str→List PV→CM PV)(a:PV)(a0:Unit):CM PV:=aa (new (.dict [])) (nv b a)
def nz:CM PV:=aa (ee ai.field a (S "origins") l) (ny b a)
def nA(b:Str→List PV→CM PV)(a:PV)(a1:Unit):CM PV:=aa (new (.dict [])) (nz b a)
def nB:CM PV:=aa (ee ai.field a (S "names") m) (nA b a)
def nD(b:Str→List PV→CM PV)(a:PV)(a2:Unit):CM PV:=aa (new (.list [])) (nB b a)
def nE:CM PV:=aa (ee ai.field a (S "defaults") n) (nD b a)
def nG(b:Str→List PV→CM PV)(a:PV)(a3:Unit):CM PV:=aa (new (.list [])) (nE b a)
def nH:CM PV:=aa (ee ai.field a (S "bounds") o) (nG b a)
def nJ(b:Str→List PV→CM PV)(a:PV)(a4:Unit):CM PV:=aa (new (.list [])) (nH b a)
def nK:CM PV:=aa (ee ai.field a (S "decls") p) (nJ b a)
def nL(b:Str→List PV→CM PV)(a:PV)(a5:Unit):CM PV:=aa (new (.list [.none])) (nK b a)
def nM:CM PV:=aa (ee ai.field a (S "index") q) (nL b a)
def nN(b:Str→List PV→CM PV)(a:PV)(a6:Unit):CM PV:=aa (new (.dict [])) (nM b a)
def nO:CM PV:=aa (ee ai.field a (S "rows") r) (nN b a)
def nP:CM PV:=aa (new (.list [])) (nO b a)
theorem lZ:fY b c [some a,s,none] f=oK b a c (fun t=>f [some a,t,none]):=by kernel_rfl!
theorem ma:fZ [some a,u,none]=oL:=by kernel_rfl!
theorem qa(g:Nat)(a:PV):Φ (g+1) (S "TypeTable.__init__") [a]=(nP (Φ g) a):=by rw[bo];kernel_rfl!
end
section
variable(d:Str→List PV→CM PV)(b a c i h g:PV)(m:Bool)
def tR:CM PV:=getItem g a
def tS:CM PV:=aa (ar b (S "index")) (tR a)
def tT(c:PV)(o:Unit):CM PV:=ret c
def tU:CM PV:=aa (setItem h a c) (tT c)
def tV:CM PV:=aa (ar b (S "index")) (tU a c)
def tW:CM PV:=gC i (tV b a c)
def tX:CM PV:=aa (aa (ar b (S "rows")) fun e=>aa (au ai e (S "append")) fun j=>aj d j e [a]) (tW b a c)
def tY:CM PV:=aa (aa (aa (ar b (S "rows")) fun k=>ret [k]) fun l=>blt .len l) (tX d b a)
def tZ:CM PV:=af m (tS b a) (tY d b a)
def ua:CM PV:=aa (aa (ar b (S "index")) fun n=>ae .In a n) (tZ d b a)
theorem vF(f:Nat)(b a:PV):Φ (f+1) (S "TypeTable.put") [b,a]=(ua (Φ f) b a):=by rw[bo];kernel_rfl!
end
section
variable(b:Str→List PV→CM PV)(a f g h i j k d c:PV)
def Cv(l:Unit):CM PV:=ret .none
def Cw(a:PV)(m:Unit):CM PV:=aa (ee ai.field a (S "at") (.int 0)) Cv
def Cx(a:PV)(n:Unit):CM PV:=aa (ee ai.field a (S "missing") (.str (S ""))) (Cw a)
def Cy(a:PV)(o:Unit):CM PV:=aa (ee ai.field a (S "twin") .none) (Cx a)
def Cz(a:PV)(p:Unit):CM PV:=aa (ee ai.field a (S "telling") (.bool true)) (Cy a)
def CA:CM PV:=aa (ee ai.field a (S "notes") f) (Cz a)
def CB(b:Str→List PV→CM PV)(a:PV)(q:Unit):CM PV:=aa (jz b (S "Notes") [] (some (some (S "Notes.__init__")))) (CA a)
def CC(b:Str→List PV→CM PV)(a:PV)(r:Unit):CM PV:=aa (ee ai.field a (S "looks") (.int 0)) (CB b a)
def CD(b:Str→List PV→CM PV)(a:PV)(s:Unit):CM PV:=aa (ee ai.field a (S "deep") (.int 0)) (CC b a)
def CE:CM PV:=aa (ee ai.field a (S "road") g) (CD b a)
def yY(b:Str→List PV→CM PV)(a:PV)(t:Unit):CM PV:=aa (new (.list [])) (CE b a)
def yZ:CM PV:=aa (ee ai.field a (S "trail") h) (yY b a)
def za(b:Str→List PV→CM PV)(a:PV)(u:Unit):CM PV:=aa (new (.list [])) (yZ b a)
def zb:CM PV:=aa (ee ai.field a (S "known") i) (za b a)
def zc(b:Str→List PV→CM PV)(a:PV)(v:Unit):CM PV:=aa (new (.dict [])) (zb b a)
def zd:CM PV:=aa (ee ai.field a (S "assumed") j) (zc b a)
def ze(b:Str→List PV→CM PV)(a:PV)(w:Unit):CM PV:=aa (new (.dict [])) (zd b a)
def zf:CM PV:=aa (ee ai.field a (S "rules") k) (ze b a)
def zg(b:Str→List PV→CM PV)(a:PV)(x:Unit):CM PV:=aa (new (.dict [])) (zf b a)
def zh(b:Str→List PV→CM PV)(a:PV)(c:PV)(y:Unit):CM PV:=aa (ee ai.field a (S "mode") c) (zg b a)
def zi:CM PV:=aa (ee ai.field a (S "host") d) (zh b a c)
theorem E8(e:Nat)(a d c:PV):Φ (e+1) (S "Rel.__init__") [a,d,c]=(zi (Φ e) a d c):=by rw[bo];kernel_rfl!
end
section
variable(e:Str→List PV→CM PV)(a b c:PV)
def LZ:CM PV:=e (S "ask_kinds") [a,b,c]
theorem lO(d:Nat)(a b c:PV):Φ (d+1) (S "Rel.ask") [a,b,c]=(LZ (Φ d) a b c):=by rw[bo];kernel_rfl!
end
section
variable(c:Str→List PV→CM PV)(d a b e:PV)(h:Meth)(f:PV)(i:Bool)
def I6:CM PV:=aj c h e [a,b]
def I7:CM PV:=aa (au ai e (S "ask")) (I6 c a b e)
def I8:CM PV:=aa (c (S "twin_of") [d]) (I7 c a b)
def I9:CM PV:=af i (ret f) (I8 c d a b)
def Ja:CM PV:=aa (truth f) (I9 c d a b f)
def Jb:CM PV:=aa (aa (ae .Eq a b) fun j=>ret (.bool j)) (Ja c d a b)
theorem KU(g:Nat)(d a b:PV):Φ (g+1) (S "Rel.same") [d,a,b]=(Jb (Φ g) d a b):=by rw[bo];kernel_rfl!
end
section
variable(a:PV)
def I5:CM PV:=aa (aa (aa (aa (aa (ar a (S "notes")) fun b=>ar b (S "rows")) fun c=>ret [c]) fun d=>blt .len d) fun e=>aa (aa (aa (aa (ar a (S "trail")) fun f=>ret [f]) fun g=>blt .len g) fun h=>ret [h]) fun i=>ret (e::i)) gB
theorem KS(j:Nat)(a:PV):Φ (j+1) (S "Rel.mark") [a]=(I5 a):=by rw[bo];kernel_rfl!
end
section
variable(d:PV)(e:Str→List PV→CM PV)(a b:PV)
def I4:CM PV:=gC d (ret .none)
def tQ:CM PV:=aa (e (S "cut_back") [a,b]) I4
theorem KP(c:Nat)(a b:PV):Φ (c+1) (S "Rel.back") [a,b]=(tQ (Φ c) a b):=by rw[bo];kernel_rfl!
end
section
variable(a b:PV)
def zj(d:Unit):CM PV:=ret .none
def zk(a:PV)(e:Unit):CM PV:=aa (ee ai.field a (S "lib") .none) zj
def zl(a:PV)(f:Unit):CM PV:=aa (ee ai.field a (S "most_deep") (.int 40)) (zk a)
def zm(a:PV)(g:Unit):CM PV:=aa (ee ai.field a (S "most_rounds") (.int 200)) (zl a)
def zn(a:PV)(h:Unit):CM PV:=aa (ee ai.field a (S "deep") (.int 0)) (zm a)
def zo:CM PV:=aa (ee ai.field a (S "tab") b) (zn a)
theorem BG(c:Nat)(a b:PV):Φ (c+1) (S "Thin.__init__") [a,b]=(zo a b):=by rw[bo];kernel_rfl!
end
section
variable(a:PV)
def oH:CM PV:=ret a
theorem E9(b:Nat)(c a:PV):Φ (b+1) (S "Thin.force") [c,a]=(oH a):=by rw[bo];kernel_rfl!
end
section
variable(c:Str→List PV→CM PV)(e:List PV)(a b:PV)
def qf:CM PV:=c (S "plain_shape") e
def iZ:CM PV:=aa (aa (ar a (S "tab")) fun f=>ret [f,b]) (qf c)
theorem rC(d:Nat)(a b:PV):Φ (d+1) (S "BoundHost.shape") [a,b]=(iZ (Φ d) a b):=by rw[bo];kernel_rfl!
end
section
variable(d:Str→List PV→CM PV)(a c b:PV)(g:Bool)(e:PV)(h:Bool)
def kL:CM PV:=af g (d (S "by_bounds") [a,c,b]) (d (S "from_inter") [a,c,b])
def kM:CM PV:=aa (ae .Eq e (.int 6)) (kL d a c b)
def kN:CM PV:=af h (d (S "to_inter") [a,c,b]) (kM d a c b e)
def kO:CM PV:=aa (ae .Eq e (.int 7)) (kN d a c b e)
def kP:CM PV:=aa (aa (aa (aa (aa (ar a (S "host")) fun i=>ar i (S "tab")) fun j=>ar j (S "rows")) fun k=>getItem k b) fun l=>getItem l (.int 0)) (kO d a c b)
theorem li(f:Nat)(m a c b:PV):Φ (f+1) (S "RelateMeetRule.holds") [m,a,c,b]=(kP (Φ f) a c b):=by rw[bo];kernel_rfl!
end
section
variable(d:Str→List PV→CM PV)(a b c e:PV)(g:Bool)
def qg:CM PV:=d (S "param_related") [a,b,c]
def qh:CM PV:=af g (qg d a b c) (ret e)
def qi:CM PV:=aa (truth e) (qh d a b c e)
def qj:CM PV:=aa (aa (ar a (S "mode")) fun h=>aa (ae .NotEq h (.int 3)) fun i=>ret (.bool i)) (qi d a b c)
theorem jt(f:Nat)(j a b c:PV):Φ (f+1) (S "ParamRule.holds") [j,a,b,c]=(qj (Φ f) a b c):=by rw[bo];kernel_rfl!
end
section
variable(c a b:PV)
end
end
end Mine
namespace Mine
open PySem
noncomputable def acb{α β:Type}(o:Option (α×CH))(f:α→CM β):Option (β×CH):=match o with
 | some p=>f p.1 p.2
 | none=>none
theorem oc{α β:Type}(m:CM α)(f:α→CM β)(H:CH):aa m f H=acb (m H) f:=rfl
theorem jC{α β:Type}(a:α)(H:CH)(f:α→CM β):acb (some (a,H)) f=f a H:=rfl
end Mine
namespace Mine
open PySem
theorem vI(n:Nat)(oG:PV):Φ (n+1) (S "whole_of_row") [oG]=(aa (getItem oG (.int 0)) fun x1=>aa (aa (ae .Eq x1 (.int 3)) fun b2=>af b2 (ret true) (aa (ae .Eq x1 (.int 18)) fun b3=>af b3 (ret true) (ret false))) fun b4=>af b4 (ret (.int 6)) (aa (ae .Eq x1 (.int 4)) fun b5=>af b5 (ret (.int 7)) (aa (ae .Eq x1 (.int 5)) fun b6=>af b6 (aa (aa (aa (aa (getItem oG (.int 3)) fun x7=>aa (aa (bc) fun x8=>ret [x8]) fun l9=>ret (x7::l9)) fun l10=>bc) fun Tg=>truth Tg) fun Tu=>af Tu (ret (.int 6)) (ret (.int 7))) (ret (.int (-1)))))):=(yP n oG).trans (by kernel_rfl!)
theorem vG(n:Nat)(kz Te:PV):Φ (n+1) (S "regular_twin") [kz,Te]=(aa (aa (ar kz (S "rows")) fun x1=>getItem x1 Te) fun x2=>aa (aa (aa (getItem x2 (.int 0)) fun x3=>ae .In x3 (G "MARKED_ROWS")) fun b4=>af b4 (aa (aa (getItem x2 (.int (-1))) fun x5=>ae .Eq x5 (.int 1)) fun b6=>af b6 (ret true) (ret false)) (ret false)) fun b7=>af b7 (aa (ar kz (S "index")) fun x8=>aa (au ai x8 (S "get")) fun f9=>aa (aa (aa (slice x2 none (some (.int (-1))) none) fun Ku=>binop .Add Ku (.tup [(.int 0)])) fun Tg=>ret [Tg,(.int (-1))]) fun l12=>aj (Φ n) f9 x8 l12) (ret (.int (-1)))):=(yL n kz Te).trans (by kernel_rfl!)
theorem vH(n:Nat)(kz p_s Te:PV):Φ (n+1) (S "shapes_clash") [kz,p_s,Te]=(aa (Φ n (S "flat_props") [kz,p_s]) fun x1=>aa (Φ n (S "flat_props") [kz,Te]) fun x2=>aa (aa (aa (aa (blt .sorted [x1]) fun x6=>da x6) fun t3=>aa (bj t3) fun n4=>aa (av t3 (fun v7=>aa (aa (aa (ae .In v7 x2) fun b8=>ret (.bool b8)) fun x9=>aa (truth x9) fun b15=>af b15 (aa (aa (aa (getItem x1 v7) fun Ku=>aa (aa (getItem x2 v7) fun Tg=>ret [Tg]) fun l12=>ret (Ku::l12)) fun l13=>ret (kz::l13)) fun l14=>Φ n (S "units_clash") l14) (ret x9)) fun x16=>ret [x16]) n4 0) fun l5=>cw l5) fun x17=>ret [x17]) fun l18=>blt .any l18):=(yM n kz p_s Te).trans (by kernel_rfl!)
theorem ox(n:Nat)(kz Te:PV):Φ (n+1) (S "flat_props") [kz,Te]=(aa (new (.dict [])) fun x1=>aa (new (.dict [])) fun x2=>aa (new (.list [Te])) fun x3=>fC (fun ρ4=>aa (dc ρ4 4) fun x7=>truth x7) (fun Rn k6=>aa (aa (dc Rn 4) fun x8=>aa (au ai x8 (S "pop")) fun f9=>aj (Φ n) f9 x8 []) fun Ku=>aa (aa (aa (dc (Rn.set 5 (some Ku)) 0) fun Tg=>ar Tg (S "rows")) fun x12=>aa (dc (Rn.set 5 (some Ku)) 5) fun x13=>getItem x12 x13) fun WB=>aa (aa (aa (dc ((((Rn.set 5 (some Ku)).set 6 (some WB)).set 7 (some (.tup []))).set 8 (some (.tup []))) 6) fun x15=>getItem x15 (.int 0)) fun x16=>ae .Eq x16 (.int 8)) fun b17=>af b17 (aa (aa (dc ((((Rn.set 5 (some Ku)).set 6 (some WB)).set 7 (some (.tup []))).set 8 (some (.tup []))) 6) fun x18=>getItem x18 (.int 1)) fun x19=>aa (aa (dc (((((Rn.set 5 (some Ku)).set 6 (some WB)).set 7 (some (.tup []))).set 8 (some (.tup []))).set 7 (some x19)) 7) fun x35=>da x35) fun t20=>aa (bj t20) fun n21=>ek t20 (fun v22 P4 k24=>aa (aa (aa (dc (P4.set 9 (some v22)) 9) fun x26=>getItem x26 (.int 0)) fun x27=>aa (dc (P4.set 9 (some v22)) 2) fun x28=>ae .NotIn x27 x28) fun b29=>af b29 (aa (dc (P4.set 9 (some v22)) 9) fun x30=>aa (dc (P4.set 9 (some v22)) 2) fun x31=>aa (aa (dc (P4.set 9 (some v22)) 9) fun x32=>getItem x32 (.int 0)) fun x33=>aa (setItem x31 x33 x30) fun u34=>k24 (P4.set 9 (some v22))) (k24 (P4.set 9 (some v22)))) n21 0 (((((Rn.set 5 (some Ku)).set 6 (some WB)).set 7 (some (.tup []))).set 8 (some (.tup []))).set 7 (some x19)) fun acM=>aa (aa (dc acM 8) fun x48=>da x48) fun t36=>aa (bj t36) fun n37=>ek t36 (fun v38 aaU k40=>aa (aa (dc (aaU.set 10 (some v38)) 4) fun x42=>aa (au ai x42 (S "insert")) fun f43=>aa (aa (aa (dc (aaU.set 10 (some v38)) 10) fun x44=>ret [x44]) fun l45=>ret ((.int 0)::l45)) fun l46=>aj (Φ n) f43 x42 l46) fun x47=>gC x47 (k40 (aaU.set 10 (some v38)))) n37 0 acM fun ae5=>k6 ae5) (aa (aa (aa (aa (dc ((((Rn.set 5 (some Ku)).set 6 (some WB)).set 7 (some (.tup []))).set 8 (some (.tup []))) 6) fun x49=>getItem x49 (.int 0)) fun x50=>ae .Eq x50 (.int 9)) fun b51=>af b51 (aa (aa (aa (dc ((((Rn.set 5 (some Ku)).set 6 (some WB)).set 7 (some (.tup []))).set 8 (some (.tup []))) 6) fun x52=>getItem x52 (.int 1)) fun x53=>aa (dc ((((Rn.set 5 (some Ku)).set 6 (some WB)).set 7 (some (.tup []))).set 8 (some (.tup []))) 3) fun x54=>ae .NotIn x53 x54) fun b55=>af b55 (ret true) (ret false)) (ret false)) fun b56=>af b56 (aa (dc ((((Rn.set 5 (some Ku)).set 6 (some WB)).set 7 (some (.tup []))).set 8 (some (.tup []))) 3) fun x57=>aa (aa (dc ((((Rn.set 5 (some Ku)).set 6 (some WB)).set 7 (some (.tup []))).set 8 (some (.tup []))) 6) fun x58=>getItem x58 (.int 1)) fun x59=>aa (setItem x57 x59 (.int 1)) fun u60=>bc) (aa (aa (dc ((((Rn.set 5 (some Ku)).set 6 (some WB)).set 7 (some (.tup []))).set 8 (some (.tup []))) 7) fun x76=>da x76) fun t61=>aa (bj t61) fun n62=>ek t61 (fun v63 P5 k65=>aa (aa (aa (dc (P5.set 9 (some v63)) 9) fun x67=>getItem x67 (.int 0)) fun x68=>aa (dc (P5.set 9 (some v63)) 2) fun x69=>ae .NotIn x68 x69) fun b70=>af b70 (aa (dc (P5.set 9 (some v63)) 9) fun x71=>aa (dc (P5.set 9 (some v63)) 2) fun x72=>aa (aa (dc (P5.set 9 (some v63)) 9) fun x73=>getItem x73 (.int 0)) fun x74=>aa (setItem x72 x74 x71) fun u75=>k65 (P5.set 9 (some v63))) (k65 (P5.set 9 (some v63)))) n62 0 ((((Rn.set 5 (some Ku)).set 6 (some WB)).set 7 (some (.tup []))).set 8 (some (.tup []))) fun acN=>aa (aa (dc acN 8) fun x89=>da x89) fun t77=>aa (bj t77) fun n78=>ek t77 (fun v79 aaV k81=>aa (aa (dc (aaV.set 10 (some v79)) 4) fun x83=>aa (au ai x83 (S "insert")) fun f84=>aa (aa (aa (dc (aaV.set 10 (some v79)) 10) fun x85=>ret [x85]) fun l86=>ret ((.int 0)::l86)) fun l87=>aj (Φ n) f84 x83 l87) fun x88=>gC x88 (k81 (aaV.set 10 (some v79)))) n78 0 acN fun ae6=>k6 ae6))) iF [some kz,some Te,some x1,some x2,some x3,none,none,none,none,none,none,none,none,none] fun ae7=>dc ae7 2):=(Fa n kz Te).trans (by kernel_rfl!)
theorem kf(n:Nat)(rO oG:PV):Φ (n+1) (S "TypeTable.put") [rO,oG]=(aa (aa (ar rO (S "index")) fun x1=>ae .In oG x1) fun b2=>af b2 (aa (ar rO (S "index")) fun x3=>getItem x3 oG) (aa (aa (aa (ar rO (S "rows")) fun x4=>ret [x4]) fun l5=>blt .len l5) fun x6=>aa (aa (ar rO (S "rows")) fun x7=>aa (au ai x7 (S "append")) fun f8=>aj (Φ n) f8 x7 [oG]) fun x9=>gC x9 (aa (ar rO (S "index")) fun Ku=>aa (setItem Ku oG x6) fun u11=>ret x6))):=(vF n rO oG).trans (by kernel_rfl!)
end Mine
namespace Mine
open PySem
theorem be{α β:Type}{m:CM α}{f:α→CM β}{H lc:CH}{a:α}(h:m H=some (a,lc)):aa m f H=f a lc:=by unfold aa;rw[h];rfl
theorem jZ{α β:Type}(a:α)(f:α→CM β):aa (ret a) f=f a:=rfl
theorem ZI{i:Nat}{o:CO}{H:CH}(h:H[i]?=some o):get i H=some (o,H):=by unfold get;rw[h];rfl
theorem YJ{β:Type}{b:Bool}(h:b=true)(m:CM β):fM b m=m:=by subst h;rfl
theorem EM{H:CH}{i j:Nat}{o q:CO}(h1:H[i]?=some o)(h2:H[j]?=some q)(e:ael i j=false):Nk H i j=Zx o q:=by unfold Nk;rw[e];rw[h1];rw[h2];rfl
theorem yy{β:Type}{f:CH→Option β}{a:β}{H:CH}(h:f H=some a):rd f H=some (a,H):=by unfold rd;rw[h];rfl
theorem QN{α β:Type}{o:Option α}{a:α}(h:o=some a)(f:α→CM β):gN o f=f a:=by subst h;rfl
theorem dx{β:Type}{i:Nat}{o:CO}{H:CH}(h:H[i]?=some o)(f:Nat→CO→CM β):mO (.ref i) f H=f i o H:=be (f:=f i) (ZI h)
theorem eL{β:Type}{i:Nat}{l:List PV}{H:CH}(h:H[i]?=some (.list l))(f:Nat→List PV→CM β):gv (.ref i) f H=f i l H:=dx h _
theorem Cq{β:Type}{i:Nat}{l:List (PV×PV)}{H:CH}(h:H[i]?=some (.dict l))(f:Nat→List (PV×PV)→CM β):QL (.ref i) f H=f i l H:=dx h _
theorem LQ{β:Type}{i:Nat}{c:Str}{l:List (Str×PV)}{H:CH}(h:H[i]?=some (.inst c l))(f:Nat→Str→List (Str×PV)→CM β):QM (.ref i) f H=f i c l H:=dx h _
theorem HC(l:List PV)(i:Nat):Ov (.snap l) i=LU l[i]?:=rfl
theorem cu{r:Nat}{l:List PV}{H:CH}(h:H[r]?=some (.list l)):bj (.live r) H=some (l.length,H):=eL h _
theorem pM{r i:Nat}{l:List PV}{x:PV}{H:CH}(h:H[r]?=some (.list l))(e:l[i]?=some x):Ov (.live r) i H=some (x,H):=by
 refine(eL h _).trans ?_
 rw[e];rfl
theorem dh{r:Nat}{l:List PV}{H:CH}(h:H[r]?=some (.list l)):da (.ref r) H=some (.live r,H):=eL h _
theorem jx{r:Nat}{l:List PV}{H:CH}(h:H[r]?=some (.list l)):qS (.live r) l.length H=some ((),H):=by
 unfold qS
 rw[be (cu h)];rw[Nat.beq_refl];rfl
noncomputable def gH(turn:PV→bg→(bg→CM PV)→CM PV):List PV→bg→(bg→CM PV)→CM PV
 | [],ρ,K=>K ρ
 | x::r,ρ,K=>turn x ρ fun hZ=>gH turn r hZ K
noncomputable def ed(turn:PV→CM (List PV)):List PV→CM (List PV)
 | []=>ret []
 | x::r=>aa (turn x) fun l=>aa (ed turn r) fun t=>ret (l++t)
theorem B1(l:List PV):qS (.snap l) l.length=ret ():=by
 funext H
 unfold qS bj
 rw[jZ];rw[Nat.beq_refl];rfl
theorem vK(turn:PV→bg→(bg→CM PV)→CM PV)(l:List PV):∀(n i:Nat) (ρ:bg) (K:bg→CM PV),i+n=l.length→ek (.snap l) turn n i ρ K=gH turn (l.drop i) ρ K
 | 0,i,ρ,K,h=>by
  have:i=l.length:=by lia
  subst this
  rw[ago]
  dsimp only[ek,gH]
  rw[B1];rw[jZ];rfl
 | n+1,i,ρ,K,h=>by
  have hi:i<l.length:=by lia
  rw[afK hi]
  dsimp only[ek,gH]
  rw[HC];rw[aa8 hi]
  show turn l[i] ρ _=turn l[i] ρ _
  congr 1
  funext hZ
  exact vK turn l n (i+1) hZ K (by lia)
theorem T6(turn:PV→bg→(bg→CM PV)→CM PV)(l:List PV)(ρ:bg)(K:bg→CM PV):(aa (bj (.snap l)) fun n=>ek (.snap l) turn n 0 ρ K)=gH turn l ρ K:=by
 unfold bj
 rw[jZ];rewrite[vK turn l l.length 0 ρ K (by lia)]
 rfl
theorem IA(turn:PV→bg→(bg→CM PV)→CM PV)(l:List PV)(ρ:bg)(K:bg→CM PV):(aa (da (.tup l)) fun t=>aa (bj t) fun n=>ek t turn n 0 ρ K)=gH turn l ρ K:=T6 turn l ρ K
theorem qI(turn:PV→CM (List PV))(l:List PV):∀(n i:Nat),i+n=l.length→av (.snap l) turn n i=ed turn (l.drop i)
 | 0,i,h=>by
  have:i=l.length:=by lia
  subst this
  rw[ago]
  dsimp only[av,ed]
  rw[B1];rw[jZ];rfl
 | n+1,i,h=>by
  have hi:i<l.length:=by lia
  rw[afK hi]
  dsimp only[av,ed]
  rw[HC];rw[aa8 hi];rewrite[qI turn l n (i+1) (by lia)]
  rfl
theorem iK{H H':CH}{i:Nat}{o:CO}(p:H <+: H')(h:H[i]?=some o):H'[i]?=some o:=by
 obtain⟨t,rfl⟩:=p
 rw[ac3 (aa9.mp h).1]
 exact h
end Mine
namespace Mine
open PySem
structure eN where
 tab:Nat
 rws:Nat
 idx:Nat
 dec:Nat
 NS:Nat
 xX:Nat
 yl:Nat
 org:Nat
 ren:Nat
noncomputable def tabObj(c:eN):CO:=.inst (S "TypeTable") [(S "rows",.ref c.rws),(S "index",.ref c.idx),(S "decls",.ref c.dec),(S "bounds",.ref c.NS),(S "defaults",.ref c.xX),(S "names",.ref c.yl),(S "origins",.ref c.org),(S "renamed",.ref c.ren),(S "shaping",.int 0),(S "putting",.int 0)]
noncomputable def fW:Nat→List PV→List (PV×PV)
 | _,[]=>[]
 | i,r::t=>(r,.int i)::fW (i+1) t
noncomputable def gx(r:PV):Prop:=fN r=true∧∃l,r=.tup l
structure Tb(c:eN)(H:CH)(rows:List PV)(bs:List PV):Prop where
 fT:H[0]?=some IK
 tab:H[c.tab]?=some (tabObj c)
 rws:H[c.rws]?=some (.list rows)
 idx:H[c.idx]?=some (.dict (fW 0 rows))
 NS:H[c.NS]?=some (.list bs)
 ok:∀r∈rows,gx r
 sL:rows.Nodup
structure Ru(c:eN):Prop where
 d1:c.rws≠c.idx
 d2:c.tab≠c.rws
 d3:c.tab≠c.idx
 d4:c.NS≠c.rws
 d5:c.NS≠c.idx
 d6:2≤c.rws
 d7:2≤c.idx
theorem gR{r:Nat}{k:Str}{fs:List (Str×PV)}{a:Str}{v:PV}{H:CH}(h:H[r]?=some (.inst k fs))(e:look a fs=some v):ar (.ref r) a H=some (v,H):=by
 refine(LQ h _).trans ?_
 rw[e];rfl
theorem eR{r:Nat}{k:Str}{fs:List (Str×PV)}{m:Str}{f:Str}{H:CH}(h:H[r]?=some (.inst k fs))(e:look m fs=none)(e2:ai.IR k m=some f):au ai (.ref r) m H=some (.fn f,H):=by
 refine(dx h _).trans ?_
 dsimp only
 rw[e]
 dsimp only
 rw[e2];rfl
theorem ez{r:Nat}{l:List PV}{H:CH}(h:H[r]?=some (.list l)):au ai (.ref r) (S "append") H=some (.append,H):=by
 exact dx h _
theorem rM{r:Nat}{l:List PV}{H:CH}(h:H[r]?=some (.list l)):au ai (.ref r) (S "pop") H=some (.pop,H):=by
 exact dx h _
theorem Cj{r:Nat}{l:List (PV×PV)}{H:CH}(h:H[r]?=some (.dict l)):au ai (.ref r) (S "get") H=some (.KM,H):=by
 exact dx h _
variable{c:eN}{H:CH}{rows bs:List PV}
theorem Tb.qP(T:Tb c H rows bs):ar (.ref c.tab) (S "rows") H=some (.ref c.rws,H):=gR T.tab (by kernel_rfl!)
theorem Tb.Oj(T:Tb c H rows bs):ar (.ref c.tab) (S "index") H=some (.ref c.idx,H):=gR T.tab (by kernel_rfl!)
theorem gh{r n:Nat}{l:List PV}{v:PV}(h:H[r]?=some (.list l))(e:l[n]?=some v):getItem (.ref r) (.int n) H=some (v,H):=by
 unfold getItem
 dsimp only
 rewrite[dx h]
 show LU l[n]? H=_
 rw[e];rfl
theorem Tb.RR(T:Tb c H rows bs){t:Nat}{r:PV}(e:rows[t]?=some r):(aa (ar (.ref c.tab) (S "rows")) fun x=>getItem x (.int t)) H=some (r,H):=by
 rw[be T.qP]
 exact gh T.rws e
end Mine
namespace Mine
open PySem
variable{H:CH}
theorem in_dict{r:Nat}{l:List (PV×PV)}{x:PV}(h:H[r]?=some (.dict l))(k:cy x l=true):ae .In x (.ref r) H=some ((br x l).isSome,H):=by
 show contains x (.ref r) H=_
 unfold contains
 dsimp only
 rewrite[dx h]
 dsimp only
 rw[k];rfl
theorem notin_dict{r:Nat}{l:List (PV×PV)}{x:PV}(h:H[r]?=some (.dict l))(k:cy x l=true):ae .NotIn x (.ref r) H=some (!(br x l).isSome,H):=by
 show aa (contains x (.ref r)) (fun b=>ret (!b)) H=_
 rewrite[be (show contains x (.ref r) H=some ((br x l).isSome,H)from in_dict h k)]
 rfl
theorem lR{r:Nat}{l:List (PV×PV)}{x v:PV}(h:H[r]?=some (.dict l))(k:cy x l=true)(e:br x l=some v):getItem (.ref r) x H=some (v,H):=by
 unfold getItem
 dsimp only
 rewrite[dx h]
 dsimp only
 rw[k];rewrite[YJ rfl];rw[e];rfl
theorem rP{r:Nat}{o:CO}(h:2≤r):put r o H=some ((),H.set r o):=by
 match r,h with
 | r+2,_=>rfl
theorem fL{r:Nat}{l:List (PV×PV)}{x v:PV}(h:H[r]?=some (.dict l))(k:cy x l=true)(m:l.length+1<ax)(h2:2≤r):setItem (.ref r) x v H=some ((),H.set r (.dict (gy x v l))):=by
 refine(dx h _).trans ?_
 dsimp only
 rw[k];rw[decide_eq_true m]
 exact rP h2
theorem Im{r:Nat}{l:List (PV×PV)}{x v:PV}(h:H[r]?=some (.dict l))(k:cy x l=true)(e:br x l=some v)(h2:2≤r):delItem (.ref r) x H=some ((),H.set r (.dict (sW x l))):=by
 refine(Cq h _).trans ?_
 rw[k];rw[e]
 exact rP h2
theorem len_list{r:Nat}{l:List PV}(h:H[r]?=some (.list l)):blt .len [.ref r] H=some (.int l.length,H):=by
 unfold blt iQ
 dsimp only
 rewrite[eL h]
 rfl
theorem iM{cl:Str→List PV→CM PV}{r:Nat}{l:List PV}{v:PV}(h:H[r]?=some (.list l))(m:l.length+1<ax)(h2:2≤r):aj cl .append (.ref r) [v] H=some (.none,H.set r (.list (l++[v]))):=by
 unfold aj
 try unfold iQ
 dsimp only
 rewrite[eL h]
 rw[decide_eq_true m];rewrite[YJ rfl];rw[be (rP h2)]
 rfl
theorem Q5{r:Nat}{k:Str}{fs:List (Str×PV)}{a:Str}{v:PV}(h:H[r]?=some (.inst k fs))(e:ai.field a=true)(m:fs.length+1<ax)(h2:2≤r):ee ai.field (.ref r) a v H=some ((),H.set r (.inst k (vL a v fs))):=by
 refine(LQ h _).trans ?_
 rw[e];rw[decide_eq_true m]
 exact rP h2
theorem oF(o:CO):new o H=some (.ref H.length,H++[o]):=rfl
theorem tv{o:CO}:(H++[o])[H.length]?=some o:=by rw[abE (aaX _)];rw[ads];rfl
theorem B6:∀(i:Nat) (rows:List PV),(fW i rows).length=rows.length
 | _,[]=>rfl
 | i,r::t=>by dsimp only[fW];rw[aaK];rw[aaK];rw[B6];rfl
theorem yd(x:PV):∀(i:Nat) (rows:List PV),fW i (rows++[x])=fW i rows++[(x,.int (i+rows.length:Nat))]
 | i,[]=>rfl
 | i,r::t=>by
  rw[afu]
  dsimp only[fW]
  rw[yd x (i+1) t];rw[afu];rw[aaK]
  congr 5
  lia
theorem Nq{r:PV}(h:gx r):tH r=3:=by obtain⟨zz,l,rfl⟩:=h;rfl
theorem Qz{x:PV}(hx:gx x):∀{i:Nat} {rows:List PV},(∀r∈rows,gx r)→cy x (fW i rows)=true:=by
 intro i rows h
 unfold cy
 rewrite[hx.1];rw[Nq hx];rw[age]
 induction rows generalizing i with
 | nil=>rfl
 | cons r t ih =>
  dsimp only[fW,lU]
  rewrite[(h r (.head _)).1,Nq (h r (.head _)),ih fun y hy=>h y (.tail _ hy)]
  rfl
theorem Qy{x:PV}:∀{i:Nat} {rows:List PV},(∀r∈rows,gx r)→rows.Nodup→∀{t:Nat},rows[t]?=some x→br x (fW i rows)=some (.int (i+t:Nat))
 | i,[],_,_,t,e=>by simp at e
 | i,r::rs,h,nd,t,e=>by
  dsimp only[fW,br]
  rw[abU]at nd
  have hr:=lX 6 r x (h r (.head _)).1
  induction t with
  | zero =>
   simp only[List.getElem?_cons_zero,ae8]at e
   rw[hr.mpr e]
   rfl
  | succ t =>
   rw[List.getElem?_cons_succ]at e
   have qc:gw r x=false:=by
    rewrite[ado]
    intro q
    have:=hr.mp q
    subst this
    exact nd.1 (aea e)
   rw[qc]
   dsimp only
   rewrite[Qy (i:=i+1) (fun y hy=>h y (.tail _ hy)) nd.2 e]
   congr 2
   lia
theorem QA{x:PV}:∀{i:Nat} {rows:List PV},(∀r∈rows,gx r)→x∉rows→br x (fW i rows)=none
 | i,[],_,_=>rfl
 | i,r::rs,h,nm=>by
  dsimp only[fW,br]
  rw[aa2]at nm
  have qc:gw r x=false:=by
   rewrite[ado]
   intro q
   exact nm (.inl ((lX 6 r x (h r (.head _)).1).mp q).symm)
  rw[qc]
  exact QA (fun y hy=>h y (.tail _ hy)) fun q=>nm (.inr q)
theorem BD{x v:PV}:∀{l:List (PV×PV)},br x l=none→gy x v l=l++[(x,v)]
 | [],_=>rfl
 | p::r,h=>by
  dsimp only[br]at h
  dsimp only[gy]
  generalize q:gw p.1 x=zq;induction zq with
  | true=>rw[q]at h;exact zSn h
  | false =>
   rw[q]at h
   dsimp only at h ⊢
   rw[BD h]
   rfl
end Mine
namespace Mine
open PySem
variable{c:eN}{H:CH}{rows bs:List PV}
noncomputable def pW(c:eN)(H:CH)(rows:List PV)(r:PV):CH:=(H.set c.rws (.list (rows++[r]))).set c.idx (.dict (fW 0 (rows++[r])))
theorem gG{H:CH}{i j:Nat}{o:CO}(h:i≠j):(H.set i o)[j]?=H[j]?:=aeN h
theorem EW{H:CH}{i:Nat}{o p:CO}(h:H[i]?=some p):(H.set i o)[i]?=some o:=afi (aa9.mp h).1
theorem Tb.more(C:Ru c)(T:Tb c H rows bs){r:PV}(hr:gx r)(nm:r∉rows):Tb c (pW c H rows r) (rows++[r]) bs:=by
 unfold pW
 have h1:(H.set c.rws (.list (rows++[r])))[c.idx]?=some (.dict (fW 0 rows)):=by rw[gG C.d1];exact T.idx
 refine⟨?_,?_,?_,EW h1,?_,?_,?_⟩
 ·rewrite[gG (by have:=C.d7;lia),gG (by have:=C.d6;lia)];exact T.fT
 ·rw[gG C.d3.symm];rw[gG C.d2.symm];exact T.tab
 ·rw[gG C.d1.symm];exact EW T.rws
 ·rw[gG C.d5.symm];rw[gG C.d4.symm];exact T.NS
 ·intro x hx
  rcases aa7.mp hx with h | h
  ·exact T.ok x h
  ·cases aad.mp h;exact hr
 ·rewrite[acL]
  refine⟨T.sL,by simp,fun a ha b hb=>?_⟩
  cases aad.mp hb
  rintro rfl
  exact nm ha
theorem QS(C:Ru c)(T:Tb c H rows bs){r:PV}{t n:Nat}(e:rows[t]?=some r):Φ (n+1) (S "TypeTable.put") [.ref c.tab,r] H=some (.int t,H):=by
 have hr:=T.ok r (aea e)
 have hk:=Qz (i:=0) hr T.ok
 have hf:=Qy (i:=0) T.ok T.sL e
 rw[ad4]at hf
 rw[kf]
 rewrite[be (a:=true) (lc:=H)]
 ·show(aa (ar (.ref c.tab) (S "index")) fun x3=>getItem x3 r) H=_
  rw[be T.Oj]
  exact lR T.idx hk hf
 ·rw[be T.Oj];rw[in_dict T.idx hk];rw[hf];rfl
theorem QR(C:Ru c)(T:Tb c H rows bs){r:PV}{n:Nat}(hr:gx r)(nm:r∉rows)(m:rows.length+1<ax):Φ (n+1) (S "TypeTable.put") [.ref c.tab,r] H=some (.int rows.length,pW c H rows r):=by
 have hk:=Qz (i:=0) hr T.ok
 have hf:=QA (i:=0) T.ok nm
 rw[kf];rewrite[be (a:=false) (lc:=H)]
 ·unfold af
  dsimp only
  rewrite[be (a:=.int rows.length) (lc:=H)]
  ·rewrite[be (a:=.none) (lc:=H.set c.rws (.list (rows++[r])))]
   ·unfold gC
    dsimp only
    have hi:(H.set c.rws (.list (rows++[r])))[c.idx]?=some (.dict (fW 0 rows)):=by rw[gG C.d1];exact T.idx
    have ht:(H.set c.rws (.list (rows++[r])))[c.tab]?=some (tabObj c):=by rw[gG C.d2.symm];exact T.tab
    rewrite[be (gR ht (show look (S "index") _=some (.ref c.idx) by kernel_rfl!)),be (fL hi hk (by rw[B6];exact m) C.d7)]
    unfold pW
    rw[yd];rw[BD hf];rw[ad4]
    rfl
   ·rw[be T.qP];rw[be (ez T.rws)]
    exact iM T.rws m C.d6
  ·rewrite[be (a:=[.ref c.rws]) (lc:=H)]
   ·exact len_list T.rws
   ·rw[be T.qP];rfl
 ·rw[be T.Oj];rw[in_dict T.idx hk];rw[hf];rfl
end Mine
namespace Mine
open PySem
theorem qH{α β:Type}(m:CM α)(f:α→CM β)(H:CH):aa m f H=(m H).bind fun p=>f p.1 p.2:=by
 unfold aa
 cases m H <;> rfl
theorem hB{α:Type}(a:α)(H:CH):ret a H=some (a,H):=rfl
theorem iO{α:Type}(x y:CM α):af true x y=x:=rfl
theorem fV{α:Type}(x y:CM α):af false x y=y:=rfl
theorem dz(b:Bool)(H:CH):truth (.bool b) H=some (b,H):=rfl
theorem eq_int(a b:Int)(H:CH):ae .Eq (.int a) (.int b) H=some (a == b,H):=by
 rfl
theorem ne_int(a b:Int)(H:CH):ae .NotEq (.int a) (.int b) H=some (!(a == b),H):=by
 rfl
theorem lt_int(a b:Int)(H:CH):ae .Lt (.int a) (.int b) H=some (decide (a<b),H):=rfl
theorem le_int(a b:Int)(H:CH):ae .LtE (.int a) (.int b) H=some (decide (a≤b),H):=rfl
theorem gt_int(a b:Int)(H:CH):ae .Gt (.int a) (.int b) H=some (decide (b<a),H):=rfl
theorem ge_int(a b:Int)(H:CH):ae .GtE (.int a) (.int b) H=some (decide (b≤a),H):=rfl
theorem Wn(l:List PV)(n:Nat)(H:CH)(h:l.length<ax):getItem (.tup l) (.int n) H=LU l[n]? H:=by
 unfold getItem
 dsimp only
 rw[decide_eq_true h]
 rfl
theorem eO(k:CM PV):gC .none k=k:=rfl
theorem fR(i:Int)(k:CM PV):gC (.int i) k=k:=rfl
end Mine
namespace Mine
open PySem
theorem Lj(H:CH)(a:Int):∀l:List Int,has H (.int a) (l.map .int)=some (l.contains a)
 | []=>rfl
 | b::r=>by
  rw[ab6]
  dsimp only[has]
  rw[Lj H a r]
  have:H4 H (.int b) (.int a)=some (b == a):=rfl
  rw[this]
  dsimp only
  rw[List.contains_cons];rw[agK];rfl
theorem kj(H:CH)(a:Int)(l:List Int):ae .In (.int a) (.tup (l.map .int)) H=some (l.contains a,H):=by
 show contains (.int a) (.tup (l.map .int)) H=_
 exact yy (f:=fun H=>has H _ _) (Lj ..)
theorem OI(H:CH)(a:Int)(l:List Int):ae .NotIn (.int a) (.tup (l.map .int)) H=some (!l.contains a,H):=by
 show aa (contains (.int a) (.tup (l.map .int))) (fun b=>ret (!b)) H=_
 rewrite[be (show contains (.int a) (.tup (l.map .int)) H=some (l.contains a,H)from kj H a l)]
 rfl
theorem Bj:G "MARKED_ROWS" = .tup ([2,3,4,5,8].map .int):=by kernel_rfl!
theorem Rq:G "LITERAL_ROWS" = .tup ([2,3,4,5].map .int):=by kernel_rfl!
theorem jX:G "VALUE_ROWS" = .tup ([1,2,3,4,5].map .int):=by kernel_rfl!
theorem Bi:G "LIST_ROWS" = .tup ([11,12].map .int):=by kernel_rfl!
theorem nY:G "SHAPED_ROWS" = .tup ([8,9].map .int):=by kernel_rfl!
theorem ei:G "DEFERRED_ROWS" = .tup ([10,14,15,16,17,18,19].map .int):=by kernel_rfl!
theorem rx:G "OPEN_ROWS" = .tup ([6,7,10,14,15,16,17,18,19].map .int):=by kernel_rfl!
noncomputable def gK(x:Str):PV:=.tup [.str x,.int 16,.int 0,.int 0]
noncomputable def gJ(x:Str):PV:=.tup [.int 8,.tup [gK x],.tup [],.tup [],.tup [],.tup [],.int 0]
noncomputable def dy:Nat→PV
 | 0=>.tup [.int 11,.int 16,.int 0]
 | 1=>.tup [.int 11,.int 18,.int 0]
 | 2=>.tup [.int 1,.str (S "string")]
 | 3=>.tup [.int 3,.str (S "a"),.int 0]
 | 4=>.tup [.int 1,.str (S "number")]
 | 8=>gJ (S "v")
 | 9=>gJ (S "w")
 | k=>.tup [.int 10,.int (k-5:Nat)]
theorem iX{α:Type}{P:List α→Prop}(a:P [])(b:∀x,P [x])(c:∀x y r,P (x::y::r))(l:List α):P l:=by
 induction l with
 | nil=>exact a
 | cons x l=>induction l with
  | nil=>exact b x
  | cons y r=>exact c x y r
theorem Rj{α:Type}{P:List α→Prop}(a:P [])(b:∀x,P [x])(c:∀x y,P [x,y]){l:List α}(h:l.length≤2):P l :=
 iX (P:=fun l=>l.length≤2→P l) (fun zz=>a) (fun x zz=>b x) (fun x y r h=>by
  cases r with
  | nil=>exact c x y
  | cons _ _=>exact absurd h (Nat.not_le.mpr (adV 3 _))) l h
theorem Y9{α:Type}{P:List α→Prop}(a:P [])(b:∀x,P [x]){l:List α}(h:l.length≤1):P l :=
 iX (P:=fun l=>l.length≤1→P l) (fun zz=>a) (fun x zz=>b x) (fun x y r h=>absurd h (Nat.not_le.mpr (adV 2 _))) l h
theorem Kq{α:Type}{P:List α→Prop}(c:∀x y r,P (x::y::r)){l:List α}(h:2≤l.length):P l :=
 iX (P:=fun l=>2≤l.length→P l) (fun h=>absurd h (aha 1)) (fun zz h=>absurd h (aa3 1)) (fun x y r zz=>c x y r) l h
theorem Yt{f:Nat→Bool}{n:Nat}(h:(afa n).all f=true){k:Nat}(hk:k<n):f k=true:=adM.mp h k (agE.mpr hk)
@[elab_as_elim] theorem Wj{P:Nat→Prop}(a:P 0)(b:P 1)(c:P 2)(d:P 3)(e:P 4)(f:P 5)(g:P 6)(h:P 7)(i:P 8)(j:P 9):∀{k:Nat},k<10→P k
 | 0,_=>a
 | 1,_=>b
 | 2,_=>c
 | 3,_=>d
 | 4,_=>e
 | 5,_=>f
 | 6,_=>g
 | 7,_=>h
 | 8,_=>i
 | 9,_=>j
 | k+10,h=>absurd h (by lia)
end Mine
namespace Mine
open PySem
variable{c:eN}{H:CH}{rows bs:List PV}
theorem AR(x:PV)(l:List PV)(H:CH)(h:l.length<100):getItem (.tup (x::l)) (.int 0) H=some (x,H):=by
 rw[show(0:Int)=((0:Nat):Int)from rfl];rewrite[Wn _ _ _ (by rw[aaK];unfold ax;lia)]
 rfl
theorem Q3(l:List PV)(x:PV)(H:CH)(h:l.length<100):getItem (.tup (l++[x])) (.int (-1)) H=some (x,H):=by
 unfold getItem
 dsimp only
 rewrite[decide_eq_true (by rw[aaA];rw[abf];unfold ax;lia)]
 show LU (nth (l++[x]) (.negSucc 0)) H=_
 dsimp only[nth]
 rewrite[show afh (0+1) (l++[x]).length=true from ad6 (by rw[aaA];rw[abf];lia)]
 dsimp only
 rw[aaA];rw[abf];rw[agf];rw[abE (aaX _)];rw[ads]
 rfl
theorem fB(T:Tb c H rows bs){t n:Nat}{k:Int}{l:List PV}(e:rows[t]?=some (.tup (.int k::l)))(hl:l.length<90)(h:[2,3,4,5,8].contains k=false∨∃m z,l=m++[.int z]∧(z == 1)=false) :
  Φ (n+1) (S "regular_twin") [.ref c.tab,.int t] H=some (.int (-1),H):=by
 rw[vG];rw[be (T.RR e)]
 rewrite[be (a:=false) (lc:=H)]
 ·rfl
 ·rw[Bj]
  generalize q:[2,3,4,5,8].contains k=zq;induction zq with
  | false =>
   simp only[qH,AR _ _ _ (show l.length<100 by lia),kj,q,ac7,fV,hB]
  | true =>
   rcases h with h | ⟨m,z,rfl,hz⟩
   ·rw[q]at h;exact rr h
   ·have r:getItem (.tup (.int k::(m++[.int z]))) (.int (-1)) H=some (.int z,H):=Q3 (.int k::m) (.int z) H (by rw[aaA,abf]at hl;rw[aaK];lia)
    simp only[qH,AR _ _ _ (show(m++[PV.int z]).length<100 by lia),kj,q,ac7,iO,fV,hB,r,eq_int,hz]
end Mine
namespace Mine
open PySem
variable{c:eN}{H:CH}{rows bs:List PV}
theorem E2(T:Tb c H rows bs){t n k:Nat}(e:rows[t]?=some (dy k))(hk:k<10):Φ (n+1) (S "regular_twin") [.ref c.tab,.int t] H=some (.int (-1),H):=by
 exact Wj (P:=fun k=>rows[t]?=some (dy k)→Φ (n+1) (S "regular_twin") [.ref c.tab,.int t] H=some (.int (-1),H))
  (fun e=>fB T e (by decide) (.inl rfl)) (fun e=>fB T e (by decide) (.inl rfl)) (fun e=>fB T e (by decide) (.inl rfl))
  (fun e=>fB T e (by decide) (.inr ⟨[.str (S "a")],0,rfl,rfl⟩)) (fun e=>fB T e (by decide) (.inl rfl)) (fun e=>fB T e (by decide) (.inl rfl))
  (fun e=>fB T e (by decide) (.inl rfl)) (fun e=>fB T e (by decide) (.inl rfl))
  (fun e=>fB T e (by decide) (.inr ⟨[.tup [gK (S "v")],.tup [],.tup [],.tup [],.tup []],0,rfl,rfl⟩))
  (fun e=>fB T e (by decide) (.inr ⟨[.tup [gK (S "w")],.tup [],.tup [],.tup [],.tup []],0,rfl,rfl⟩)) hk e
noncomputable def fT:Nat→Nat
 | 0=>7
 | 1=>7
 | 2=>1
 | 3=>1
 | 4=>2
 | 8=>7
 | 9=>7
 | _=>0
theorem H6(k:Int)(l:List PV)(n:Nat)(hl:l.length<90)(h5:(k == 5)=false):Φ (n+1) (S "whole_of_row") [.tup (.int k::l)] H=some (.int (if(k == 3) || (k == 18)then 6 else if k == 4 then 7 else -1),H):=by
 rw[vI]
 simp only[qH,AR _ _ _ (show l.length<100 by lia),eq_int,ac7]
 cases h1:k == 3 <;> cases h2:k == 18 <;> cases h3:k == 4 <;> simp [iO,fV,hB,h5,h2,h3,qH,eq_int]
end Mine
namespace Mine
open PySem
variable{c:eN}{H:CH}{rows bs:List PV}
theorem Ql(T:Tb c H rows bs){cl:Str→List PV→CM PV}{t:Int}:(aa (au ai (.ref 0) (S "get")) fun f5=>aj cl f5 (.ref 0) [.int t,.int 0]) H=some ((br (.int t) [(.int 3,.int 6),(.int 4,.int 5),(.int 5,.int 4),(.int 6,.int 1),(.int 7,.int 2),(.int 10,.int 7)]).getD (.int 0),H):=by
 have h:=T.fT
 unfold IK at h
 rw[be (Cj h)]
 unfold aj
 try unfold iQ
 dsimp only
 rewrite[Cq h]
 rfl
theorem Qm(n:Nat)(tab:PV)(H:CH)(t:Nat)(k:Nat)(h:k=2∨k=4):kA (ka ai n) tab (.int t) (dy k) H=(aa (au ai (.ref 0) (S "get")) fun f5=>aj (ka ai n) f5 (.ref 0) [.int t,.int 0]) H :=
 h.elim (fun e=>e▸(by kernel_rfl!)) fun e=>e▸(by kernel_rfl!)
theorem tm(T:Tb c H rows bs){t n k:Nat}(e:rows[t]?=some (dy k))(hk:k<10)(h2:k=2→t=6)(h4:k=4→t=7):Φ (n+2) (S "family") [.ref c.tab,.int t] H=some (.int (fT k),H):=by
 rw[RH]
 show aa (aa (ar (.ref c.tab) (S "rows")) fun x=>getItem x (.int t)) (kA (Φ (n+1)) (.ref c.tab) (.int t)) H=_
 rw[be (T.RR e)];rw[bo]
 exact Wj (P:=fun k=>(k=2→t=6)→(k=4→t=7)→kA (ka ai (n+1)) (.ref c.tab) (.int t) (dy k) H=some (.int (fT k),H))
  (fun zz zz=>by kernel_rfl!) (fun zz zz=>by kernel_rfl!) (fun h zz=>by obtain rfl:=h rfl;exact(Qm _ _ _ _ 2 (.inl rfl)).trans (Ql T)) (fun zz zz=>by kernel_rfl!) (fun zz h=>by obtain rfl:=h rfl;exact(Qm _ _ _ _ 4 (.inr rfl)).trans (Ql T))
  (fun zz zz=>by kernel_rfl!) (fun zz zz=>by kernel_rfl!) (fun zz zz=>by kernel_rfl!) (fun zz zz=>by kernel_rfl!) (fun zz zz=>by kernel_rfl!) hk h2 h4
end Mine
namespace Mine
open PySem
variable{c:eN}{H:CH}{rows bs:List PV}
theorem Xd(H:CH)(a:CO)(r:List CO):(H++a::r)[H.length]?=some a:=by rw[abE (aaX _)];rw[ads];rfl
theorem KO(H:CH)(a b d:CO)(r:List CO):(H++a::b::d::r)[H.length+2]?=some d:=by rewrite[abE (by lia)];rw[show H.length+2-H.length=2 by lia];rfl
theorem acv(H:CH)(a x:CO)(r:List CO):(H++a::r).set H.length x=H++x::r:=by rw[agX _ _ (aaX _)];rw[ads];rfl
theorem Y5(H:CH)(a b d x:CO)(r:List CO):(H++a::b::d::r).set (H.length+2) x=H++a::b::x::r:=by rewrite[agX _ _ (by lia)];rw[show H.length+2-H.length=2 by lia];rfl
theorem kI(t:bg→CM Bool)(u:bg→(bg→CM PV)→CM PV)(n:Nat)(ρ:bg)(K:bg→CM PV):fC t u (n+1) ρ K=aa (t ρ) fun b=>af b (u ρ fun hZ=>fC t u n hZ K) (K ρ):=by
 conv=>lhs;dsimp only[fC]
 rfl
theorem jU{r:Nat}{l:List PV}{H:CH}(h:H[r]?=some (.list l)):truth (.ref r) H=some (!l.isEmpty,H):=by
 exact eL h _
theorem Ct{cl:Str→List PV→CM PV}{r:Nat}{l:List PV}{x:PV}{H:CH}(h:H[r]?=some (.list (l++[x])))(h2:2≤r):aj cl .pop (.ref r) [] H=some (x,H.set r (.list l)):=by
 unfold aj
 try unfold iQ
 dsimp only
 rewrite[eL h]
 rw[List.getLast?_concat];rewrite[QN rfl];rw[List.dropLast_concat];rw[be (rP h2)]
 rfl
theorem Tb.pre(T:Tb c H rows bs){H':CH}(p:H <+: H'):Tb c H' rows bs:=⟨iK p T.fT,iK p T.tab,iK p T.rws,iK p T.idx,iK p T.NS,T.ok,T.sL⟩
end Mine
namespace Mine
open PySem
variable{c:eN}{H:CH}{rows bs:List PV}
theorem Tb.two(C:Ru c)(T:Tb c H rows bs):2<H.length:=by
 have:=(aa9.mp T.rws).1
 have:=C.d6
 lia
theorem Ht(C:Ru c)(T:Tb c H rows bs){t n:Nat}{l:List PV}(e:rows[t]?=some (.tup (.int 11::l)))(hl:l.length<90) :
  Φ (n+1) (S "flat_props") [.ref c.tab,.int t] H=some (.ref H.length,H++[.dict [],.dict [],.list []]):=by
 have h2:=T.two C
 rw[ox]
 rw[be (oF _)];rw[be (oF _)];rw[be (oF _)]
 simp only[aaW,afu,afB,aaA,aaK,aez,ad4]
 rw[show iF=999998+1+1 from mH];rw[kI]
 have T':Tb c (H++[.dict [],.dict [],.list []]) rows bs:=T.pre (abY ..)
 rewrite[be (a:=true) (lc:=H++[.dict [],.dict [],.list [.int t]])]
 ·rw[iO]
  dsimp only[List.set]
  rewrite[be (a:=.int t) (lc:=H++[.dict [],.dict [],.list []])]
  ·rewrite[be (a:=.tup (.int 11::l)) (lc:=H++[.dict [],.dict [],.list []])]
   ·rewrite[be (a:=false) (lc:=H++[.dict [],.dict [],.list []])]
    ·rw[fV];rewrite[be (a:=false) (lc:=H++[.dict [],.dict [],.list []])]
     ·rw[fV]
      rewrite[show(aa (dc [some (.ref c.tab),some (.int t),some (.ref H.length),some (.ref (H.length+1)),some (.ref (H.length+1+1)),some (.int t),some (.tup (.int 11::l)),some (.tup []),some (.tup []),none,none,none,none,none] 7) fun x76=>da x76)=da (.tup [])from rfl];rw[IA]
      dsimp only[gH]
      rewrite[show(aa (dc [some (.ref c.tab),some (.int t),some (.ref H.length),some (.ref (H.length+1)),some (.ref (H.length+1+1)),some (.int t),some (.tup (.int 11::l)),some (.tup []),some (.tup []),none,none,none,none,none] 8) fun x76=>da x76)=da (.tup [])from rfl];rw[IA]
      dsimp only[gH]
      rw[kI];rewrite[be (a:=false) (lc:=H++[.dict [],.dict [],.list []])]
      ·rfl
      ·rewrite[show dc _ 4=ret (.ref (H.length+1+1))from rfl];rw[jZ];rw[jU (KO ..)]
       rfl
     ·rewrite[show dc _ 6=ret (.tup (.int 11::l))from rfl]
      simp only[qH,hB,ac7,AR _ _ _ (show l.length<100 by lia),eq_int]
      rfl
    ·rewrite[show dc _ 6=ret (.tup (.int 11::l))from rfl]
     simp only[qH,hB,ac7,AR _ _ _ (show l.length<100 by lia),eq_int]
     rfl
   ·rewrite[show dc _ 0=ret (.ref c.tab)from rfl,show dc _ 5=ret (.int t)from rfl]
    exact T'.RR e
  ·rewrite[show dc _ 4=ret (.ref (H.length+1+1))from rfl];rw[jZ];rw[be (rM (KO ..))]
   have:=Ct (cl:=Φ n) (l:=[]) (x:=.int t) (KO H (.dict []) (.dict []) (.list [.int t]) []) (by lia)
   rw[Y5]at this
   exact this
 ·rewrite[show dc _ 4=ret (.ref (H.length+1+1))from rfl];rw[jZ];rw[jU (KO ..)]
  rfl
end Mine
namespace Mine
open PySem
theorem hJ(v:PV)(r:bg):dc (some v::r) 0=ret v:=rfl
theorem hE(a:Option PV)(r:bg)(i:Nat):dc (a::r) (i+1)=dc r i:=rfl
theorem gW(a:Option PV)(r:bg):XM (a::r) 0=a:=rfl
theorem gV(a:Option PV)(r:bg)(i:Nat):XM (a::r) (i+1)=XM r i:=rfl
theorem eQ(l:List PV)(H:CH):da (.tup l) H=some (.snap l,H):=rfl
theorem bz(l:List PV)(H:CH):bj (.snap l) H=some (l.length,H):=rfl
theorem ch(turn:PV→bg→(bg→CM PV)→CM PV)(l:List PV)(ρ:bg)(K:bg→CM PV):ek (.snap l) turn l.length 0 ρ K=gH turn l ρ K:=vK turn l l.length 0 ρ K (ad4 _)
theorem eP(turn:PV→bg→(bg→CM PV)→CM PV)(ρ:bg)(K:bg→CM PV):gH turn [] ρ K=K ρ:=rfl
theorem eg(turn:PV→bg→(bg→CM PV)→CM PV)(x:PV)(r:List PV)(ρ:bg)(K:bg→CM PV):gH turn (x::r) ρ K=turn x ρ fun hZ=>gH turn r hZ K:=rfl
theorem ca(turn:PV→CM (List PV))(l:List PV):av (.snap l) turn l.length 0=ed turn l:=qI turn l l.length 0 (ad4 _)
theorem cz(turn:PV→CM (List PV)):ed turn []=ret []:=rfl
theorem ce(turn:PV→CM (List PV))(x:PV)(r:List PV):ed turn (x::r)=aa (turn x) fun l=>aa (ed turn r) fun t=>ret (l++t):=rfl
theorem dj(cl:Str→List PV→CM PV)(k:Str)(o:PV)(vs:List PV):aj cl (.fn k) o vs=cl k (o::vs):=rfl
variable{c:eN}{H:CH}{rows bs:List PV}
theorem Lc(C:Ru c)(T:Tb c H rows bs){t n:Nat}{x:Str}(e:rows[t]?=some (gJ x)) :
  Φ (n+1) (S "flat_props") [.ref c.tab,.int t] H=some (.ref H.length,H++[.dict [(.str x,gK x)],.dict [],.list []]):=by
 have h2:=T.two C
 have T':Tb c (H++[.dict [],.dict [],.list []]) rows bs:=T.pre (abY ..)
 have hr:=T'.RR e
 have p1:=Ct (cl:=Φ n) (l:=[]) (x:=.int t) (KO H (.dict []) (.dict []) (.list [.int t]) []) (by lia)
 rw[Y5]at p1
 have p0:=jU (KO H (.dict []) (.dict []) (.list [.int t]) [])
 have p2:=rM (KO H (.dict []) (.dict []) (.list [.int t]) [])
 have q0:=jU (KO H (.dict [(.str x,gK x)]) (.dict []) (.list []) [])
 have f1:=notin_dict (x:=.str x) (Xd H (.dict []) [.dict [],.list []]) rfl
 have f2:=fL (x:=.str x) (v:=gK x) (Xd H (.dict []) [.dict [],.list []]) rfl (by unfold ax;decide) (by lia)
 rw[acv]at f2
 have k0:getItem (gJ x) (.int 0) (H++[.dict [],.dict [],.list []])=some (.int 8,H++[.dict [],.dict [],.list []]):=rfl
 have k1:getItem (gJ x) (.int 1) (H++[.dict [],.dict [],.list []])=some (.tup [gK x],H++[.dict [],.dict [],.list []]):=rfl
 have k2:getItem (gK x) (.int 0) (H++[.dict [],.dict [],.list []])=some (.str x,H++[.dict [],.dict [],.list []]):=rfl
 rw[qH]at hr
 rw[ox]
 rw[be (oF _)];rw[be (oF _)];rw[be (oF _)]
 simp only[aaW,afu,afB,aaA,aaK,aez,ad4]
 obtain⟨N,hN⟩:∃N,iF=N+1+1:=⟨999998,mH⟩
 rw[hN];rw[kI]
 simp only[qH,hB,ac7,hJ,hE,rN,gW,gV,acq,acg,iO,fV,dz,eO,fR,eq_int,ne_int,lt_int,le_int,gt_int,ge_int,adm,adl,adg,adc,eQ,bz,ch,eP,eg,ca,cz,ce,dj,acY,acP,p0,p2,p1,hr,k0,k1,k2,f1,f2,br,ag4,gy,kI,q0]
end Mine
namespace Mine
open PySem
noncomputable def Th(rows:List PV)(t k:Nat):Prop:=k<10∧rows[t]?=some (dy k)∧(t=6∨t=7∨16≤t)∧(k=2→t=6)∧(k=4→t=7)
noncomputable def acz:PV→List Nat
 | .str s=>s.cps.toList
 | .int i=>[i.toNat]
 | _=>[]
noncomputable def acx:PV→PV
 | .tup l=>l.getD 0 .none
 | x=>x
noncomputable def acy:PV→List Nat
 | .tup l=>acz (l.getD 0 .none)++acz (acx (acx (l.getD 1 .none)))
 | _=>[]
theorem Ym:(afa 10).all (fun k=>(afa 10).all fun l=>(acy (dy k) == acy (dy l)) == (k == l))=true:=by kernel_rfl!
theorem Ko{k l:Nat}(hk:k<10)(hl:l<10)(e:dy k=dy l):k=l:=by
 have h:=eq_of_beq (Yt (Yt Ym hk) hl)
 rw[e,beq_self_eq_true]at h
 exact eq_of_beq h.symm
theorem Hy{α:Type}{l:List α}(nd:l.Nodup){i j:Nat}{x:α}(h1:l[i]?=some x)(h2:l[j]?=some x):i=j:=by
 obtain⟨a,e1⟩:=aa9.mp h1
 obtain⟨b,e2⟩:=aa9.mp h2
 rw[afF,List.pairwise_iff_getElem]at nd
 rcases Nat.lt_trichotomy i j with h | h | h
 ·exact absurd (e1.trans e2.symm) (nd i j a b h)
 ·exact h
 ·exact absurd (e2.trans e1.symm) (nd j i b a h)
theorem Th.fn{rows:List PV}{t k l:Nat}(a:Th rows t k)(b:Th rows t l):k=l:=Ko a.1 b.1 (aa0 (a.2.1.symm.trans b.2.1))
theorem Th.inj{rows:List PV}(nd:rows.Nodup){s t k:Nat}(a:Th rows s k)(b:Th rows t k):s=t:=Hy nd a.2.1 b.2.1
theorem Th.beq{rows:List PV}(nd:rows.Nodup){s t k l:Nat}(a:Th rows s k)(b:Th rows t l):((s:Int) == (t:Int))=(k == l):=by
 rewrite[acr,beq_iff_eq,beq_iff_eq,aeK]
 constructor
 ·rintro rfl;exact a.fn b
 ·rintro rfl;exact a.inj nd b
theorem Th.ne{rows:List PV}{t k:Nat}(a:Th rows t k){z:Int}(h:z<16∧z≠6∧z≠7):((t:Int) == z)=false:=by
 rewrite[beq_eq_false_iff_ne]
 obtain⟨zz,zz,h1,zz,zz⟩:=a
 lia
theorem Th.ne'{rows:List PV}{t k:Nat}(a:Th rows t k){z:Int}(h:z<16∧z≠6∧z≠7):(z == (t:Int))=false:=by
 rw[agK];exact a.ne h
noncomputable def mc(k l:Nat):Nat:=if k == l then 1 else if fT k == 0 || fT l == 0 then 3 else if fT k == 7 || fT l == 7 then 3 else if !(fT k == fT l)then 0 else if k == 2 then 2 else if l == 2 then 1 else 3
noncomputable def gu:Nat→List (PV×PV)
 | 8=>[(.str (S "v"),gK (S "v"))]
 | 9=>[(.str (S "w"),gK (S "w"))]
 | _=>[]
@[elab_as_elim] theorem Xf{P:Nat→Prop}(a:P 0)(b:P 1)(c:P 8)(d:P 9){k:Nat}(h:k<10)(f:fT k=7):P k :=
 Wj (P:=fun k=>fT k=7→P k) (fun zz=>a) (fun zz=>b) (fun e=>absurd e (by decide)) (fun e=>absurd e (by decide)) (fun e=>absurd e (by decide)) (fun e=>absurd e (by decide)) (fun e=>absurd e (by decide)) (fun e=>absurd e (by decide)) (fun zz=>c) (fun zz=>d) h f
theorem Og{k l:Nat}(hk:k<10)(hl:l<10)(fk:fT k=7)(fl:fT l=7):k≠l→gu k=[]∨∃x v,gu k=[(.str x,v)]∧br (.str x) (gu l)=none∧cy (.str x) (gu l)=true:=by
 refine Xf (k:=k) (fun zz=>.inl rfl) (fun zz=>.inl rfl) (fun n=>.inr ⟨S "v",gK (S "v"),by kernel_rfl!,?_⟩) (fun n=>.inr ⟨S "w",gK (S "w"),by kernel_rfl!,?_⟩) hk fk
 ·exact Xf (P:=fun l=>8≠l→br (.str (S "v")) (gu l)=none∧cy (.str (S "v")) (gu l)=true) (fun zz=>⟨by kernel_rfl!,by kernel_rfl!⟩) (fun zz=>⟨by kernel_rfl!,by kernel_rfl!⟩) (fun n=>absurd rfl n) (fun zz=>⟨by kernel_rfl!,by kernel_rfl!⟩) hl fl n
 ·exact Xf (P:=fun l=>9≠l→br (.str (S "w")) (gu l)=none∧cy (.str (S "w")) (gu l)=true) (fun zz=>⟨by kernel_rfl!,by kernel_rfl!⟩) (fun zz=>⟨by kernel_rfl!,by kernel_rfl!⟩) (fun zz=>⟨by kernel_rfl!,by kernel_rfl!⟩) (fun n=>absurd rfl n) hl fl n
variable{c:eN}{H:CH}{rows bs:List PV}
theorem BO(C:Ru c)(T:Tb c H rows bs){t n k:Nat}(e:Th rows t k)(hf:fT k=7):Φ (n+1) (S "flat_props") [.ref c.tab,.int t] H=some (.ref H.length,H++[.dict (gu k),.dict [],.list []]):=by
 obtain⟨hk,e,zz⟩:=e
 revert e
 exact Xf (k:=k) (fun e=>Ht C T e (by decide)) (fun e=>Ht C T e (by decide)) (fun e=>Lc C T e) (fun e=>Lc C T e) hk hf
theorem PO{r:Nat}{H:CH}(h:H[r]?=some (.dict [])):blt .sorted [.ref r] H=some (.ref H.length,H++[.list []]):=by
 unfold blt iQ
 dsimp only
 rewrite[dx h]
 rfl
theorem PP{r:Nat}{H:CH}{x:Str}{v:PV}(h:H[r]?=some (.dict [(.str x,v)])):blt .sorted [.ref r] H=some (.ref H.length,H++[.list [.str x]]):=by
 unfold blt iQ
 dsimp only
 rewrite[dx h]
 rfl
theorem Bo{r:Nat}{H:CH}{l:List PV}{b:List Bool}(h:H[r]?=some (.list l))(e:bools l=some b):blt .any [.ref r] H=some (.bool (b.any id),H):=by
 unfold blt iQ
 dsimp only
 rewrite[eL h]
 rw[e];rfl
theorem Tq{r:Nat}{H:CH}{l:List PV}{b:List Bool}(h:H[r]?=some (.list l))(e:bools l=some b):blt .all [.ref r] H=some (.bool (b.all id),H):=by
 unfold blt iQ
 dsimp only
 rewrite[eL h]
 rw[e];rfl
theorem vR{l:List PV}(h:l.length<ax)(H:CH):cw l H=some (.ref H.length,H++[.list l]):=by
 unfold cw
 rw[decide_eq_true h];rfl
theorem Ba{H H':CH}(o:CO)(p:H <+: H'):H <+: H'++[o]:=p.trans (abY ..)
theorem By(t:It)(turn:PV→CM (List PV))(i:Nat):av t turn 0 i=aa (qS t i) fun zz=>ret []:=rfl
theorem NY(t:It)(turn:PV→CM (List PV))(n i:Nat):av t turn (n+1) i=aa (Ov t i) fun x=>aa (turn x) fun l=>aa (av t turn n (i+1)) fun r=>ret (l++r):=rfl
theorem NW(C:Ru c)(T:Tb c H rows bs){s t n k l:Nat}(a:Th rows s k)(b:Th rows t l)(fk:fT k=7)(fl:fT l=7)(h:k≠l) :
  ∃H',Φ (n+2) (S "shapes_clash") [.ref c.tab,.int s,.int t] H=some (.bool false,H')∧H <+: H':=by
 have f1:=BO (n:=n) C T a fk
 have T1:Tb c (H++[.dict (gu k),.dict [],.list []]) rows bs:=T.pre (abY ..)
 have f2:=BO (n:=n) C T1 b fl
 rw[vH]
 rw[be f1];rw[be f2]
 have g1:(H++[CO.dict (gu k),.dict [],.list []]++[CO.dict (gu l),.dict [],.list []])[H.length]?=some (.dict (gu k)):=by
  rw[aaW];exact Xd ..
 have g2:=Xd (H++[CO.dict (gu k),.dict [],.list []]) (.dict (gu l)) [.dict [],.list []]
 have pB:H <+: (H++[CO.dict (gu k),.dict [],.list []])++[CO.dict (gu l),.dict [],.list []]:=(abY ..).trans (abY ..)
 generalize (H++[CO.dict (gu k),.dict [],.list []])++[CO.dict (gu l),.dict [],.list []]=B at g1 g2 pB ⊢
 generalize (H++[CO.dict (gu k),.dict [],.list []]).length=r2 at g2 ⊢
 generalize H.length=r1 at g1 ⊢
 have hk:=Og a.1 b.1 fk fl h
 generalize gu k=dk at *
 generalize gu l=dl at *
 rcases hk with rfl | ⟨x,v,rfl,e1,e2⟩
 ·have g:=tv (H:=B) (o:=.list [])
  have i0:=PO g1
  have i1:=dh g
  have i2:=cu g
  have i3:qS (.live B.length) 0 (B++[.list []])=some ((),B++[.list []]):=jx g
  have i4:=vR (l:=[]) (by decide +kernel) (B++[.list []])
  have i5:=Bo (l:=[]) (b:=[]) (tv (H:=B++[.list []]) (o:=.list [])) rfl
  exact⟨_,by simp only[qH,hB,ac7,hJ,hE,rN,gW,gV,acq,acg,iO,fV,dz,eO,fR,eq_int,ne_int,lt_int,le_int,gt_int,ge_int,adm,adl,adg,adc,eQ,bz,ch,eP,eg,ca,cz,ce,dj,acY,acP,i0,i1,i2,i3,i4,i5,aez,By];rfl,Ba _ (Ba _ pB)⟩
 ·have g:=tv (H:=B) (o:=.list [.str x])
  have i0:=PP g1
  have i1:=dh g
  have i2:=cu g
  have i3:qS (.live B.length) 1 (B++[.list [.str x]])=some ((),B++[.list [.str x]]):=jx g
  have i6:=pM (i:=0) g rfl
  have i7:=in_dict (iK (abY B [.list [.str x]]) g2) e2
  have i4:=vR (l:=[.bool false]) (by decide +kernel) (B++[.list [.str x]])
  have i5:=Bo (l:=[.bool false]) (b:=[false]) (tv (H:=B++[.list [.str x]]) (o:=.list [.bool false])) rfl
  exact⟨_,by simp only[qH,hB,ac7,hJ,hE,rN,gW,gV,acq,acg,iO,fV,dz,eO,fR,eq_int,ne_int,lt_int,le_int,gt_int,ge_int,adm,adl,adg,adc,eQ,bz,ch,eP,eg,ca,cz,ce,dj,acY,acP,i0,i1,i2,i3,i4,i5,i6,i7,e1,ag4,aaK,aez,NY,By,ad4,abF];rfl,Ba _ (Ba _ pB)⟩
end Mine
namespace Mine
open PySem
variable{c:eN}{H:CH}{rows bs:List PV}
theorem sH(T:Tb c H rows bs){t:Nat}{r:PV}(e:rows[t]?=some r):getItem (.ref c.rws) (.int t) H=some (r,H):=gh T.rws e
theorem Fo(C:Ru c)(T:Tb c H rows bs){s t n k l:Nat}(a:Th rows s k)(b:Th rows t l)(hf:fT k=7∨fT l=7)(h:k≠l) :
  ∃H',Φ (n+3) (S "meet_objects") [.ref c.tab,.int s,.int t,.int (fT k),.int (fT l)] H=some (.int 3,H')∧H <+: H':=by
 rw[yK]
 have s1:=a.ne (z:=11) (by decide)
 have s2:=a.ne (z:=10) (by decide)
 have t1:=b.ne (z:=11) (by decide)
 have t2:=b.ne (z:=10) (by decide)
 generalize q:((fT k:Int) == (fT l:Int))=zq;induction zq with
 | false=>exact⟨H,by simp only[oc,jC,hB,hJ,hE,rN,gW,gV,acq,acg,iO,fV,dz,eO,fR,eq_int,ne_int,lt_int,le_int,gt_int,ge_int,adm,adl,adg,adc,eQ,bz,ch,eP,eg,ca,cz,ce,dj,acY,acP,ii,ij,il,im,io,iu,iw,iy,iz,iA,s1,s2,t1,t2,q],abg _⟩
 | true =>
  rw[beq_iff_eq,aeK]at q
  have hk:fT k=7∧fT l=7:=by lia
  obtain⟨H',e,p⟩:=NW (n:=n) C T a b hk.1 hk.2 h
  refine⟨H',?_,p⟩
  rw[hk.1];rw[hk.2]
  simp only[oc,jC,hB,hJ,hE,rN,gW,gV,acq,acg,iO,fV,dz,eO,fR,eq_int,ne_int,lt_int,le_int,gt_int,ge_int,adm,adl,adg,adc,eQ,bz,ch,eP,eg,ca,cz,ce,dj,acY,acP,ii,ij,il,im,io,iu,iw,iy,iz,iA,s1,s2,t1,t2,beq_self_eq_true,e]
theorem yg(T:Tb c H rows bs){t n:Nat}{k:Int}{l:List PV}(e:rows[t]?=some (.tup (.int k::l)))(hl:l.length<90):Φ (n+1) (S "is_literal") [.ref c.tab,.int t] H=some (.bool ([2,3,4,5].contains k),H):=by
 rw[Ff]
 simp only[oc,jC,hB,hJ,hE,rN,gW,gV,acq,acg,iO,fV,dz,eO,fR,eq_int,ne_int,lt_int,le_int,gt_int,ge_int,adm,adl,adg,adc,eQ,bz,ch,eP,eg,ca,cz,ce,dj,acY,acP,oV,oW,oX,Rq,T.qP,sH T e,AR _ _ _ (show l.length<100 by lia),kj]
theorem Wt(T:Tb c H rows bs){t n:Nat}{k:Int}{l:List PV}(e:rows[t]?=some (.tup (.int k::l)))(hl:l.length<90)(h4:((t:Int) == 4)=false)(h5:((t:Int) == 5)=false):Φ (n+2) (S "is_unit") [.ref c.tab,.int t] H=some (.bool ([2,3,4,5].contains k),H):=by
 rw[N8]
 simp only[oc,jC,hB,hJ,hE,rN,gW,gV,acq,acg,iO,fV,dz,eO,fR,eq_int,ne_int,lt_int,le_int,gt_int,ge_int,adm,adl,adg,adc,eQ,bz,ch,eP,eg,ca,cz,ce,dj,acY,acP,yr,ys,yt,yu,yv,yw,h4,h5,yg T e hl]
noncomputable def kd:Nat→Int
 | 0=>11
 | 1=>11
 | 2=>1
 | 3=>3
 | 4=>1
 | 8=>8
 | 9=>8
 | _=>10
theorem Wk{k:Nat}(h:k<10):∃l:List PV,dy k=.tup (.int (kd k)::l)∧l.length<90 :=
 Wj (P:=fun k=>∃l:List PV,dy k=.tup (.int (kd k)::l)∧l.length<90) ⟨_,rfl,by decide⟩ ⟨_,rfl,by decide⟩ ⟨_,rfl,by decide⟩ ⟨_,rfl,by decide⟩ ⟨_,rfl,by decide⟩ ⟨_,rfl,by decide⟩ ⟨_,rfl,by decide⟩ ⟨_,rfl,by decide⟩ ⟨_,rfl,by decide⟩ ⟨_,rfl,by decide⟩ h
theorem Th.row{t k:Nat}(a:Th rows t k):∃l:List PV,rows[t]?=some (.tup (.int (kd k)::l))∧l.length<90:=by
 obtain⟨l,e,h⟩:=Wk a.1
 exact⟨l,a.2.1.trans (congrArg some e),h⟩
theorem Ws:(afa 10).all (fun k=>[2,3,4,5].contains (kd k) == (k == 3))=true:=by kernel_rfl!
theorem Yu:(afa 10).all (fun k=>(!(fT k == 1 || fT k == 2)) || (k == 2 || (k == 3 || k == 4)))=true:=by kernel_rfl!
theorem Wu{k:Nat}(hk:k<10)(h:fT k=1∨fT k=2):k=2∨k=3∨k=4:=by
 have q:=Yt Yu hk
 simp only[aeE,acQ,beq_iff_eq]at q
 rcases q with q | q
 ·rcases h with h | h <;> rw[h]at q <;> exact rr q
 ·exact q
theorem P0(T:Tb c H rows bs){t n k:Nat}(a:Th rows t k):Φ (n+2) (S "is_unit") [.ref c.tab,.int t] H=some (.bool (k == 3),H):=by
 obtain⟨l,e,hl⟩:=a.row
 rw[Wt T e hl (a.ne (by decide)) (a.ne (by decide)),eq_of_beq (Yt Ws a.1)]
theorem Th.six(nd:rows.Nodup)(s6:rows[6]?=some (dy 2)){t k:Nat}(a:Th rows t k):((t:Int) == 6)=(k == 2):=by
 have b:Th rows 6 2:=⟨by decide,s6,by decide,by decide,by decide⟩
 exact a.beq nd b
theorem Th.acw(nd:rows.Nodup)(s7:rows[7]?=some (dy 4)){t k:Nat}(a:Th rows t k):((t:Int) == 7)=(k == 4):=by
 have b:Th rows 7 4:=⟨by decide,s7,by decide,by decide,by decide⟩
 exact a.beq nd b
structure Bs(rows:List PV):Prop where
 r1:rows[1]?=some (.tup [.int 1,.str (S "unknown")])
 r2:rows[2]?=some (.tup [.int 1,.str (S "never")])
 r6:rows[6]?=some (dy 2)
 r7:rows[7]?=some (dy 4)
 len:16≤rows.length
 low:∀i,i<16→∀r,rows[i]?=some r→∀ts:List Nat,r≠.tup [.int 7,.tup (ts.map fun t:Nat=>PV.int t)]∧(r=.tup [.int 6,.tup (ts.map fun t:Nat=>PV.int t)]→8∈ts)
theorem or2(H:CH){u v:CM Bool}{x y:Bool}(hu:u H=some (x,H))(hv:v H=some (y,H)):(aa u fun i=>af i (ret true) (aa v fun j=>af j (ret true) (ret false))) H=some (x || y,H):=by
 rw[be hu]
 induction x with
 | true=>rfl
 | false=>exact(be (f:=fun j=>af j (ret true) (ret false)) hv).trans (by cases y <;> rfl)
theorem ady(H:CH){u v:CM Bool}{x y:Bool}(hu:u H=some (x,H))(hv:v H=some (y,H)):(aa u fun i=>af i (aa v fun j=>af j (ret true) (ret false)) (ret false)) H=some (x&&y,H):=by
 rw[be hu]
 induction x with
 | false=>rfl
 | true=>exact(be (f:=fun j=>af j (ret true) (ret false)) hv).trans (by cases y <;> rfl)
theorem Kt(T:Tb c H rows bs)(B:Bs rows){s t n k l:Nat}(a:Th rows s k)(b:Th rows t l)(fk:fT k=1∨fT k=2)(fl:fT l=1∨fT l=2)(h:k≠l) :
  Φ (n+3) (S "meet_values") [.ref c.tab,.int s,.int t,.int (fT k),.int (fT l)] H=some (.int (mc k l),H):=by
 rw[BI]
 have u:∀{t k},Th rows t k→(aa (Φ (n+2) (S "is_unit") [.ref c.tab,.int t]) fun o=>truth o) H=some (k == 3,H):=fun a=>by rw[be (P0 (n:=n) T a)];rfl
 have q:∀{t k},Th rows t k→(aa (ae .Eq (.int t) (.int 6)) fun i=>af i (ret true) (aa (ae .Eq (.int t) (.int 7)) fun j=>af j (ret true) (ret false))) H=some (k == 2 || k == 4,H):=fun a=>or2 H (by rw[eq_int];rw[a.six T.sL B.r6];rfl) (by rw[eq_int];rw[a.acw T.sL B.r7];rfl)
 have e1:mY (Φ (n+2)) (.ref c.tab) (.int s) (.int t) (.int (fT k)) (.int (fT l)) H=mX (Φ (n+2)) (.ref c.tab) (.int s) (.int t) (!((fT k:Int) == fT l)) H:=be (ne_int (fT k) (fT l) H)
 have e2:mW (Φ (n+2)) (.ref c.tab) (.int s) (.int t) H=mV (.int s) (.int t) (k == 3&&l == 3) H:=be (ady H (u a) (u b))
 have e3:mU (.int s) (.int t) H=mT (.int t) (k == 2 || k == 4) H:=be (q a)
 have e4:mS (.int t) H=mR (l == 2 || l == 4) H:=be (q b)
 rw[e1]
 rcases Wu a.1 fk with rfl | rfl | rfl <;> rcases Wu b.1 fl with rfl | rfl | rfl <;> first | exact absurd rfl h | rfl | exact e2.trans (e3.trans rfl) | exact e2.trans (e3.trans (e4.trans rfl))
theorem pI(k:Nat):fT k=0∨fT k=1∨fT k=2∨fT k=7:=(Nat.lt_or_ge k 10).elim (fun h=>Wj (P:=fun k=>fT k=0∨fT k=1∨fT k=2∨fT k=7) (by decide) (by decide) (by decide) (by decide) (by decide) (by decide) (by decide) (by decide) (by decide) (by decide) h) fun h=>by
 obtain⟨m,rfl⟩:=Nat.exists_eq_add_of_le' h
 first | exact .inl rfl | exact .inr (.inl rfl) | exact .inr (.inr (.inl rfl)) | exact .inr (.inr (.inr rfl))
theorem case8(H:CH)(n:Nat)(tab s t:PV){f g:Nat}(h:f=0∨f=1∨f=2∨f=7)(h':g=0∨g=1∨g=2∨g=7):kS (Φ (n+1)) tab s t (.int f) (.int g) H =
  (bif f == 0 || g == 0 then ret (.int 3)else bif f == 7 || g == 7 then qW (Φ (n+1)) tab s t (.int f) (.int g)else qX (Φ (n+1)) tab s t (.int f) (.int g)) H:=by
 rw[bo]
 rcases h with rfl | rfl | rfl | rfl <;> rcases h' with rfl | rfl | rfl | rfl <;> kernel_rfl!
theorem yW(C:Ru c)(T:Tb c H rows bs)(B:Bs rows){s t n k l:Nat}(a:Th rows s k)(b:Th rows t l) :
  ∃H',Φ (n+4) (S "meet_case") [.ref c.tab,.int s,.int t] H=some (.int (mc k l),H')∧H <+: H':=by
 rw[Iu]
 have q0:=a.beq T.sL b
 have w1:=E2 (n:=n+2) T a.2.1 a.1
 have w2:=E2 (n:=n+2) T b.2.1 b.1
 have tw:∀{u v x:Nat} (w:Φ (n+3) (S "regular_twin") [.ref c.tab,.int u] H=some (.int (-1),H)) (d:Th rows v x),(aa (Φ (n+3) (S "regular_twin") [.ref c.tab,.int u]) fun w=>ae .Eq w (.int v)) H=some (false,H):=fun w d=>by
  rw[be w];rw[eq_int];rewrite[d.ne' (z:=-1) (by decide)];rfl
 have e1:(aa (ae .Eq (.int s) (.int t)) fun v=>af v (ret true) (aa (aa (Φ (n+3) (S "regular_twin") [.ref c.tab,.int t]) fun w=>ae .Eq w (.int s)) fun x=>af x (ret true) (ret false))) H=some (k == l,H):=by
  rw[be (eq_int s t H)];rw[q0]
  cases k == l with
  | true=>rfl
  | false=>exact be (f:=fun x=>af x (ret true) (ret false)) (tw w2 a)
 have e2:pv (Φ (n+3)) (.ref c.tab) (.int s) (.int t) H=pu (Φ (n+3)) (.ref c.tab) (.int s) (.int t) (k == l) H:=be e1
 rw[e2]
 generalize h:(k == l)=zq;induction zq with
 | true=>exact⟨H,by unfold mc;rw[h];rfl,abg _⟩
 | false =>
  have hn:k≠l:=fun e=>by rw[e,beq_self_eq_true]at h;exact rr h
  have e3:jL (Φ (n+3)) (.ref c.tab) (.int s) (.int t) H=jK (Φ (n+3)) (.ref c.tab) (.int s) (.int t) H:=be (tw w1 b)
  have e4:jK (Φ (n+3)) (.ref c.tab) (.int s) (.int t) H=kT (Φ (n+3)) (.ref c.tab) (.int s) (.int t) (.int (fT k)) H:=be (tm (n:=n+1) T a.2.1 a.1 a.2.2.2.1 a.2.2.2.2)
  have e5:kT (Φ (n+3)) (.ref c.tab) (.int s) (.int t) (.int (fT k)) H=kS (Φ (n+3)) (.ref c.tab) (.int s) (.int t) (.int (fT k)) (.int (fT l)) H:=be (tm (n:=n+1) T b.2.1 b.1 b.2.2.2.1 b.2.2.2.2)
  show ∃H',jL (Φ (n+3)) (.ref c.tab) (.int s) (.int t) H=_∧_
  rw[e3];rw[e4];rw[e5];rw[case8 H (n+2) _ _ _ (pI k) (pI l)]
  generalize h0:(fT k == 0 || fT l == 0)=zq;induction zq with
  | true=>exact⟨H,by unfold mc;rw[h];rw[h0];rfl,abg _⟩
  | false =>
   generalize h7:(fT k == 7 || fT l == 7)=zq;induction zq with
   | true =>
    obtain⟨H',e,p⟩:=Fo (n:=n) C T a b ((ahg.mp h7).imp beq_iff_eq.mp beq_iff_eq.mp) hn
    exact⟨H',e.trans (by unfold mc;rw[h];rw[h0];rw[h7];rfl),p⟩
   | false =>
    obtain⟨k0,l0⟩:=afY.mp h0
    obtain⟨k7,l7⟩:=afY.mp h7
    have g:∀{f:Nat},(f=0∨f=1∨f=2∨f=7)→(f == 0)=false→(f == 7)=false→f=1∨f=2:=fun h a b=>by
     have:=beq_eq_false_iff_ne.mp a
     have:=beq_eq_false_iff_ne.mp b
     lia
    exact⟨H,Kt (n:=n) T B a b (g (pI k) k0 k7) (g (pI l) l0 l7) hn,abg _⟩
end Mine
namespace Mine
open PySem
noncomputable def bi(ts:List Nat):List PV:=ts.map fun t:Nat=>.int t
noncomputable def iH(rows:List PV)(ts ks:List Nat):Prop:=Sim.ay (Th rows) ts ks
theorem iH.append{rows:List PV}{ts ks ts' ks':List Nat}(x:iH rows ts ks)(y:iH rows ts' ks'):iH rows (ts++ts') (ks++ks'):=Sim.ay.append x y
theorem iH.len{rows:List PV}{ts ks:List Nat}(h:iH rows ts ks):ts.length=ks.length:=(Sim.ay.len h).symm
theorem eI(a b:List Nat):bi (a++b)=bi a++bi b:=adi
theorem bm(a:List Nat):(bi a).length=a.length:=aaY _
theorem jv(t:Nat)(a:List Nat):bi (t::a)=.int t::bi a:=rfl
noncomputable def jy(k:Nat):List Nat→Bool→List Nat→Option (List Nat)
 | out,held,[]=>some (if held then out else out++[k])
 | out,held,x::r=>if mc x k == 0 then none else jy k (if mc x k == 2 then out else out++[x]) (held || mc x k == 1) r
noncomputable def RY(kept:List Nat)(k:Nat):Option (List Nat):=jy k [] false kept
variable{c:eN}{H:CH}{rows bs:List PV}
end Mine
namespace Mine
open PySem
noncomputable def WW(C:Nat→Prop):Prop:=(C 3→C 2)∧¬(C 2∧C 4)
noncomputable def ew(q:List Nat):Prop:=q.Nodup∧(∀k∈q,k<10)∧¬(2∈q∧3∈q)∧¬(4∈q∧(2∈q∨3∈q))
noncomputable def ry(q:List Nat)(C:Nat→Prop):Prop:=∀k∈q,C k
theorem vQ:∀x,x<10→∀k,k<10→((mc x k == 0)=(decide (x=4∧(k=2∨k=3)) || decide (k=4∧(x=2∨x=3))))∧((mc x k == 1)=(decide (x=k) || decide (x=3∧k=2)))∧((mc x k == 2)=decide (x=2∧k=3)):=by decide +kernel
theorem oC{k:Nat}(hk:k<10):∀{rest out:List Nat} {held:Bool},(∀x∈rest,x<10) →
  match jy k out held rest with
  | none=>∃x∈rest,mc x k=0
  | some q=>(∀x∈rest,mc x k≠0)∧q=(if held || rest.any (fun x=>mc x k == 1)then out++rest.filter (fun x=>!(mc x k == 2))else out++rest.filter (fun x=>!(mc x k == 2))++[k])
 | [],out,held,_=>by
  dsimp only[jy]
  cases held <;> simp
 | x::r,out,held,h=>by
  dsimp only[jy]
  generalize c0:(mc x k == 0)=zq;induction zq with
  | true=>exact⟨x,.head _,by simpa using c0⟩
  | false =>
   have ih:=oC hk (rest:=r) (out:=if mc x k == 2 then out else out++[x]) (held:=held || mc x k == 1) fun y hy=>h y (.tail _ hy)
   simp only[ahm,if_false]
   split
   ·next e =>
    rw[e]at ih
    obtain⟨y,hy,e⟩:=ih
    exact⟨y,.tail _ hy,e⟩
   ·next q e =>
    rw[e]at ih
    obtain⟨h1,h2⟩:=ih
    refine⟨fun y hy=>?_,?_⟩
    ·rcases aa2.mp hy with rfl | hy
     ·simpa using c0
     ·exact h1 y hy
    ·rw[h2];rw[aeL];rw[Bool.or_assoc]
     cases c2:mc x k == 2 <;> simp [aft,c2]
theorem Uy{kept:List Nat}{k:Nat}(hk:k<10)(h:∀x∈kept,x<10)(e:RY kept k=none){C:Nat→Prop}(w:WW C):¬(ry kept C∧C k):=by
 have:=oC hk (rest:=kept) (out:=[]) (held:=false) h
 unfold RY at e
 rw[e]at this
 obtain⟨x,hx,e0⟩:=this
 have t:=(vQ x (h x hx) k hk).1
 rw[e0]at t
 simp only[beq_self_eq_true,Bool.true_eq,aeE,decide_eq_true_eq]at t
 rintro⟨i,ck⟩
 have cx:=i x hx
 obtain⟨w1,w2⟩:=w
 rcases t with ⟨rfl,rfl | rfl⟩ | ⟨rfl,rfl | rfl⟩
 ·exact w2 ⟨ck,cx⟩
 ·exact w2 ⟨w1 ck,cx⟩
 ·exact w2 ⟨cx,ck⟩
 ·exact w2 ⟨w1 cx,ck⟩
theorem Cd{kept:List Nat}{k:Nat}{q:List Nat}(hk:k<10)(h:ew kept)(e:RY kept k=some q) :
  ew q∧q≠[]∧(∀x∈q,x∈kept∨x=k)∧∀C:Nat→Prop,WW C→(ry q C↔ry kept C∧C k):=by
 have key:=oC hk (rest:=kept) (out:=[]) (held:=false) h.2.1
 unfold RY at e
 rw[e]at key
 obtain⟨h0,hq⟩:=key
 simp only[Bool.false_or,afB]at hq
 have t0:∀x∈kept,¬(x=4∧(k=2∨k=3))∧¬(k=4∧(x=2∨x=3)):=fun x hx=>by
  have t:=(vQ x (h.2.1 x hx) k hk).1
  rw[show(mc x k == 0)=false by simpa using h0 x hx,eq_comm,afY,decide_eq_false_iff_not,decide_eq_false_iff_not]at t
  exact t
 have m1:(kept.any fun x=>mc x k == 1)=true↔k∈kept∨(3∈kept∧k=2):=by
  rewrite[afT]
  constructor
  ·rintro⟨x,hx,e1⟩
   rw[(vQ x (h.2.1 x hx) k hk).2.1,aeE,decide_eq_true_eq,decide_eq_true_eq]at e1
   rcases e1 with rfl | ⟨rfl,rfl⟩
   ·exact .inl hx
   ·exact .inr ⟨hx,rfl⟩
  ·rintro(hx | ⟨hx,rfl⟩)
   ·exact⟨k,hx,by rw[(vQ k hk k hk).2.1];simp⟩
   ·exact⟨3,hx,by decide +kernel⟩
 have m2:∀x,x∈kept.filter (fun x=>!(mc x k == 2))↔x∈kept∧¬(x=2∧k=3):=fun x=>by
  rewrite[acZ]
  constructor
  ·rintro⟨hx,e2⟩
   rw[(vQ x (h.2.1 x hx) k hk).2.2]at e2
   exact⟨hx,by simp at e2;lia⟩
  ·rintro⟨hx,e2⟩
   rewrite[(vQ x (h.2.1 x hx) k hk).2.2]
   exact⟨hx,by simp;lia⟩
 have tz:∀x,x∈q↔(x∈kept∧¬(x=2∧k=3))∨(x=k∧¬(k∈kept∨(3∈kept∧k=2))):=fun x=>by
  by_cases hh:k∈kept∨(3∈kept∧k=2)
  ·rw[if_pos (m1.mpr hh)]at hq
   rw[hq];rewrite[m2]
   simp only[hh,not_true_eq_false,and_false,or_false]
  ·rw[if_neg (fun z=>hh (m1.mp z))]at hq
   rw[hq];rewrite[aa7,m2,aad]
   simp only[hh,not_false_eq_true,and_true]
 have nd:q.Nodup:=by
  have n1:=h.1.filter (fun x=>!(mc x k == 2))
  by_cases hh:k∈kept∨(3∈kept∧k=2)
  ·rw[if_pos (m1.mpr hh)]at hq
   rw[hq];exact n1
  ·rw[if_neg (fun z=>hh (m1.mp z))]at hq
   rw[hq];rewrite[acL]
   refine⟨n1,by simp,fun a ha b hb=>?_⟩
   rw[aad]at hb
   subst hb
   rintro rfl
   exact hh (.inl ((m2 _).mp ha).1)
 obtain⟨zz,p2,p3,p4⟩:=h
 refine⟨⟨nd,fun x hx=>?_,?_,?_⟩,?_,fun x hx=>?_,fun C w=>⟨fun i=>?_,fun⟨i,ck⟩ x hx=>?_⟩⟩
 ·rcases(tz x).mp hx with ⟨a,_⟩ | ⟨rfl,_⟩
  ·exact p2 x a
  ·exact hk
 ·rintro⟨a,b⟩
  rw[tz]at a b
  rcases a with ⟨a,a'⟩ | ⟨a,a'⟩ <;> rcases b with ⟨b,b'⟩ | ⟨b,b'⟩
  ·exact p3 ⟨a,b⟩
  ·exact a' ⟨rfl,b.symm⟩
  ·exact a' (.inr ⟨b,a.symm⟩)
  ·lia
 ·rintro⟨a,b⟩
  rw[tz]at a
  rw[tz,tz]at b
  rcases a with ⟨a,a'⟩ | ⟨a,a'⟩
  ·rcases b with (⟨b,_⟩ | ⟨b,_⟩) | (⟨b,_⟩ | ⟨b,_⟩)
   ·exact p4 ⟨a,.inl b⟩
   ·exact(t0 4 a).1 ⟨rfl,.inl b.symm⟩
   ·exact p4 ⟨a,.inr b⟩
   ·exact(t0 4 a).1 ⟨rfl,.inr b.symm⟩
  ·rcases b with (⟨b,_⟩ | ⟨b,_⟩) | (⟨b,_⟩ | ⟨b,_⟩)
   ·exact(t0 2 b).2 ⟨a.symm,.inl rfl⟩
   ·lia
   ·exact(t0 3 b).2 ⟨a.symm,.inr rfl⟩
   ·lia
 ·intro e0
  have h3:¬(k∈kept):=fun ZO=>by
   have:=(tz k).mpr
   rw[e0]at this
   by_cases q2:k=2∧k=3
   ·lia
   ·exact absurd (this (.inl ⟨ZO,q2⟩)) (by simp)
  have h4:¬(3∈kept∧k=2):=(by rintro⟨ZO,e2⟩;exact(by
   have:=(tz 3).mpr
   rw[e0]at this
   exact absurd (this (.inl ⟨ZO,by lia⟩)) (by simp)))
  have:=(tz k).mpr (.inr ⟨rfl,fun z=>z.elim h3 h4⟩)
  rw[e0]at this
  exact absurd this (by simp)
 ·rcases(tz x).mp hx with ⟨a,_⟩ | ⟨a,_⟩
  ·exact .inl a
  ·exact .inr a
 ·have ck:C k:=by
   by_cases hh:k∈kept∨(3∈kept∧k=2)
   ·rcases hh with hh | ⟨hh,e2⟩
    ·exact i k ((tz k).mpr (.inl ⟨hh,by lia⟩))
    ·subst e2
     exact w.1 (i 3 ((tz 3).mpr (.inl ⟨hh,by lia⟩)))
   ·exact i k ((tz k).mpr (.inr ⟨rfl,hh⟩))
  refine⟨fun x hx=>?_,ck⟩
  by_cases e2:x=2∧k=3
  ·obtain⟨rfl,rfl⟩:=e2
   exact w.1 ck
  ·exact i x ((tz x).mpr (.inl ⟨hx,e2⟩))
 ·rcases(tz x).mp hx with ⟨a,_⟩ | ⟨a,_⟩
  ·exact i x a
  ·subst a;exact ck
noncomputable def fG:List Nat→List Nat→Option (List Nat)
 | kept,[]=>some kept
 | kept,k::r=>match RY kept k with
  | none=>none
  | some q=>fG q r
theorem Lm{k:Nat}{r:List Nat}{C:Nat→Prop}:ry (k::r) C↔C k∧ry r C:=by
 unfold ry
 simp
theorem yf:∀{r kept:List Nat},(∀x∈r,x<10)→ew kept→fG kept r=none→∀{C:Nat→Prop},WW C→¬(ry kept C∧ry r C)
 | [],_,_,_,e,_,_=>by exact zSn e
 | k::r,kept,hr,hk,e,C,w=>by
  dsimp only[fG]at e
  rewrite[Lm]
  rintro⟨i,ck,ir⟩
  generalize q:RY kept k=zq;induction zq with
  | none=>exact Uy (hr k (.head _)) hk.2.1 q w ⟨i,ck⟩
  | some q' =>
   rw[q]at e
   obtain⟨a1,zz,zz,a4⟩:=Cd (hr k (.head _)) hk q
   exact yf (fun x hx=>hr x (.tail _ hx)) a1 e w ⟨(a4 C w).mpr ⟨i,ck⟩,ir⟩
theorem oB:∀{r kept q:List Nat},(∀x∈r,x<10)→ew kept→kept≠[]→fG kept r=some q →
  ew q∧q≠[]∧(∀x∈q,x∈kept∨x∈r)∧∀C:Nat→Prop,WW C→(ry q C↔ry kept C∧ry r C)
 | [],kept,q,_,hk,h0,e=>by
  replace e:=zI e;subst e
  exact⟨hk,h0,fun x hx=>.inl hx,fun C zz=>⟨fun i=>⟨i,fun zz h=>by cases h⟩,fun i=>i.1⟩⟩
 | k::r,kept,q,hr,hk,h0,e=>by
  dsimp only[fG]at e
  generalize z:RY kept k=zq;induction zq with
  | none=>rw[z]at e;exact du e
  | some q' =>
   rw[z]at e
   obtain⟨a1,a2,a3,a4⟩:=Cd (hr k (.head _)) hk z
   obtain⟨b1,b2,b3,b4⟩:=oB (fun x hx=>hr x (.tail _ hx)) a1 a2 e
   refine⟨b1,b2,fun x hx=>?_,fun C w=>?_⟩
   ·rcases b3 x hx with h | h
    ·rcases a3 x h with h | h
     ·exact .inl h
     ·subst h;exact .inr (.head _)
    ·exact .inr (.tail _ h)
   ·rw[b4 C w,a4 C w,Lm,and_assoc]
theorem lz{q:List Nat}(nd:q.Nodup)(h:∀k∈q,k<10):q.length≤10:=by
 have:=nd.length_le_of_subset (l₂:=afa 10) fun x hx=>agE.mpr (h x hx)
 simpa using this
end Mine
namespace Mine
open PySem
noncomputable def Fr(X:Nat→Prop)(H H':CH):Prop:=H.length≤H'.length∧∀i,i<H.length→¬X i→H'[i]?=H[i]?
variable{c:eN}{H:CH}{rows bs:List PV}
theorem row_pre{rows ah:List PV}(p:rows <+: ah){t:Nat}{r:PV}(e:rows[t]?=some r):ah[t]?=some r:=by
 obtain⟨z,rfl⟩:=p
 rw[ac3 (aa9.mp e).1]
 exact e
theorem Th.pre{rows ah:List PV}(p:rows <+: ah){t k:Nat}(a:Th rows t k):Th ah t k:=⟨a.1,row_pre p a.2.1,a.2.2⟩
theorem iH.pre{rows ah:List PV}(p:rows <+: ah){ts ks:List Nat}(h:iH rows ts ks):iH ah ts ks:=Sim.ay.imp (fun zz zz a=>a.pre p) h
theorem Bs.pre{rows ah:List PV}(p:rows <+: ah)(B:Bs rows):Bs ah:=by
 refine⟨row_pre p B.r1,row_pre p B.r2,row_pre p B.r6,row_pre p B.r7,aa4 B.len p.length_le,fun i hi r e=>?_⟩
 obtain⟨z,rfl⟩:=p
 rw[ac3 (afg hi B.len)]at e
 exact B.low i hi r e
noncomputable def gS(ts:List Nat):PV:=.tup [.int 7,.tup (bi ts)]
noncomputable def hV(ts:List Nat):PV:=.tup [.int 6,.tup (bi ts)]
noncomputable def Mt(rows:List PV)(t:Nat):List Nat→Prop
 | []=>t=1
 | [k]=>Th rows t k
 | l=>∃ts,iH rows ts l∧rows[t]?=some (gS ts)∧16≤t
noncomputable def pF(rows:List PV)(ts:List Nat)(ls:List (List Nat)):Prop:=Sim.ay (Mt rows) ts ls
noncomputable def Ty(rows:List PV)(t:Nat):List (List Nat)→Prop
 | []=>t=2
 | [l]=>Mt rows t l
 | d=>∃ts,pF rows ts d∧(∀l∈d,l≠[])∧rows[t]?=some (hV ts)∧16≤t
theorem Mt.pre{rows ah:List PV}(p:rows <+: ah){t:Nat}{l:List Nat}:Mt rows t l→Mt ah t l :=
 iX (P:=fun l=>Mt rows t l→Mt ah t l) (fun h=>h) (fun zz h=>Th.pre p h) (fun zz zz zz h=>h.imp fun zz h=>⟨h.1.pre p,row_pre p h.2.1,h.2.2⟩) l
theorem pF.pre{rows ah:List PV}(p:rows <+: ah){ts:List Nat}{ls:List (List Nat)}(h:pF rows ts ls):pF ah ts ls:=Sim.ay.imp (fun zz zz a=>a.pre p) h
theorem Ty.pre{rows ah:List PV}(p:rows <+: ah){t:Nat}{d:List (List Nat)}:Ty rows t d→Ty ah t d :=
 iX (P:=fun d=>Ty rows t d→Ty ah t d) (fun h=>h) (fun zz h=>Mt.pre p h) (fun zz zz zz h=>h.imp fun zz h=>⟨pF.pre p h.1,h.2.1,row_pre p h.2.2.1,h.2.2.2⟩) d
theorem Uj(ts:List Nat):gx (gS ts):=by
 refine⟨?_,_,rfl⟩
 show([PV.int 7,.tup (bi ts)].all (rI 5))=true
 simp only[afd,List.all_nil,agL,ade]
 refine⟨rfl,?_⟩
 show((bi ts).all (rI 4))=true
 rewrite[adM]
 intro x hx
 obtain⟨t,zz,rfl⟩:=abi.mp hx
 rfl
theorem Wr(ts:List Nat):gx (hV ts):=by
 refine⟨?_,_,rfl⟩
 show([PV.int 6,.tup (bi ts)].all (rI 5))=true
 simp only[afd,List.all_nil,agL,ade]
 refine⟨rfl,?_⟩
 show((bi ts).all (rI 4))=true
 rewrite[adM]
 intro x hx
 obtain⟨t,zz,rfl⟩:=abi.mp hx
 rfl
theorem Oq(B:Bs rows){t:Nat}{ts:List Nat}(e:rows[t]?=some (gS ts)):16≤t:=by
 by_cases h:t<16
 ·exact absurd rfl (B.low t h _ e ts).1
 ·lia
theorem PY(B:Bs rows){t:Nat}{ts:List Nat}(e:rows[t]?=some (hV ts))(h8:8∉ts):16≤t:=by
 by_cases h:t<16
 ·exact absurd ((B.low t h _ e ts).2 rfl) h8
 ·lia
theorem A5:∀{a b:List Nat},bi a=bi b→a=b
 | [],[],_=>rfl
 | [],_::_,h=>by cases h
 | _::_,[],h=>by cases h
 | x::a,y::b,h=>by
  rw[jv,jv,ae3,PV.int.injEq,aeK]at h
  rw[h.1];rw[A5 h.2];rfl
theorem IF{a b:List Nat}(h:gS a=gS b):a=b:=by
 unfold gS at h
 simp only[PV.tup.injEq,ae3,true_and,and_true]at h
 exact A5 h
theorem Ks{a b:List Nat}(h:hV a=hV b):a=b:=by
 unfold hV at h
 simp only[PV.tup.injEq,ae3,true_and,and_true]at h
 exact A5 h
theorem iH.ind{rows:List PV}{P:List Nat→List Nat→Prop}(p0:P [] [])(p1:∀t k ts ks,Th rows t k→iH rows ts ks→P ts ks→P (t::ts) (k::ks)){ts ks:List Nat}(h:iH rows ts ks):P ts ks:=Sim.ay.ind h p0 p1
theorem iH.fn{rows:List PV}{ts ks ls:List Nat}(a:iH rows ts ks)(b:iH rows ts ls):ks=ls :=
 iH.ind (P:=fun ts ks=>∀ls,iH rows ts ls→ks=ls) (fun ls b=>by
  induction ls with
  | nil=>rfl
  | cons _ _=>exact b.elim) (fun t k ts ks a zz ih ls b=>by
  induction ls with
  | nil=>exact b.elim
  | cons l ls=>rw[a.fn b.1,ih _ b.2]) a ls b
theorem iH.inj{rows:List PV}(nd:rows.Nodup){ts us ks:List Nat}(a:iH rows ts ks)(b:iH rows us ks):ts=us :=
 iH.ind (P:=fun ts ks=>∀us,iH rows us ks→ts=us) (fun us b=>by
  induction us with
  | nil=>rfl
  | cons _ _=>exact b.elim) (fun t k ts ks a zz ih us b=>by
  induction us with
  | nil=>exact b.elim
  | cons u us=>rw[a.inj nd b.1,ih _ b.2]) a us b
theorem Mt.row{t:Nat}(B:Bs rows):∀{l:List Nat},Mt rows t l→∃(k:Int) (r:List PV),rows[t]?=some (.tup (.int k::r))∧r.length<90∧(match l with | []=>k=1 | [x]=>k=kd x | _=>k=7)
 | [],h=>⟨1,_,by rewrite[show t=1 from h];exact B.r1,by decide,rfl⟩
 | [x],h=>by
  obtain⟨r,e,hr⟩:=Th.row h
  exact⟨kd x,r,e,hr,rfl⟩
 | _::_::_,⟨ts,_,e,_⟩=>⟨7,_,e,by simp,rfl⟩
theorem ku:∀x,kd x≠6∧kd x≠7∧kd x≠9:=by
 intro x
 unfold kd
 split <;> decide
theorem Mt.no{x t:Nat}{ts:List Nat}(a:Th rows t x)(e:rows[t]?=some (gS ts)):False:=by
 obtain⟨r,e',zz⟩:=Th.row a
 rw[e]at e'
 simp only[gS,ae8,PV.tup.injEq,ae3,PV.int.injEq]at e'
 exact absurd e'.1.symm (ku x).2.1
theorem Mt.fn(B:Bs rows){t:Nat}{l m:List Nat}:Mt rows t l→Mt rows t m→l=m :=
 iX (P:=fun l=>Mt rows t l→Mt rows t m→l=m)
  (iX (P:=fun m=>Mt rows t []→Mt rows t m→[]=m) (fun zz zz=>rfl)
   (fun zz h g=>by rw[show t=1 from h]at g;have:=g.2.2.1;lia)
   ((by rintro _ _ _ h ⟨_,_,_,g⟩;exact by rw[show t=1 from h]at g;lia)) m)
  (fun x=>iX (P:=fun m=>Mt rows t [x]→Mt rows t m→[x]=m)
   (fun g h=>by rw[show t=1 from h]at g;have:=g.2.2.1;lia)
   (fun zz a b=>by rewrite[Th.fn a b];rfl)
   ((by rintro _ _ _ a ⟨_,_,e,_⟩;exact(Mt.no a e).elim)) m)
  (fun x y r=>iX (P:=fun m=>Mt rows t (x::y::r)→Mt rows t m→x::y::r=m)
   ((by rintro⟨_,_,_,g⟩ h;exact by rw[show t=1 from h]at g;lia))
   ((by rintro _ ⟨_,_,e,_⟩ a;exact(Mt.no a e).elim))
   ((by rintro _ _ _ ⟨_,a,e,_⟩ ⟨_,a',e',_⟩;exact(by
    rw[e,ae8]at e'
    cases IF e'
    exact a.fn a'))) m) l
theorem Mt.inj(nd:rows.Nodup){s t:Nat}:∀{l:List Nat},Mt rows s l→Mt rows t l→s=t :=
 fun{l}=>iX (P:=fun l=>Mt rows s l→Mt rows t l→s=t) (fun a b=>(show s=1 from a).trans (show t=1 from b).symm) (fun zz a b=>Th.inj nd a b) ((by rintro _ _ _ ⟨_,a,e,_⟩ ⟨_,a',e',_⟩;exact(by
  cases a.inj nd a'
  exact Hy nd e e'))) l
theorem pF.fn(B:Bs rows){ts:List Nat}{ks ls:List (List Nat)}(a:pF rows ts ks)(b:pF rows ts ls):ks=ls :=
 Sim.ay.ind (P:=fun ts ks=>∀ls,pF rows ts ls→ks=ls) a (fun ls b=>by
  induction ls with
  | nil=>rfl
  | cons _ _=>exact b.elim) (fun t k ts ks a zz ih ls b=>by
  induction ls with
  | nil=>exact b.elim
  | cons l ls=>rw[Mt.fn B a b.1,ih _ b.2]) ls b
theorem Mt.kind{t:Nat}(B:Bs rows){l:List Nat}(h:Mt rows t l){ts:List Nat}:rows[t]?≠some (hV ts):=by
 obtain⟨k,r,e,zz,hk⟩:=h.row B
 intro e'
 rw[e]at e'
 simp only[hV,ae8,PV.tup.injEq,ae3,PV.int.injEq]at e'
 rw[e'.1]at hk
 obtain _ | ⟨x,_ | ⟨_,_⟩⟩:=l
 ·cases hk
 ·exact(ku x).1 hk.symm
 ·cases hk
theorem Mt.ne2{t:Nat}{l:List Nat}:Mt rows t l→t≠2 :=
 iX (P:=fun l=>Mt rows t l→t≠2) (fun h=>by rewrite[show t=1 from h];decide) (fun zz h=>by have:=h.2.2.1;lia) (fun zz zz zz h=>h.elim fun zz h=>by have:=h.2.2;lia) l
theorem Ty.fn(B:Bs rows){t:Nat}{d e:List (List Nat)}:Ty rows t d→Ty rows t e→d=e :=
 iX (P:=fun d=>Ty rows t d→Ty rows t e→d=e)
  (iX (P:=fun e=>Ty rows t []→Ty rows t e→[]=e) (fun zz zz=>rfl)
   (fun zz h g=>absurd h (Mt.ne2 g))
   ((by rintro _ _ _ h ⟨_,_,_,_,g⟩;exact by rw[show t=2 from h]at g;lia)) e)
  (fun x=>iX (P:=fun e=>Ty rows t [x]→Ty rows t e→[x]=e)
   (fun g h=>absurd h (Mt.ne2 g))
   (fun zz a b=>by rewrite[Mt.fn B a b];rfl)
   ((by rintro _ _ _ a ⟨_,_,_,e,_⟩;exact absurd e (Mt.kind B a))) e)
  (fun x y r=>iX (P:=fun e=>Ty rows t (x::y::r)→Ty rows t e→x::y::r=e)
   ((by rintro⟨_,_,_,_,g⟩ h;exact by rw[show t=2 from h]at g;lia))
   ((by rintro _ ⟨_,_,_,e,_⟩ a;exact absurd e (Mt.kind B a)))
   ((by rintro _ _ _ ⟨_,a,_,e,_⟩ ⟨_,a',_,e',_⟩;exact(by
    rw[e,ae8]at e'
    cases Ks e'
    exact a.fn B a'))) e) d
end Mine
namespace Mine
open PySem
noncomputable abbrev ap:=Nat×CO
noncomputable def Rep(K:List ap)(H:CH):Prop:=H[0]?=some IK∧(K.map (·.1)).Nodup∧∀p∈K,2≤p.1∧H[p.1]?=some p.2
theorem Rep.perm{K K':List ap}(h:K.Perm K'){H:CH}(r:Rep K H):Rep K' H:=⟨r.1,(h.map _).nodup_iff.mp r.2.1,fun p hp=>r.2.2 p (h.mem_iff.mpr hp)⟩
theorem Rep.sub{K K':List ap}(h:K'.Sublist K){H:CH}(r:Rep K H):Rep K' H:=⟨r.1,r.2.1.sublist (h.map _),fun p hp=>r.2.2 p (h.subset hp)⟩
theorem Rep.set{i:Nat}{o o':CO}{K:List ap}{H:CH}(r:Rep ((i,o)::K) H):Rep ((i,o')::K) (H.set i o'):=by
 obtain⟨r0,r1,r2⟩:=r
 have hi:=r2 _ (.head _)
 refine⟨(gG (by have:=hi.1;dsimp only at this;lia)).trans r0,r1,fun p hp=>?_⟩
 rcases aa2.mp hp with rfl | hp
 ·exact⟨hi.1,EW hi.2⟩
 ·have hp2:=r2 p (.tail _ hp)
  refine⟨hp2.1,(gG fun e=>?_).trans hp2.2⟩
  rw[ab6,abU]at r1
  exact r1.1 (abi.mpr ⟨p,hp,e.symm⟩)
theorem Rep.new{K:List ap}{H:CH}(r:Rep K H)(h2:2≤H.length)(o:CO):Rep ((H.length,o)::K) (H++[o]):=by
 refine⟨iK (abY ..) r.1,?_,fun p hp=>?_⟩
 ·rw[ab6];rewrite[abU]
  refine⟨fun h=>?_,r.2.1⟩
  obtain⟨p,hp,e⟩:=abi.mp h
  have:=(aa9.mp (r.2.2 p hp).2).1
  dsimp only at e
  lia
 ·rcases aa2.mp hp with rfl | hp
  ·exact⟨h2,tv⟩
  ·exact⟨(r.2.2 p hp).1,iK (abY ..) (r.2.2 p hp).2⟩
noncomputable def Run{α:Type}(K:List ap)(m:CM α)(Q:α→List ap→Prop):Prop:=∀F H,Rep (K++F) H→2≤H.length→∃v K' H',m H=some (v,H')∧Rep (K'++F) H'∧2≤H'.length∧Q v K'
noncomputable def gP{α:Type}(K:List ap)(m:CM α)(v:α)(K':List ap):Prop:=∀F H,Rep (K++F) H→2≤H.length→∃H',m H=some (v,H')∧Rep (K'++F) H'∧2≤H'.length
noncomputable def Rd{α:Type}(K:List ap)(m:CM α)(v:α):Prop:=∀H,Rep K H→m H=some (v,H)
variable{α β:Type}{K gf NP:List ap}{m:CM α}{f:α→CM β}{a:α}{b:β}{Q:β→List ap→Prop}{P:α→List ap→Prop}
theorem Rd.det(h:Rd K m a):gP K m a K:=fun F H r l=>⟨H,h H (r.sub (adn K F)),r,l⟩
theorem Rd.seq(h:Rd K m a)(g:Rd K (f a) b):Rd K (aa m f) b:=fun H r=>by rewrite[be (h H r)];exact g H r
theorem Rd.ret(a:α):Rd K (ret a) a:=fun zz zz=>rfl
theorem gP.seq(h:gP K m a gf)(g:gP gf (f a) b NP):gP K (aa m f) b NP:=fun F H r l=>by
 obtain⟨lc,e1,r1,l1⟩:=h F H r l
 rw[be e1]
 exact g F lc r1 l1
theorem Run.seq(h:Run K m P)(g:∀a K',P a K'→Run K' (f a) Q):Run K (aa m f) Q:=fun F H r l=>by
 obtain⟨v,K',lc,e1,r1,l1,p⟩:=h F H r l
 rw[be e1]
 exact g v K' p F lc r1 l1
theorem Run.det(h:gP K m a gf)(g:Run gf (f a) Q):Run K (aa m f) Q:=fun F H r l=>by
 obtain⟨lc,e1,r1,l1⟩:=h F H r l
 rw[be e1]
 exact g F lc r1 l1
theorem Run.rd(h:Rd K m a)(g:Run K (f a) Q):Run K (aa m f) Q:=Run.det h.det g
theorem Run.of{v:β}(m:CM β)(h:gP K m v gf)(q:Q v gf):Run K m Q:=fun F H r l=>(by obtain⟨H',e,r',l'⟩:=h F H r l;exact⟨v,gf,H',e,r',l',q⟩)
theorem Run.ret{v:β}(q:Q v K):Run K (ret v) Q:=fun zz H r l=>⟨v,K,H,rfl,r,l,q⟩
theorem Run.imp{m:CM β}{Q':β→List ap→Prop}(h:Run K m Q')(i:∀v K',Q' v K'→Q v K'):Run K m Q:=fun F H r l=>(by obtain⟨v,K',H',e,r',l',q⟩:=h F H r l;exact⟨v,K',H',e,r',l',i v K' q⟩)
theorem Run.yes{x y:CM β}(h:Run K x Q):Run K (af true x y) Q:=h
theorem Run.no{x y:CM β}(h:Run K y Q):Run K (af false x y) Q:=h
theorem Run.gC{x:CM PV}{Q:PV→List ap→Prop}(h:Run K x Q):Run K (Mine.gC .none x) Q:=h
theorem Rd.eq{K:List ap}(a b:Int):Rd K (ae .Eq (.int a) (.int b)) (a == b):=fun zz zz=>eq_int a b _
theorem Rd.ne{K:List ap}(a b:Int):Rd K (ae .NotEq (.int a) (.int b)) (!(a == b)):=fun zz zz=>ne_int a b _
theorem Rd.not{K:List ap}(b:Bool):Rd K (aa (truth (.bool b)) fun b=>Mine.ret (!b)) (!b):=fun zz zz=>rfl
theorem Run.drop{c:ap}{m:CM β}(h:Run K m Q):Run (c::K) m Q:=fun F H r l=>h F H (r.sub (aev _ _)) l
theorem Rd.up{c:ap}(h:Rd K m a):Rd (c::K) m a:=fun H r=>h H (r.sub (aev _ _))
theorem gP.up{c:ap}(h:gP K m a gf):gP (c::K) m a (c::gf):=fun F H r l=>by
 obtain⟨H',e,r',l'⟩:=h (c::F) H (r.perm (by simpa using abj.symm)) l
 exact⟨H',e,r'.perm (by simpa using abj),l'⟩
theorem Run.up{c:ap}{m:CM β}(h:Run K m Q):Run (c::K) m (fun v K'=>∃gf,K'=c::gf∧Q v gf):=fun F H r l=>by
 obtain⟨v,K',H',e,r',l',q⟩:=h (c::F) H (r.perm (by simpa using abj.symm)) l
 exact⟨v,c::K',H',e,r'.perm (by simpa using abj),l',K',rfl,q⟩
theorem Rd.cell{i:Nat}{o:CO}{m:CM α}(h:∀H:CH,H[i]?=some o→m H=some (a,H))(j:Nat)(e:K[j]?=some (i,o)):Rd K m a:=fun H r=>h H (r.2.2 _ (aea e)).2
theorem EV{i:Nat}{o o':CO}:∀{K:List ap} {j:Nat},K[j]?=some (i,o)→∃L,K.Perm ((i,o)::L)∧(K.set j (i,o')).Perm ((i,o')::L)
 | [],j,e=>by exact du e
 | c::K,0,e=>by replace e:=zI e;subst e;exact⟨K,.refl _,.refl _⟩
 | c::K,j+1,e=>by
  obtain⟨L,h1,h2⟩:=EV (K:=K) (j:=j) e
  exact⟨c::L,(h1.cons c).trans (.swap ..),(h2.cons c).trans (.swap ..)⟩
theorem gP.cell{i:Nat}{o o':CO}{m:CM α}(h:∀H:CH,H[i]?=some o→2≤i→m H=some (a,H.set i o'))(j:Nat)(e:K[j]?=some (i,o)):gP K m a (K.set j (i,o')):=fun F H r l=>by
 have hi:=r.2.2 (i,o) (aap _ (aea e))
 obtain⟨L,h1,h2⟩:=EV (o':=o') e
 exact⟨_,h H hi.2 hi.1,((r.perm (h1.append_right F)).set (o':=o')).perm (h2.append_right F).symm,by rw[adj];exact l⟩
theorem Run.new{o:CO}{f:PV→CM β}(g:∀i,Run ((i,o)::K) (f (.ref i)) Q):Run K (aa (new o) f) Q:=fun F H r l=>by
 rw[be (oF o)]
 exact g H.length F _ (r.new l o) (by rw[aaA];exact acX l)
theorem Run.eq{m m':CM β}(e:m=m')(h:Run K m' Q):Run K m Q:=e▸h
theorem Rd.mem{i:Nat}{o:CO}{m:CM α}(h:∀H:CH,H[i]?=some o→m H=some (a,H))(e:(i,o)∈K):Rd K m a:=fun H r=>h H (r.2.2 _ e).2
noncomputable def iY(r:Nat)(l:List PV)(turn:PV→bg→(bg→CM PV)→CM PV)(rest:List PV)(ρ:bg)(E:bg→CM PV):CM PV:=ek (.live r) turn rest.length (l.length-rest.length) ρ E
variable{turn:PV→bg→(bg→CM PV)→CM PV}{E:bg→CM PV}{R:PV→List ap→Prop}{r:Nat}{l rest:List PV}{ρ:bg}{x:PV}
theorem Run.Ce(h:(r,CO.list l)∈K)(g:Run K (E ρ) R):Run K (iY r l turn [] ρ E) R:=Run.rd (f:=fun zz=>E ρ) (Rd.mem (fun zz=>jx) h) g
theorem Run.yh(h:(r,CO.list l)∈K)(s:x::rest <:+ l)(g:Run K (turn x ρ fun hZ=>iY r l turn rest hZ E) R):Run K (iY r l turn (x::rest) ρ E) R:=by
 obtain⟨p,rfl⟩:=s
 have e:(p++x::rest).length-(rest.length+1)=p.length:=by rw[aaA];exact agf ..
 have e2:(p++x::rest).length-rest.length=p.length+1:=by rw[aaA];rw[aaK];rw[ag6 rest.length 1];rw[← agg];exact agf ..
 unfold iY at g ⊢
 rw[aaK];rw[e]
 rw[e2]at g
 exact Run.rd (m:=Ov (.live r) p.length) (a:=x) (f:=fun x=>turn x ρ fun hZ=>ek (.live r) turn rest.length (p.length+1) hZ E) (Rd.mem (fun zz z=>pM z (by rw[abE (aaX _)];rw[ads];rfl)) h) g
theorem Run.Lv(h:(r,CO.list l)∈K){T:It→Nat→CM PV}(e:T (.live r) l.length=ek (.live r) turn l.length 0 ρ E)(g:Run K (iY r l turn l ρ E) R):Run K (aa (da (.ref r)) fun t=>aa (bj t) fun n=>T t n) R:=by
 refine Run.rd (Rd.mem (fun zz=>dh) h) (Run.rd (Rd.mem (fun zz=>cu) h) (Run.eq e ?_))
 unfold iY at g
 rw[ads]at g
 exact g
end Mine
namespace Mine
open PySem
variable{c:eN}{H:CH}{rows bs:List PV}
theorem sI:∀k:Nat,k<10→∃l:List PV,dy k=.tup (.int (kd k)::l)∧l.length<90∧([2,3,4,5,8].contains (kd k)=false∨∃m z,l=m++[.int z]∧(z == 1)=false)
 | 0,_=>⟨_,rfl,by decide,.inl rfl⟩
 | 1,_=>⟨_,rfl,by decide,.inl rfl⟩
 | 2,_=>⟨_,rfl,by decide,.inl rfl⟩
 | 3,_=>⟨_,rfl,by decide,.inr ⟨[.str (S "a")],0,rfl,rfl⟩⟩
 | 4,_=>⟨_,rfl,by decide,.inl rfl⟩
 | 5,_=>⟨_,rfl,by decide,.inl rfl⟩
 | 6,_=>⟨_,rfl,by decide,.inl rfl⟩
 | 7,_=>⟨_,rfl,by decide,.inl rfl⟩
 | 8,_=>⟨_,rfl,by decide,.inr ⟨[.tup [gK (S "v")],.tup [],.tup [],.tup [],.tup []],0,rfl,rfl⟩⟩
 | 9,_=>⟨_,rfl,by decide,.inr ⟨[.tup [gK (S "w")],.tup [],.tup [],.tup [],.tup []],0,rfl,rfl⟩⟩
 | k+10,h=>absurd h (by lia)
theorem RP(T:Tb c H rows bs){t n:Nat}{k:Int}{l:List PV}(e:rows[t]?=some (.tup (.int k::l)))(hl:l.length<90)(h:[2,3,4,5,8].contains k=false∨∃m z,l=m++[.int z]∧(z == 1)=false) :
  Φ (n+1) (S "is_fresh") [.ref c.tab,.int t] H=some (.bool false,H):=by
 rw[KW]
 have r0:=AR (.int k) l H (show l.length<100 by lia)
 generalize q:[2,3,4,5,8].contains k=zq;induction zq with
 | false=>simp only[oc,jC,hB,hJ,hE,rN,gW,gV,acq,acg,iO,fV,dz,eO,fR,eq_int,ne_int,lt_int,le_int,gt_int,ge_int,adm,adl,adg,adc,eQ,bz,ch,eP,eg,ca,cz,ce,dj,acY,acP,mo,mq,mr,ms,mw,mx,my,Bj,T.qP,sH T e,r0,kj,q]
 | true =>
  rcases h with h | ⟨m,z,rfl,hz⟩
  ·rw[q]at h;exact rr h
  ·have r:getItem (.tup (.int k::(m++[.int z]))) (.int (-1)) H=some (.int z,H):=Q3 (.int k::m) (.int z) H (by rw[aaA,abf]at hl;rw[aaK];lia)
   simp only[oc,jC,hB,hJ,hE,rN,gW,gV,acq,acg,iO,fV,dz,eO,fR,eq_int,ne_int,lt_int,le_int,gt_int,ge_int,adm,adl,adg,adc,eQ,bz,ch,eP,eg,ca,cz,ce,dj,acY,acP,mo,mq,mr,ms,mw,mx,my,Bj,T.qP,sH T e,r0,kj,q,r,hz]
theorem yz(T:Tb c H rows bs){t n:Nat}{k:Int}{l:List PV}(e:rows[t]?=some (.tup (.int k::l)))(hl:l.length<90)(h:[2,3,4,5,8].contains k=false∨∃m z,l=m++[.int z]∧(z == 1)=false) :
  Φ (n+2) (S "regular_one") [.ref c.tab,.int t] H=some (.int t,H):=by
 rw[BK]
 simp only[oc,jC,hB,hJ,hE,rN,gW,gV,acq,acg,iO,fV,dz,eO,fR,eq_int,ne_int,lt_int,le_int,gt_int,ge_int,adm,adl,adg,adc,eQ,bz,ch,eP,eg,ca,cz,ce,dj,acY,acP,mZ,ng,nh,ni,RP T e hl h]
theorem rj(T:Tb c H rows bs){t n k:Nat}(a:Th rows t k):Φ (n+2) (S "regular_one") [.ref c.tab,.int t] H=some (.int t,H):=by
 obtain⟨l,e,hl,h⟩:=sI k a.1
 exact yz T (a.2.1.trans (congrArg some e)) hl h
theorem Hd(x y:PV)(l:List PV)(H:CH)(h:l.length<90):getItem (.tup (x::y::l)) (.int 1) H=some (y,H):=by
 rw[show(1:Int)=((1:Nat):Int)from rfl];rewrite[Wn _ _ _ (by rw[aaK];rw[aaK];unfold ax;lia)]
 rfl
theorem H0{l:List PV}(h:l.length≤100)(H:CH):gB l H=some (.tup l,H):=by
 unfold gB
 rw[ad6 h];rfl
theorem LA(T:Tb c H rows bs){t n:Nat}:∀{l:List Nat},Mt rows t l→l≠[]→∃ts,iH rows ts l∧Φ (n+3) (S "members_of_meet") [.ref c.tab,.int t] H=some (.tup (bi ts),H)
 | [],_,h=>absurd rfl h
 | [k],a,_=>by
  refine⟨[t],⟨a,trivial⟩,?_⟩
  obtain⟨l,e,hl⟩:=Th.row a
  have e0:=AR (.int (kd k)) l H (show l.length<100 by lia)
  have h6:=ku k
  have q7:(kd k == 7)=false:=by simpa using h6.2.1
  have q9:(kd k == 9)=false:=by simpa using h6.2.2
  rw[ju]
  generalize q8:(kd k == 8)=zq;induction zq with
  | false=>simp only[oc,jC,hB,hJ,hE,rN,gW,gV,acq,acg,iO,fV,dz,eO,fR,eq_int,ne_int,lt_int,le_int,gt_int,ge_int,adm,adl,adg,adc,eQ,bz,ch,eP,eg,ca,cz,ce,dj,acY,acP,fg,fh,fi,fj,fo,fp,fq,fr,fu,fw,eT,eU,eV,eW,eX,eY,T.qP,sH T e,e0,q7,q9,q8];rfl
  | true=>simp only[oc,jC,hB,hJ,hE,rN,gW,gV,acq,acg,iO,fV,dz,eO,fR,eq_int,ne_int,lt_int,le_int,gt_int,ge_int,adm,adl,adg,adc,eQ,bz,ch,eP,eg,ca,cz,ce,dj,acY,acP,fg,fh,fi,fj,fo,fp,fq,fr,fu,fw,eT,eU,eV,eW,eX,eY,T.qP,sH T e,e0,q7,q9,q8,rj T a,H0 (l:=[.int t]) (by simp) H];rfl
 | _::_::_,⟨ts,a,e,_⟩,_=>by
  refine⟨ts,a,?_⟩
  have e0:=AR (.int 7) [.tup (bi ts)] H (by simp)
  have e1:=Hd (.int 7) (.tup (bi ts)) [] H (by simp)
  have er:=sH T e
  rw[ju]
  unfold gS at er
  simp only[oc,jC,hB,hJ,hE,rN,gW,gV,acq,acg,iO,fV,dz,eO,fR,eq_int,ne_int,lt_int,le_int,gt_int,ge_int,adm,adl,adg,adc,eQ,bz,ch,eP,eg,ca,cz,ce,dj,acY,acP,fg,fh,fi,fj,fo,fp,fq,fr,fu,fw,eT,eU,eV,eW,eX,eY,T.qP,er,e0,e1]
theorem Tb.abB(T:Tb c H rows bs):au ai (.ref c.tab) (S "put") H=some (.fn (S "TypeTable.put"),H):=eR T.tab (by kernel_rfl!) (by kernel_rfl!)
theorem is_none_none(H:CH):ae .Is .none .none H=some (true,H):=rfl
theorem isnot_none_none(H:CH):ae .IsNot .none .none H=some (false,H):=rfl
theorem qJ:∀(l:List PV) (H:CH),ed (fun v=>ret [v]) l H=some (l,H)
 | [],_=>rfl
 | x::r,H=>by
  rw[ce];rw[jZ];rw[be (qJ r H)]
  rfl
theorem E1{r:Nat}{l:List PV}{H:CH}(h:H[r]?=some (.list l)):blt .tuple [.ref r] H=some (.tup l,H):=by
 unfold blt iQ
 dsimp only
 rewrite[eL h]
 rfl
theorem qQ{r:Nat}{l:List PV}{v:PV}{H:CH}(h:H[r]?=some (.list (v::l))):getItem (.ref r) (.int 0) H=some (v,H):=gh (n:=0) h rfl
theorem iH.mem{rows:List PV}{ts ks:List Nat}(h:iH rows ts ks){t:Nat}(ht:t∈ts):∃k∈ks,Th rows t k:=Sim.ay.oE h ht
theorem iH.oE{rows:List PV}{ts ks:List Nat}(h:iH rows ts ks){k:Nat}(hk:k∈ks):∃t∈ts,Th rows t k:=Sim.ay.mem h hk
end Mine
namespace Mine
open PySem
variable{c:eN}{H:CH}{rows bs:List PV}{α β:Type}{K gf:List ap}{m:CM α}{a:α}
noncomputable def cf(c:eN)(bs rows:List PV):List ap:=[(c.tab,tabObj c),(c.rws,.list rows),(c.idx,.dict (fW 0 rows)),(c.NS,.list bs)]
structure Rw(rows:List PV):Prop where
 ok:∀r∈rows,gx r
 sL:rows.Nodup
 base:Bs rows
theorem Q9(R:Rw rows)(r:Rep (cf c bs rows) H):Tb c H rows bs:=⟨r.1,(r.2.2 _ (.head _)).2,(r.2.2 _ (.tail _ (.head _))).2,(r.2.2 _ (.tail _ (.tail _ (.head _)))).2,(r.2.2 _ (.tail _ (.tail _ (.tail _ (.head _))))).2,R.ok,R.sL⟩
theorem sJ(r:Rep (cf c bs rows) H):Ru c:=by
 have n:=r.2.1
 have h1:=(r.2.2 _ (.tail _ (.head _))).1
 have h2:=(r.2.2 _ (.tail _ (.tail _ (.head _)))).1
 simp only[cf,ab6,agY,abU,aa2,afs,or_false,not_or]at n
 exact⟨n.2.1.1,n.1.1,n.1.2.1,n.2.1.2 ∘ Eq.symm,n.2.2.1 ∘ Eq.symm,h1,h2⟩
theorem Rep.pre{H':CH}(p:H <+: H')(r:Rep K H):Rep K H':=⟨iK p r.1,r.2.1,fun x hx=>⟨(r.2.2 x hx).1,iK p (r.2.2 x hx).2⟩⟩
theorem Rd.tb(R:Rw rows)(h:∀H,Ru c→Tb c H rows bs→m H=some (a,H)):Rd (cf c bs rows) m a:=fun H r=>h H (sJ r) (Q9 R r)
theorem gP.tb(R:Rw rows)(h:∀H,Ru c→Tb c H rows bs→∃H',m H=some (a,H')∧H <+: H'):gP (cf c bs rows) m a (cf c bs rows):=fun F H r l=>by
 have r':=r.sub (adn _ F)
 obtain⟨H',e,p⟩:=h H (sJ r') (Q9 R r')
 exact⟨H',e,r.pre p,aa4 l p.length_le⟩
theorem gP.to(h:gP K m a gf){NP:List ap}(e:gf=NP):gP K m a NP:=e▸h
theorem jB{cl:Str→List PV→CM PV}(j:Nat){i:Nat}{l:List PV}{v:PV}(e:K[j]?=some (i,.list l))(m:l.length+1<ax):gP K (aa (au ai (.ref i) (S "append")) fun f=>aj cl f (.ref i) [v]) .none (K.set j (i,.list (l++[v]))) :=
 (Rd.cell (fun zz e=>ez e) j e).det.seq (gP.cell (fun zz e h=>iM e m h) j e)
theorem Z2(R:Rw rows){s t n k l:Nat}(a:Th rows s k)(b:Th rows t l):gP (cf c bs rows) (Φ (n+4) (S "meet_case") [.ref c.tab,.int s,.int t]) (.int (mc k l)) (cf c bs rows):=gP.tb R fun zz C T=>yW C T R.base a b
theorem ab3:∀x,x<10→∀k,k<10→mc x k<4:=by decide +kernel
noncomputable def abd(rows:List PV)(K:List ap):Option (List Nat)→PV→List ap→Prop
 | none,v,K'=>v=.none∧K'=K
 | some q,v,K'=>∃i os,v=.ref i∧K'=(i,.list (bi os))::K∧iH rows os q
theorem Ux(R:Rw rows){ts ks:List Nat}{t n k r o:Nat}(b:Th rows t k):∀{rs qs os ol:List Nat} {held:Bool} {a5 a6:Option PV},iH rows rs qs→iH rows os ol→os.length+rs.length<100→bi rs <:+ bi ts→RY ks k=jy k ol held qs →
  Run ((o,.list (bi os))::(r,.list (bi ts))::cf c bs rows) (iY r (bi ts) (ph (Φ (n+4))) (bi rs) [some (.ref c.tab),some (.ref r),some (.int t),some (.ref o),some (.bool held),a5,a6,none,none,none,none] (pj (Φ (n+4)))) (abd rows ((r,.list (bi ts))::cf c bs rows) (RY ks k)):=by
 have app:∀{os:List Nat} {x:Nat},os.length<200→gP ((o,.list (bi os))::(r,.list (bi ts))::cf c bs rows) (aa (au ai (.ref o) (S "append")) fun f=>aj (Φ (n+4)) f (.ref o) [.int x]) .none ((o,.list (bi (os++[x])))::(r,.list (bi ts))::cf c bs rows):=fun{os x} h=>by
  rewrite[show bi (os++[x])=bi os++[PV.int x] by rw[eI];rfl]
  exact jB 0 rfl (by rw[bm];unfold ax;lia)
 intro rs
 induction rs with
 | nil =>
  intro qs os ol held a5 a6 h1 h3 hn hs hq
  refine Run.Ce (.tail _ (.head _)) ?_
  rw[F6];rw[hq];rewrite[show qs=[]from aaZ h1.len.symm]
  induction held with
  | true=>exact Run.rd (Rd.not true) (Run.no (Run.ret ⟨o,os,rfl,rfl,h3⟩))
  | false=>exact Run.rd (Rd.not false) (Run.yes (Run.det (app (by lia)) (Run.gC (Run.ret ⟨o,os++[t],rfl,rfl,h3.append ⟨b,trivial⟩⟩))))
 | cons s rs ih =>
  intro qs os ol held a5 a6 h1 h3 hn hs hq
  induction qs with
  | nil=>exact h1.elim
  | cons q qs =>
   rw[aaK]at hn
   refine Run.yh (.tail _ (.head _)) hs ?_
   have ih':=fun abM (hq':RY ks k=jy k (ol++[q]) abM qs)=>ih (os:=os++[s]) (a5:=some (.int s)) (a6:=some (.int (mc q k))) h1.2 (h3.append (ts':=[s]) (ks':=[q]) ⟨h1.1,trivial⟩) (by rw[aaA];rw[abf];lia) ((abT ..).trans hs) hq'
   have ih2:=ih (os:=os) (held:=held) (a5:=some (.int s)) (a6:=some (.int (mc q k))) h1.2 h3 (by lia) ((abT ..).trans hs)
   have hm:=ab3 q h1.1.1 k b.1
   dsimp only[jy]at hq
   rw[F5]
   refine Run.det (((Z2 (n:=n) (c:=c) (bs:=bs) R h1.1 b).up (c:=(r,.list (bi ts)))).up (c:=(o,.list (bi os)))) ?_
   generalize mc q k=z at *
   obtain rfl | rfl | rfl | rfl:z=0∨z=1∨z=2∨z=3:=by lia
   ·exact Run.rd (Rd.eq 0 0) (Run.yes (Run.drop (Run.ret (by rw[hq];exact⟨rfl,rfl⟩))))
   ·exact Run.rd (Rd.eq 1 0) (Run.no (Run.rd (Rd.eq 1 1) (Run.yes (Run.rd (Rd.ne 1 2) (Run.yes (Run.det (app (by lia)) (Run.gC (ih' true (by rw[hq];cases held <;> rfl)))))))))
   ·exact Run.rd (Rd.eq 2 0) (Run.no (Run.rd (Rd.eq 2 1) (Run.no (Run.rd (Rd.ne 2 2) (Run.no (ih2 (by rw[hq];cases held <;> rfl)))))))
   ·exact Run.rd (Rd.eq 3 0) (Run.no (Run.rd (Rd.eq 3 1) (Run.no (Run.rd (Rd.ne 3 2) (Run.yes (Run.det (app (by lia)) (Run.gC (ih' held (by rw[hq];cases held <;> rfl)))))))))
theorem ab1(R:Rw rows){ts ks:List Nat}{t n k r:Nat}(a:iH rows ts ks)(b:Th rows t k)(hl:ts.length<100) :
  Run ((r,.list (bi ts))::cf c bs rows) (Φ (n+5) (S "lay_on") [.ref c.tab,.ref r,.int t]) (abd rows ((r,.list (bi ts))::cf c bs rows) (RY ks k)):=by
 rw[RI]
 exact Run.new fun o=>Run.Lv (T:=fun t' n'=>yx (Φ (n+4)) (.ref c.tab) (.ref r) (.int t) (.ref o) t' n') (.tail _ (.head _)) rfl (Ux (os:=[]) (ol:=[]) R b a trivial (by simpa using hl) (acf _) rfl)
end Mine
namespace Mine
open PySem
variable{c:eN}{H:CH}{rows bs:List PV}{α β:Type}{K gf:List ap}{m:CM α}{f:α→CM β}{a:α}{Q:β→List ap→Prop}{P:List PV→Nat→Prop}{k:Nat}
theorem Run.bh(h:Run K m fun a K'=>Run K' (f a) Q):Run K (aa m f) Q:=h.seq fun zz zz h=>h
theorem Run.upL(L:List ap){m:CM β}(h:Run K m Q):Run (L++K) m fun v K'=>∃gf,K'=L++gf∧Q v gf:=fun F H r l=>by
 obtain⟨v,K',H',e,r',l',q⟩:=h (L++F) H (r.perm (((afp (l₁:=L) (l₂:=K)).append_right F).trans (aaW K L F▸.refl _))) l
 exact⟨v,L++K',H',e,r'.perm ((((afp (l₁:=L) (l₂:=K')).append_right F).trans (aaW K' L F▸.refl _)).symm),l',K',rfl,q⟩
theorem Run.ofL(L:List ap){m:CM β}{v:β}(h:gP K m v (L++gf))(q:Q v gf):Run K m Q:=fun F H r l =>
 (by obtain⟨H',e,r',l'⟩:=h F H r l;exact(  ⟨v,gf,H',e,r'.sub (aaW L gf F▸ab7 L _),l',q⟩))
theorem Run.mk{l:List PV}{Q:PV→List ap→Prop}(h:l.length<ax)(g:∀i,Q (.ref i) ((i,.list l)::K)):Run K (cw l) Q:=fun F H r l2 =>
 ⟨_,_,_,vR h H,r.new l2 _,by rw[aaA];exact acX l2,g H.length⟩
theorem Run.BE{c d:ap}{m:CM β}(h:Run (c::K) m Q):Run (c::d::K) m Q:=fun F H r l=>h F H (r.sub ((aev ..).cons_cons _)) l
theorem Qf{turn:PV→CM (List PV)}{r:Nat}{l:List PV}{g:PV→List PV}(h:H[r]?=some (.list l))(ht:∀x∈l,turn x H=some (g x,H)):∀{n i:Nat},i+n=l.length→av (.live r) turn n i H=some ((l.drop i).flatMap g,H)
 | 0,i,e=>by
  obtain rfl:i=l.length:=e
  rw[ago]
  exact be (jx h)
 | n+1,i,e=>by
  have hi:i<l.length:=by lia
  have:=be (f:=fun l=>aa (av (.live r) turn n (i+1)) fun r=>ret (l++r)) (ht _ (agn hi))
  rw[be (Qf h ht (by lia))]at this
  rw[afK hi];rw[adQ]
  exact(be (pM h (aa8 hi))).trans this
theorem Rd.TC{turn:PV→CM (List PV)}{r:Nat}{l:List PV}(g:PV→List PV)(h:(r,CO.list l)∈K)(ht:∀x∈l,Rd K (turn x) (g x)):Rd K (av (.live r) turn l.length 0) (l.flatMap g):=fun H rp=>Qf (rp.2.2 _ h).2 (fun x hx=>ht x hx H rp) (ad4 _)
theorem Rep.setAt{i:Nat}{o o':CO}(r:Rep K H)(j:Nat)(e:K[j]?=some (i,o)):Rep (K.set j (i,o')) (H.set i o') :=
 (by obtain⟨zz,h1,h2⟩:=EV e;exact(  ((r.perm h1).set).perm h2.symm))
theorem Rd.same(l:List PV):Rd K (av (.snap l) (fun v=>Mine.ret [v]) l.length 0) l:=fun H zz=>(congrFun (ca _ l) H).trans (qJ l H)
inductive TQ (c:eN) (bs rows:List PV) (k:Nat) (P:List PV→Nat→Prop):PV→List ap→Prop
 | mk {ah:List PV} {v:Nat}:Rw ah→rows <+: ah→ah.length≤rows.length+k→P ah v→TQ c bs rows k P (.int v) (cf c bs ah)
theorem Run.tqi(L:List ap){m:CM PV}{Q:PV→List ap→Prop}(h:Run (cf c bs rows) m (TQ c bs rows k P))(g:∀{ah:List PV} {v:Nat},Rw ah→rows <+: ah→ah.length≤rows.length+k→P ah v→Q (.int v) (L++cf c bs ah)):Run (L++cf c bs rows) m Q :=
 (h.upL L).imp (by rintro _ _ ⟨_,e,q⟩;exact by induction q with | mk R p n h=>exact e▸g R p n h)
theorem Run.tq(L:List ap){m:CM PV}{f:PV→CM β}(h:Run (cf c bs rows) m (TQ c bs rows k P))(g:∀{ah:List PV} {v:Nat},Rw ah→rows <+: ah→ah.length≤rows.length+k→P ah v→Run (L++cf c bs ah) (f (.int v)) Q):Run (L++cf c bs rows) (aa m f) Q:=Run.bh (h.tqi L g)
theorem TQ.more{P':List PV→Nat→Prop}{aw:List PV}{k':Nat}(p:rows <+: aw)(n:aw.length+k≤rows.length+k')(g:∀{ah:List PV} {v:Nat},Rw ah→aw <+: ah→P ah v→P' ah v){v:PV}{K':List ap}(q:TQ c bs aw k P v K'):TQ c bs rows k' P' v K':=by
 induction q with | mk R p' n' h=>exact⟨R,p.trans p',aa4 n' n,g R p' h⟩
theorem UX(R:Rw rows){r:PV}{n:Nat}(hr:gx r)(m:rows.length+1<ax):Run (cf c bs rows) (Φ (n+1) (S "TypeTable.put") [.ref c.tab,r]) (TQ c bs rows 1 fun ah v=>ah[v]?=some r):=by
 by_cases h:r∈rows
 ·obtain⟨t,ht⟩:=List.mem_iff_getElem?.mp h
  exact Run.of _ (Rd.tb R fun zz C T=>QS C T ht).det ⟨R,abg _,adb _,ht⟩
 ·intro F H rp l
  have rs:=rp.sub (adn _ F)
  have T':=(Q9 R rs).more (sJ rs) hr h
  exact⟨_,cf c bs (rows++[r]),_,QR (sJ rs) (Q9 R rs) hr h m,(rp.setAt 1 rfl).setAt 2 rfl,by unfold pW;rw[adj];rw[adj];exact l,⟨⟨T'.ok,T'.sL,R.base.pre (abY ..)⟩,abY ..,by rw[aaA];exact aaX _,by rw[abE (aaX _)];rw[ads];rfl⟩⟩
theorem Mt.ths{rows:List PV}{t:Nat}{l:List Nat}(a:Mt rows t l)(h:l≠[]):∃ts,iH rows ts l:=by
 obtain _ | ⟨x,_ | ⟨y,l⟩⟩:=l
 ·exact absurd rfl h
 ·exact⟨[t],a,trivial⟩
 ·obtain⟨ts,a,zz⟩:=a
  exact⟨ts,a⟩
theorem HE(R:Rw rows){t:Nat}{l:List Nat}(a:Mt rows t l)(h:l≠[]):∃ts,iH rows ts l∧∀n,Rd (cf c bs rows) (Φ (n+3) (S "members_of_meet") [.ref c.tab,.int t]) (.tup (bi ts)):=by
 obtain⟨ts,e⟩:=a.ths h
 refine⟨ts,e,fun n=>Rd.tb R fun H C T=>?_⟩
 obtain⟨us,e1,e2⟩:=LA (n:=n) T a h
 rw[iH.inj R.sL e e1]
 exact e2
noncomputable def MP:Option (List Nat)→List PV→Nat→Prop
 | none,_,v=>v=2
 | some q,ah,v=>Mt ah v q
theorem Rd.len{r:Nat}{l:List PV}(h:(r,CO.list l)∈K):Rd K (blt .len [.ref r]) (.int l.length):=Rd.mem (fun zz=>len_list) h
theorem Run.tup{l:List PV}{Q:PV→List ap→Prop}(h:l.length≤100)(q:Q (.tup l) K):Run K (gB l) Q:=Run.of _ (fun zz H r l2=>⟨H,H0 h H,r,l2⟩) q
theorem Run.acC{x y:PV}{Q:PV→List ap→Prop}(q:Q (.tup [x,y]) K):Run K (gB [x,y]) Q:=Run.tup (l:=[x,y]) (show 2≤100 by decide) q
theorem lr:∀l:List PV,l.flatMap (fun x=>[x])=l
 | []=>rfl
 | x::l=>congrArg (x::·) (lr l)
theorem iH.Wj{rows:List PV}{os ol:List Nat}(h:iH rows os ol)(ok:ew ol):os.length≤10:=h.len▸lz ok.1 ok.2.1
theorem R7(R:Rw rows)(m:rows.length+1<ax){n i:Nat}{os ol:List Nat}(h:iH rows os ol)(ok:ew ol)(ne:ol≠[]) :
  Run ((i,.list (bi os))::cf c bs rows) (mQ (Φ (n+5)) (.ref c.tab) (.ref i)) (TQ c bs rows 1 (MP (some ol))):=by
 refine Run.rd ((Rd.len (.head _)).seq (Rd.eq _ 1)) ?_
 obtain _ | ⟨x,_ | ⟨y,os⟩⟩:=os <;> obtain _ | ⟨k,_ | ⟨k',ol⟩⟩:=ol
 ·exact absurd rfl ne
 ·exact h.elim
 ·exact h.elim
 ·exact h.elim
 ·exact Run.yes (Run.ofL [_] (Rd.mem (fun zz=>qQ) (.head _)).det ⟨R,abg _,adb _,h.1⟩)
 ·exact h.2.elim
 ·exact h.elim
 ·exact h.2.elim
 ·rewrite[show(((bi (x::y::os)).length:Int) == 1)=false from beq_eq_false_iff_ne.mpr (by rw[bm];rw[aaK];rw[aaK];lia)]
  refine Run.no<|Run.rd (Rd.up (Rd.tb R fun zz zz T=>T.abB))<|Run.bh<|Run.bh<|Run.bh<|Run.bh<|Run.bh<|Run.bh<|Run.bh<|Run.rd (Rd.mem (fun zz=>dh) (.head _))<|Run.rd (Rd.mem (fun zz=>cu) (.head _))<|Run.rd (Rd.TC (fun x=>[x]) (.head _) fun w hw=>?_)<|Run.mk ?_ fun j=>?_
  ·obtain⟨z,hz,rfl⟩:=abi.mp hw
   obtain⟨k,zz,hk⟩:=h.mem hz
   exact Rd.up (Rd.seq (Rd.tb R fun zz zz T=>rj (n:=n+3) T hk) (Rd.ret _))
  ·rw[lr];rw[bm];have:=h.Wj ok;unfold ax;lia
  ·rw[lr]
   refine Run.ret<|Run.of _ (Rd.mem (fun zz=>E1) (.head _)).det<|Run.ret<|Run.ret<|Run.acC<|Run.ret<|Run.drop<|Run.drop<|Run.imp (UX (n:=n+4) R (Uj (x::y::os)) m) fun v K' q=>q.more (abg _) (aaX _) fun R' p e=>?_
   exact⟨_,h.pre p,e,Oq R'.base e⟩
theorem OJ(R:Rw rows)(m:rows.length+1<ax){n s t:Nat}:∀{rs qs os ol:List Nat} {i:Nat} {a3:Option PV},iH rows rs qs→iH rows os ol→ew ol→ol≠[]→(∀x∈qs,x<10) →
  Run ((i,.list (bi os))::cf c bs rows) (gH (jM (Φ (n+5))) (bi rs) [some (.ref c.tab),some (.int s),some (.int t),a3,some (.ref i),none,none,none,none,none,none] (jN (Φ (n+5)))) (TQ c bs rows 1 (MP (fG ol qs))):=by
 intro rs
 induction rs with
 | nil =>
  intro qs os ol i a3 h1 h3 ok ne hk
  obtain rfl:qs=[]:=aaZ h1.len.symm
  exact Run.eq (wH ..) (R7 R m h3 ok ne)
 | cons x rs ih =>
  intro qs os ol i a3 h1 h3 ok ne hk
  obtain _ | ⟨q,qs⟩:=qs
  ·exact h1.elim
  ·refine Run.eq (wG ..) (Run.seq (ab1 (n:=n) R h3 h1.1 (by have:=h3.Wj ok;lia)) fun v K' hv=>?_)
   dsimp only[fG]
   generalize z:RY ol q=zq;induction zq with
   | none =>
    rw[z]at hv
    obtain⟨rfl,rfl⟩:=hv
    exact Run.rd (a:=true) (fun zz zz=>rfl) (Run.yes (Run.drop (Run.ret ⟨R,abg _,adb _,rfl⟩)))
   | some q' =>
    rw[z]at hv
    obtain⟨j,us,rfl,rfl,hu⟩:=hv
    obtain⟨c1,c2,zz,zz⟩:=Cd (hk q (.head _)) ok z
    exact Run.rd (a:=false) (fun zz zz=>rfl) (Run.no (Run.BE (ih h1.2 hu c1 c2 fun y hy=>hk y (.tail _ hy))))
theorem Run.xR{l:List PV}{turn:PV→bg→(bg→CM PV)→CM PV}{E:bg→CM PV}{ρ:bg}{R:PV→List ap→Prop}{T:It→Nat→CM PV}(e:T (.snap l) l.length=Mine.ek (.snap l) turn l.length 0 ρ E)(g:Run K (Mine.gH turn l ρ E) R):Run K (aa (da (.tup l)) fun t=>aa (bj t) fun n=>T t n) R :=
 Run.eq (m':=T (.snap l) l.length) rfl (Run.eq e (Run.eq (ch turn l ρ E) g))
theorem XX(R:Rw rows)(m:rows.length+1<ax){s t n:Nat}{l r:List Nat}(a:Mt rows s l)(b:Mt rows t r)(hl:ew l)(hr:ew r)(l0:l≠[])(r0:r≠[]) :
  Run (cf c bs rows) (Φ (n+6) (S "meet_parts") [.ref c.tab,.int s,.int t]) (TQ c bs rows 1 (MP (fG l r))):=by
 obtain⟨ts,a1,a2⟩:=HE (c:=c) (bs:=bs) R a l0
 obtain⟨us,b1,b2⟩:=HE (c:=c) (bs:=bs) R b r0
 have ht:(bi ts).length<ax:=by have:=a1.Wj hl;rw[bm];unfold ax;lia
 refine Run.eq (Fh ..) (Run.bh (Run.bh (Run.rd (a2 (n+2)) (Run.ret (Run.rd (a:=(bi ts).length) (fun zz zz=>rfl) (Run.rd (Rd.same _) (Run.mk ht fun i=>?_)))))))
 exact Run.bh (Run.rd (Rd.up (b2 (n+2))) (Run.ret (Run.rd (a:=(bi us).length) (fun zz zz=>rfl) (Run.eq (ch ..) (OJ R m b1 a1 hl l0 hr.2.1)))))
end Mine
namespace Mine
open PySem
noncomputable def nr(ts:List Nat):List (PV×PV):=ts.map fun t:Nat=>(.int t,.int 1)
theorem Xw(ts:List Nat):(nr ts).length=ts.length:=aaY _
theorem A8(a b:Int):gw (.int a) (.int b)=(a == b):=rfl
theorem BQ(z:Int)(gs:List Nat):cy (.int z) (nr gs)=true:=by
 unfold cy
 show(true&&lU 1 (nr gs))=true
 rw[age]
 induction gs with
 | nil=>rfl
 | cons g r ih =>
  show(true&&true&&lU 1 (nr r))=true
  rw[ih];rfl
theorem BP(z:Int):∀gs:List Nat,(br (.int z) (nr gs)).isSome=gs.any fun t=>(t:Int) == z
 | []=>rfl
 | g::r=>by
  show(match gw (.int g) (.int z)with | true=>some (PV.int 1) | false=>br (.int z) (nr r)).isSome=_
  rw[A8];rw[aeL]
  cases ((g:Int) == z)with
  | true=>rfl
  | false=>exact BP z r
theorem Xv(t:Nat)(gs:List Nat):(br (.int t) (nr gs)).isSome=decide (t∈gs):=by
 rw[BP];rewrite[acr,afT];rw[decide_eq_true_eq]
 constructor
 ·rintro⟨x,hx,e⟩
  rw[beq_iff_eq,aeK]at e
  exact e▸hx
 ·intro h
  exact⟨t,h,beq_self_eq_true _⟩
theorem Ug{z:Int}{gs:List Nat}(h:∀t∈gs,(t:Int)≠z):(br (.int z) (nr gs)).isSome=false:=by
 rw[BP];rewrite[List.any_eq_false]
 intro x hx
 simpa using h x hx
theorem Qu(t:Nat):∀gs:List Nat,gy (.int t) (.int 1) (nr gs)=nr (if t∈gs then gs else gs++[t])
 | []=>rfl
 | g::r=>by
  show(match gw (.int g) (.int t)with | true=>(PV.int g,PV.int 1)::nr r | false=>(PV.int g,PV.int 1)::gy (.int t) (.int 1) (nr r))=_
  rw[A8]
  generalize e:((g:Int) == t)=zq;induction zq with
  | true =>
   rw[beq_iff_eq,aeK]at e
   subst e
   rw[if_pos (List.mem_cons_self ..)]
   rfl
  | false =>
   rw[beq_eq_false_iff_ne,Ne,aeK]at e
   rw[Qu t r]
   by_cases h:t∈r
   ·rw[if_pos h];rewrite[if_pos (.tail _ h)];rfl
   ·rw[if_neg h];rewrite[if_neg (by rewrite[aa2];rintro(rfl | h');(exact e rfl);exact h h')];rfl
theorem BW(a:Nat):∀ss:List Nat,∃us:List Nat,jw (a:Int) (ss.map fun t:Nat=>(t:Int))=us.map (fun t:Nat=>(t:Int))∧us.Perm (a::ss)
 | []=>⟨[a],rfl,.refl _⟩
 | s::r=>by
  obtain⟨us,e,p⟩:=BW a r
  rw[ab6]
  dsimp only[jw]
  cases decide ((a:Int)≤s)with
  | true=>exact⟨a::s::r,rfl,.refl _⟩
  | false =>
   refine⟨s::us,by rw[ab6];rewrite[← e];rfl,?_⟩
   exact(p.cons s).trans (.swap a s r)
theorem pE:∀gs:List Nat,∃us:List Nat,hM (gs.map fun t:Nat=>(t:Int))=us.map (fun t:Nat=>(t:Int))∧us.Perm gs
 | []=>⟨[],rfl,.refl _⟩
 | g::r=>by
  obtain⟨ss,e,p⟩:=pE r
  obtain⟨us,e',p'⟩:=BW g ss
  refine⟨us,?_,p'.trans (p.cons g)⟩
  rw[ab6]
  dsimp only[hM]
  rw[e];rw[e'];rfl
theorem js:∀l:List Int,ib (l.map .int)=some l
 | []=>rfl
 | a::r=>by
  rw[ab6]
  dsimp only[ib]
  rw[js r];rfl
theorem iN(ss:List Nat):bi ss=(ss.map fun t:Nat=>(t:Int)).map .int:=by
 unfold bi
 rw[List.map_map];rfl
theorem Uf(gs:List Nat):(nr gs).map (·.1)=bi gs:=by
 unfold nr bi
 rw[List.map_map];rfl
theorem PN{r:Nat}{H:CH}{gs:List Nat}(h:H[r]?=some (.dict (nr gs)))(hl:gs.length<64):∃us:List Nat,us.Perm gs∧blt .sorted [.ref r] H=some (.ref H.length,H++[.list (bi us)]):=by
 obtain⟨us,e,p⟩:=pE gs
 refine⟨us,p,?_⟩
 unfold blt iQ
 dsimp only
 rewrite[dx h]
 dsimp only
 rw[Uf]
 unfold vq
 rw[iN];rw[js]
 dsimp only
 rewrite[decide_eq_true (by rw[aaY];exact hl)];rw[e];rewrite[← iN]
 rfl
theorem pF.mem{rows:List PV}{ts:List Nat}{ls:List (List Nat)}(h:pF rows ts ls){l:List Nat}(hl:l∈ls):∃t∈ts,Mt rows t l:=Sim.ay.mem h hl
theorem pF.oE{rows:List PV}{ts:List Nat}{ls:List (List Nat)}(h:pF rows ts ls){t:Nat}(ht:t∈ts):∃l∈ls,Mt rows t l:=Sim.ay.oE h ht
theorem pF.len{rows:List PV}{ts:List Nat}{ls:List (List Nat)}(h:pF rows ts ls):ts.length=ls.length:=(Sim.ay.len h).symm
theorem pF.ex{rows:List PV}:∀{ts:List Nat},(∀t∈ts,∃l,Mt rows t l)→∃ls,pF rows ts ls
 | [],_=>⟨[],trivial⟩
 | t::ts,h=>by
  obtain⟨l,a⟩:=h t (.head _)
  obtain⟨ls,b⟩:=pF.ex fun t ht=>h t (.tail _ ht)
  exact⟨l::ls,a,b⟩
variable{c:eN}{H:CH}{rows bs:List PV}
theorem Mt.high{t:Nat}:∀{l:List Nat},Mt rows t l→l≠[]→t=6∨t=7∨16≤t
 | [],_,h=>absurd rfl h
 | [_],h,_=>h.2.2.1
 | _::_::_,⟨_,_,_,h⟩,_=>.inr (.inr h)
theorem OK(T:Tb c H rows bs)(B:Bs rows){t n:Nat}{l:List Nat}(a:Mt rows t l):Φ (n+1) (S "parts_of") [.ref c.tab,.int t] H=some (.tup [.int t],H):=by
 obtain⟨k,r,e,hr,hk⟩:=a.row B
 have e2:((t:Int) == 2)=false:=by have:=a.ne2;rewrite[beq_eq_false_iff_ne];lia
 have e0:=AR (.int k) r H (by lia)
 have k6:(k == 6)=false:=by
  rewrite[beq_eq_false_iff_ne]
  obtain _ | ⟨x,_ | ⟨_,_⟩⟩:=l
  ·exact(show k=1 from hk)▸(by decide)
  ·rw[hk];exact(ku x).1
  ·exact(show k=7 from hk)▸(by decide)
 rw[ow]
 simp only[oc,jC,hB,hJ,hE,rN,gW,gV,acq,acg,iO,fV,dz,eO,fR,eq_int,ne_int,lt_int,le_int,gt_int,ge_int,adm,adl,adg,adc,eQ,bz,ch,eP,eg,ca,cz,ce,dj,acY,acP,uu,uv,uw,ux,uy,e2,T.qP,sH T e,e0,k6]
end Mine
namespace Mine
open PySem
variable{c:eN}{H:CH}{rows bs:List PV}{α β:Type}{K gf:List ap}{m:CM α}{f:α→CM β}{a:α}{Q:PV→List ap→Prop}{P:List PV→Nat→Prop}{k:Nat}
noncomputable def Tj(gs:List Nat):Prop:=∀t∈gs,t=6∨t=7∨16≤t
noncomputable def pt(gs:List Nat)(t:Nat):List Nat:=if t∈gs then gs else gs++[t]
theorem IQ{gs:List Nat}{t x:Nat}:x∈pt gs t↔x∈gs∨x=t:=by
 unfold pt
 by_cases h:t∈gs
 ·rw[if_pos h];exact⟨.inl,fun z=>z.elim id fun e=>e▸h⟩
 ·rw[if_neg h];rw[aa7,aad]
theorem Oz{gs:List Nat}{t:Nat}:(pt gs t).length≤gs.length+1:=by
 unfold pt
 by_cases h:t∈gs
 ·rw[if_pos h];exact adb _
 ·rw[if_neg h];rw[aaA];exact aaX _
noncomputable def Ig(gs:List Nat):List Nat→List Nat
 | []=>gs
 | t::r=>Ig (pt gs t) r
theorem Ly{x:Nat}:∀{ts gs:List Nat},x∈Ig gs ts↔x∈gs∨x∈ts
 | [],_=>⟨.inl,fun h=>h.elim id fun h=>by cases h⟩
 | t::r,gs=>by rw[show Ig gs (t::r)=Ig (pt gs t) r from rfl];rw[Ly,IQ,aa2,or_assoc]
theorem Lu:∀{ts gs:List Nat},(Ig gs ts).length≤gs.length+ts.length
 | [],_=>aaX _
 | t::r,gs=>aa4 (Lu (ts:=r) (gs:=pt gs t)) (by have:=Oz (gs:=gs) (t:=t);rw[aaK];lia)
theorem gP.YO{g x:Nat}{gs:List Nat}(h:gs.length+1<ax):gP ((g,.dict (nr gs))::K) (setItem (.ref g) (.int x) (.int 1)) () ((g,.dict (nr (pt gs x)))::K):=by
 rewrite[show nr (pt gs x)=gy (.int x) (.int 1) (nr gs)from(Qu x gs).symm]
 exact gP.cell (fun zz e h2=>fL e (BQ _ _) (by rw[Xw];exact h) h2) 0 rfl
theorem Rd.inD{g:Nat}{gs:List Nat}(h:(g,CO.dict (nr gs))∈K)(z:Int):Rd K (ae .In (.int z) (.ref g)) (br (.int z) (nr gs)).isSome:=Rd.mem (fun zz e=>in_dict e (BQ z gs)) h
theorem Rd.noD{g:Nat}{gs:List Nat}(h:(g,CO.dict (nr gs))∈K){z:Int}(n:∀t∈gs,(t:Int)≠z):Rd K (ae .In (.int z) (.ref g)) false:=Ug n▸Rd.inD h z
theorem Rd.nV{m m':CM α}(e:m=m')(h:Rd K m' a):Rd K m a:=e▸h
theorem Rd.yes{x y:CM α}(h:Rd K x a):Rd K (af true x y) a:=h
theorem Rd.no{x y:CM α}(h:Rd K y a):Rd K (af false x y) a:=h
theorem Rd.ab8{g:Nat}{gs:List Nat}(h:(g,CO.dict (nr gs))∈K){z:Int}{b:Bool}(n:(br (.int z) (nr gs)).isSome=b):Rd K (ae .NotIn (.int z) (.ref g)) (!b):=n▸Rd.mem (fun zz e=>notin_dict e (BQ z gs)) h
theorem acB{g n:Nat}{gs:List Nat}(h:(g,CO.dict (nr gs))∈K)(hi:Tj gs):Rd K (Φ (n+1) (S "top_of") [.ref g]) (.int (-1)):=by
 have no:=fun(z:Int) (hz:z=0∨z=13∨z=1)=>Rd.noD h (z:=z) fun t ht=>by have:=hi t ht;lia
 refine Rd.nV (RJ ..) (Rd.nV (IA ..) ?_)
 exact Rd.nV (mC ..) (Rd.seq (no 0 (.inl rfl)) (Rd.no (Rd.nV (mC ..) (Rd.seq (no 13 (.inr (.inl rfl))) (Rd.no (Rd.nV (mC ..) (Rd.seq (no 1 (.inr (.inr rfl))) (Rd.no (Rd.ret _)))))))))
theorem WZ{g n:Nat}{gs:List Nat}(h:(g,CO.dict (nr gs))∈K)(hi:Tj gs):Rd K (Φ (n+1) (S "join_bools") [.ref g]) .none :=
 Rd.nV (Fg ..) (Rd.seq (a:=false) (Rd.seq (a:=false) (Rd.seq (Rd.noD (z:=8) h fun t ht=>by have:=hi t ht;lia) (Rd.no (Rd.seq (Rd.noD (z:=14) h fun t ht=>by have:=hi t ht;lia) (Rd.no (Rd.ret false))))) (Rd.no (Rd.ret false))) (Rd.no (Rd.ret _)))
theorem Ow:∀x,x<10→(kd x == 5)=false∧(kd x == 18)=false∧(kd x == 4)=false∧(kd x == 3)=decide (x=3):=by decide +kernel
theorem HY(R:Rw rows){t n g:Nat}{gs:List Nat}{k:Int}{r:List PV}(e:rows[t]?=some (.tup (.int k::r)))(hr:r.length<90)(hm:[2,3,4,5,8].contains k=false∨∃m z,r=m++[.int z]∧(z == 1)=false)
  (h5:(k == 5)=false) (h18:(k == 18)=false) (h4:(k == 4)=false):Rd ((g,.dict (nr gs))::cf c bs rows) (Φ (n+2) (S "stays_beside") [.ref c.tab,.ref g,.int t]) (.bool (!((k == 3)&&decide (6∈gs)))):=by
 have w:=fun H=>H6 (H:=H) k r n hr h5
 refine Rd.nV (yN ..) (Rd.seq (Rd.seq (Rd.up (Rd.tb R fun zz zz T=>fB (n:=n) T e hr hm)) (Rd.noD (.head _) fun t zz=>by lia)) (Rd.no (Rd.seq (Rd.seq (Rd.seq (Rd.up (Rd.tb R fun zz zz T=>T.RR e)) (Rd.ret _)) fun H zz=>w H) ?_)))
 rw[h18];rw[h4]
 cases k == 3 with
 | true=>exact Rd.seq (Rd.ab8 (.head _) (Xv 6 gs)) (Rd.ret _)
 | false=>exact Rd.seq (Rd.ab8 (z:=-1) (.head _) (Ug fun t zz=>by lia)) (Rd.ret _)
theorem Yh(R:Rw rows){t n g:Nat}{gs l:List Nat}(a:Mt rows t l)(l0:l≠[]):Rd ((g,.dict (nr gs))::cf c bs rows) (Φ (n+2) (S "stays_beside") [.ref c.tab,.ref g,.int t]) (.bool (!(decide (l=[3])&&decide (6∈gs)))):=by
 obtain _ | ⟨x,_ | ⟨y,l⟩⟩:=l
 ·exact absurd rfl l0
 ·obtain⟨r,e,hr,hm⟩:=sI x a.1
  obtain⟨h5,h18,h4,h3⟩:=Ow x a.1
  have:=HY (c:=c) (bs:=bs) (n:=n) (g:=g) (gs:=gs) R (a.2.1.trans (congrArg some e)) hr hm h5 h18 h4
  rw[h3]at this
  rewrite[show decide ([x]=[3])=decide (x=3)from decide_eq_decide.mpr (by simp)]
  exact this
 ·obtain⟨ts,zz,e,zz⟩:=a
  rewrite[decide_eq_false (p:=x::y::l=[3]) (by simp)]
  exact HY R e (show 1<90 by decide) (.inl rfl) rfl rfl rfl
theorem vV(R:Rw rows){t n:Nat}{l:List Nat}(a:Mt rows t l):Rd (cf c bs rows) (Φ (n+1) (S "parts_of") [.ref c.tab,.int t]) (.tup [.int t]):=Rd.tb R fun zz zz T=>OK T R.base a
theorem PZ(R:Rw rows){n r g:Nat}{ts:List Nat}(ht:∀t∈ts,∃l,Mt rows t l∧l≠[]):∀{vs gs:List Nat} {a3 a4:Option PV},vs <:+ ts→gs.length+vs.length<60 →
  Run ((g,.dict (nr (Ig gs vs)))::(r,.list (bi ts))::cf c bs rows) (Ey (Φ (n+2)) (.ref c.tab) (.ref g)) Q →
  Run ((g,.dict (nr gs))::(r,.list (bi ts))::cf c bs rows) (iY r (bi ts) (xw (Φ (n+2))) (bi vs) [some (.ref c.tab),some (.ref r),some (.ref g),a3,a4,none,none,none,none,none,none,none,none,none,none,none,none] (sv (Φ (n+2)))) Q:=by
 intro vs
 induction vs with
 | nil=>exact fun zz zz h=>Run.Ce (.tail _ (.head _)) (Run.eq (Ka ..) h)
 | cons t vs ih =>
  intro gs a3 a4 hs hn h
  obtain⟨l,a,zz⟩:=ht t (hs.subset (.head _))
  rw[aaK]at hn
  have hp:=Oz (gs:=gs) (t:=t)
  exact Run.yh (.tail _ (.head _)) (show bi (t::vs) <:+ bi ts from hs.map _)<|Run.eq (Ng ..)<|Run.bh<|Run.rd ((vV (n:=n+1) R a).up.up)<|Run.ret<|Run.rd (a:=1) (fun zz zz=>rfl)<|Run.eq (ch _ [.int t] ..)<|Run.eq (Nd ..)<|Run.det (gP.YO (by unfold ax;lia))<|Run.eq (Nf ..)<|ih ((abT ..).trans hs) (by lia) h
theorem Ty.two{v t1 t2:Nat}{ks:List Nat}{d:List (List Nat)}(B:Bs rows)(a:pF rows (t1::t2::ks) d)(h0:∀l∈d,l≠[])(e:rows[v]?=some (hV (t1::t2::ks)))(hi:Tj (t1::t2::ks)):Ty rows v d:=by
 obtain _ | ⟨l1,_ | ⟨l2,d⟩⟩:=d
 ·exact a.elim
 ·exact a.2.elim
 ·exact⟨_,a,h0,e,PY B e fun h=>by have:=hi 8 h;lia⟩
theorem SZ(R:Rw rows)(m:rows.length+1<ax){n j:Nat}{ks:List Nat}{d:List (List Nat)}(a:pF rows ks d)(h0:∀l∈d,l≠[])(hi:Tj ks)(hn:ks.length<60) :
  Run ((j,.list (bi ks))::cf c bs rows) (Ex (Φ (n+2)) (.ref c.tab) (.ref j)) (TQ c bs rows 1 fun ah v=>Ty ah v d):=by
 have hl:=Rd.len (K:=(j,.list (bi ks))::cf c bs rows) (.head _)
 refine Run.rd ((Rd.mem (fun zz=>jU) (.head _)).seq (Rd.ret _)) ?_
 obtain _ | ⟨t1,_ | ⟨t2,ks⟩⟩:=ks
 ·refine Run.yes (Run.drop (Run.ret ⟨R,abg _,adb _,?_⟩))
  obtain _ | ⟨l,d⟩:=d
  ·rfl
  ·exact a.elim
 ·refine Run.no (Run.rd (hl.seq (Rd.eq _ 1)) (Run.yes (Run.ofL [_] (Rd.mem (fun zz=>qQ) (.head _)).det ⟨R,abg _,adb _,?_⟩)))
  obtain _ | ⟨l,_ | ⟨l2,d⟩⟩:=d
  ·exact a.elim
  ·exact a.1
  ·exact a.2.elim
 ·refine Run.no<|Run.rd (a:=false) (hl.seq fun H zz=>?_)<|Run.no<|Run.rd (a:=false) (hl.seq fun H zz=>?_)<|Run.no<|Run.rd (Rd.up (Rd.tb R fun zz zz T=>T.abB))<|Run.bh<|Run.bh<|Run.bh<|Run.bh<|Run.bh<|Run.of _ (Rd.mem (fun zz=>E1) (.head _)).det<|Run.ret<|Run.ret<|Run.acC<|Run.ret<|Run.drop<|Run.imp (UX (n:=n+1) R (Wr (t1::t2::ks)) m) fun v K' q=>q.more (abg _) (aaX _) fun R' p e=>Ty.two R'.base (a.pre p) h0 e hi
  ·rw[bm];rw[eq_int];rewrite[show(((t1::t2::ks).length:Int) == 1)=false from beq_eq_false_iff_ne.mpr (by rw[aaK];rw[aaK];lia)];rfl
  ·rw[bm];rw[gt_int];rewrite[show decide ((400:Int)<((t1::t2::ks).length:Int))=false from decide_eq_false (by lia)];rfl
theorem Run.srt{g:Nat}{gs:List Nat}{f:PV→CM β}{Q:β→List ap→Prop}(h:gs.length<64)(k:∀i us,us.Perm gs→Run ((i,.list (bi us))::(g,.dict (nr gs))::K) (f (.ref i)) Q):Run ((g,.dict (nr gs))::K) (aa (blt .sorted [.ref g]) f) Q:=fun F H r l=>by
 obtain⟨us,p,e⟩:=PN (r.2.2 _ (.head _)).2 h
 rw[be e]
 exact k H.length us p F _ (r.new l _) (by rw[aaA];exact acX l)
theorem xZ{p:Nat→Bool}{g:PV→List PV}(hg:∀t:Nat,g (.int t)=if p t then[.int t]else[]):∀ss:List Nat,(bi ss).flatMap g=bi (ss.filter p)
 | []=>rfl
 | t::ss=>by
  rw[jv];rw[adQ];rw[hg];rw[xZ hg ss];rw[aft]
  cases p t <;> rfl
theorem Rd.Ho{turn:PV→CM (List PV)}{r:Nat}{ss:List Nat}{p:Nat→Bool}(h:(r,CO.list (bi ss))∈K)(ht:∀t∈ss,Rd K (turn (.int t)) (if p t then[.int t]else[])):Rd K (av (.live r) turn (bi ss).length 0) (bi (ss.filter p)):=by
 let g:PV→List PV:=fun | .int t=>if p t.toNat then[.int t]else[] | _=>[]
 exact xZ (g:=g) (fun zz=>rfl) ss▸Rd.TC g h fun x hx=>by
  obtain⟨t,h1,rfl⟩:=abi.mp hx
  exact ht t h1
structure UnD(rows:List PV)(ts:List Nat)(d:List (List Nat)):Prop where
 src:∀l∈d,∃t∈ts,Mt rows t l
 all:∀t∈ts,∀l,Mt rows t l→l∈d∨(l=[3]∧[2]∈d)
 len:d.length≤ts.length
open Classical in
noncomputable def Tf(rows:List PV)(gs:List Nat)(t:Nat):Bool:=!(decide (Mt rows t [3])&&decide (6∈gs))
open Classical in
theorem Q6{gs:List Nat}{t:Nat}:Tf rows gs t=true↔¬(Mt rows t [3]∧6∈gs):=by
 unfold Tf
 rw[acQ];rw[ag2,decide_eq_false_iff_not,decide_eq_false_iff_not,← Decidable.not_and_iff_or_not]
theorem aaI(R:Rw rows){ts gs ss:List Nat}(ht:∀t∈ts,∃l,Mt rows t l∧l≠[])(hg:∀t,t∈gs↔t∈ts)(hn:gs.length≤ts.length)(sp:ss.Perm gs):∃d,pF rows (ss.filter (Tf rows gs)) d∧UnD rows ts d∧(∀l∈d,l≠[])∧(ss.filter (Tf rows gs)).length≤ts.length:=by
 have B:=R.base
 have hk:∀t,t∈ss.filter (Tf rows gs)↔t∈ts∧¬(Mt rows t [3]∧6∈ts):=fun t=>by rw[acZ,sp.mem_iff,Q6,hg,hg]
 have hl:=aa4 (ada (Tf rows gs) ss) (sp.length_eq▸hn)
 obtain⟨d,md⟩:=pF.ex (rows:=rows) (ts:=ss.filter (Tf rows gs)) fun t h=>(ht t ((hk t).mp h).1).imp fun zz h=>h.1
 have six:Mt rows 6 [2]:=⟨by decide,B.r6,by decide,by decide,by decide⟩
 have back:∀t l,t∈ss.filter (Tf rows gs)→Mt rows t l→l∈d:=fun t l h a=>by
  obtain⟨l',h1,h2⟩:=md.oE h
  exact a.fn B h2▸h1
 have src:∀l∈d,∃t∈ts,Mt rows t l:=fun l h=>by
  obtain⟨t,h1,h2⟩:=md.mem h
  exact⟨t,((hk t).mp h1).1,h2⟩
 refine⟨d,md,⟨src,fun t h l a=>?_,md.len▸hl⟩,fun l h=>?_,hl⟩
 ·by_cases q:Mt rows t [3]∧6∈ts
  ·exact .inr ⟨a.fn B q.1,back 6 _ ((hk 6).mpr ⟨q.2,fun z=>by have:=six.fn B z.1;cases this⟩) six⟩
  ·exact .inl (back t l ((hk t).mpr ⟨h,q⟩) a)
 ·obtain⟨t,h1,h2⟩:=src l h
  obtain⟨l',a,l0⟩:=ht t h1
  exact h2.fn B a▸l0
theorem Ri(R:Rw rows)(m:rows.length+1<ax){r n:Nat}{ts:List Nat}(ht:∀t∈ts,∃l,Mt rows t l∧l≠[])(hl:ts.length<60) :
  Run ((r,.list (bi ts))::cf c bs rows) (Φ (n+3) (S "union") [.ref c.tab,.ref r]) (TQ c bs rows 1 fun ah v=>∃d,Ty ah v d∧UnD rows ts d):=by
 refine Run.eq (TV ..) (Run.new fun g=>Run.Lv (T:=fun t n'=>Ez (Φ (n+2)) (.ref c.tab) (.ref r) (.ref g) t n') (.tail _ (.head _)) rfl (PZ (gs:=[]) R ht (acf _) (show 0+_<60 by lia) (Run.BE ?_)))
 have hg:∀t,t∈Ig [] ts↔t∈ts:=fun t=>Ly.trans ⟨fun h=>h.elim (fun h=>by cases h) id,.inr⟩
 have hn:(Ig [] ts).length≤ts.length:=aa4 Lu (by rw[aez];rw[ad4];exact aaX _)
 generalize Ig [] ts=gs at *
 have hi:Tj gs:=fun t h=>by
  obtain⟨l,a,l0⟩:=ht t ((hg t).mp h)
  exact a.high l0
 refine Run.rd (acB (n:=n+1) (.head _) hi) (Run.rd (a:=false) (fun zz zz=>rfl) (Run.no (Run.rd (WZ (n:=n+1) (.head _) hi) (Run.gC (Run.bh (Run.bh (Run.srt (by lia) fun i ss sp=>?_)))))))
 obtain⟨d,md,u,d0,hk⟩:=aaI R ht hg hn sp
 refine Run.of _ (Rd.mem (fun zz=>dh) (.head _)).det (Run.rd (Rd.mem (fun zz=>cu) (.head _)) (Run.rd (Rd.Ho (p:=Tf rows gs) (.head _) fun t h=>?_) (Run.mk (by rw[bm];unfold ax;lia) fun j=>Run.BE (Run.BE (Run.imp (SZ R m md d0 (fun t h=>hi t (sp.mem_iff.mp (acZ.mp h).1)) (by lia)) fun zz zz q=>q.more (abg _) (aaX _) fun zz zz h=>⟨d,h,u⟩)))))
 obtain⟨l,a,l0⟩:=ht t ((hg t).mp (sp.mem_iff.mp h))
 have e:(!(decide (l=[3])&&decide (6∈gs)))=Tf rows gs t:=by
  rewrite[acr,Q6];rw[acQ];rw[ag2,decide_eq_false_iff_not,decide_eq_false_iff_not,← Decidable.not_and_iff_or_not,show l=[3]↔Mt rows t [3]from⟨fun h=>h▸a,fun b=>a.fn R.base b⟩]
 have s:=Yh (c:=c) (bs:=bs) (n:=n) (g:=g) (gs:=gs) R a l0
 rw[e]at s
 refine Rd.seq (a:=Tf rows gs t) (Rd.seq (Rd.seq s.up (fun zz zz=>rfl)) ?_) ?_ <;> cases Tf rows gs t <;> exact Rd.ret _
end Mine
namespace Mine
open PySem
variable{c:eN}{H:CH}{rows bs:List PV}{α β:Type}{K gf:List ap}{m:CM α}{f:α→CM β}{a:α}{Q:PV→List ap→Prop}{P:List PV→Nat→Prop}{k:Nat}
noncomputable abbrev cj:=List (List Nat)
noncomputable def Kx(d:cj)(C:Nat→Prop):Prop:=∃q∈d,ry q C
noncomputable def P7(d:cj):Prop:=∀q∈d,ew q∧(q=[]→d=[[]])
theorem QE{l:List PV}(h:l.length<ax)(H:CH):blt .len [.tup l] H=some (.int l.length,H):=by
 show fM (decide (l.length<ax)) (ret (PV.int l.length)) H=_
 rw[decide_eq_true h]
 rfl
theorem lW(R:Rw rows){t:Nat}{d:cj}(a:Ty rows t d):∃ts,pF rows ts d∧∀n,Rd (cf c bs rows) (Φ (n+1) (S "parts_of") [.ref c.tab,.int t]) (.tup (bi ts)):=by
 obtain _ | ⟨l,_ | ⟨l2,d⟩⟩:=d
 ·obtain rfl:t=2:=a
  exact⟨[],trivial,fun n=>Rd.nV (ow ..) (Rd.seq (a:=true) (fun zz zz=>rfl) (Rd.yes (Rd.ret _)))⟩
 ·exact⟨[t],⟨a,trivial⟩,fun n=>vV R a⟩
 ·obtain⟨ts,a,zz,e,h⟩:=a
  exact⟨ts,a,fun n=>Rd.nV (ow ..) (Rd.seq (a:=false) (fun H zz=>by rw[eq_int];rewrite[show((t:Int) == 2)=false from beq_eq_false_iff_ne.mpr (by lia)];rfl) (Rd.no (Rd.seq (Rd.tb R fun zz zz T=>T.RR e) (Rd.seq (Rd.seq (fun H zz=>AR (.int 6) [.tup (bi ts)] H (show 1<100 by decide)) (Rd.eq 6 6)) (Rd.yes fun H zz=>Hd (.int 6) (.tup (bi ts)) [] H (show 0<90 by decide))))))⟩
structure NL(rows:List PV)(fs:List Nat)(ps:List (List Nat×List Nat)):Prop where
 has:∀p∈ps,∀q,fG p.1 p.2=some q→∃v∈fs,Mt rows v q
 src:∀v∈fs,∃p∈ps,∃q,fG p.1 p.2=some q∧Mt rows v q
 len:fs.length≤ps.length
theorem NL.pre{rows ah:List PV}{fs:List Nat}{ps:List (List Nat×List Nat)}(p:rows <+: ah)(h:NL rows fs ps):NL ah fs ps :=
 ⟨fun x hx q e=>(h.has x hx q e).imp fun zz h=>⟨h.1,h.2.pre p⟩,fun v hv=>(h.src v hv).imp fun zz h=>⟨h.1,h.2.imp fun zz h=>⟨h.1,h.2.pre p⟩⟩,h.len⟩
theorem NL.none{rows:List PV}{fs:List Nat}{ps:List (List Nat×List Nat)}{l r:List Nat}(h:NL rows fs ps)(e:fG l r=none):NL rows fs (ps++[(l,r)]):=by
 refine⟨fun x hx q e'=>?_,fun v hv=>(h.src v hv).imp fun zz h=>⟨aap _ h.1,h.2⟩,by rw[aaA];exact acX h.len⟩
 rcases aa7.mp hx with hx | hx
 ·exact h.has x hx q e'
 ·cases aad.mp hx
  rw[e]at e';exact du e'
theorem NL.some{rows:List PV}{fs:List Nat}{ps:List (List Nat×List Nat)}{l r q:List Nat}{v:Nat}(h:NL rows fs ps)(e:fG l r=some q)(hv:Mt rows v q):NL rows (pt fs v) (ps++[(l,r)]):=by
 refine⟨fun x hx q' e'=>?_,fun w hw=>?_,by rw[aaA];exact aa4 Oz (afw h.len)⟩
 ·rcases aa7.mp hx with hx | hx
  ·exact(h.has x hx q' e').imp fun zz h=>⟨IQ.mpr (.inl h.1),h.2⟩
  ·cases aad.mp hx
   rw[e]at e';replace e':=zI e';subst e'
   exact⟨v,IQ.mpr (.inr rfl),hv⟩
 ·rcases IQ.mp hw with hw | rfl
  ·exact(h.src w hw).imp fun zz h=>⟨aap _ h.1,h.2⟩
  ·exact⟨(l,r),aaJ _ (.head _),q,e,hv⟩
noncomputable def Cs(d:cj)(l:List Nat):List (List Nat×List Nat):=d.map fun r=>(l,r)
noncomputable def nu(ds dt:cj):List (List Nat×List Nat):=ds.flatMap (Cs dt)
theorem gD{ds dt:cj}{p:List Nat×List Nat}:p∈nu ds dt↔p.1∈ds∧p.2∈dt:=by
 unfold nu Cs
 rewrite[aen]
 constructor
 ·rintro⟨l,h,h2⟩
  obtain⟨r,h3,rfl⟩:=abi.mp h2
  exact⟨h,h3⟩
 ·exact fun h=>⟨p.1,h.1,abi.mpr ⟨p.2,h.2,rfl⟩⟩
noncomputable def NQ(d:cj):Prop:=∀l∈d,ew l∧l≠[]
theorem aaG{n g u s t:Nat}{l:List Nat}{wa wb:PV}(YV:ew l)(l0:l≠[]){k:bg→CM PV}:∀{ws fs:List Nat} {ks:cj} {rows:List PV} {ps:List (List Nat×List Nat)} {o8 o9:Option PV},Rw rows→Mt rows u l→pF rows ws ks→NQ ks→NL rows fs ps→rows.length+ks.length+1<ax→ps.length+ks.length<60 →
  (∀{ah:List PV} {T9:List Nat} {o8 o9:Option PV},Rw ah→rows <+: ah→ah.length≤rows.length+ks.length→NL ah T9 (ps++Cs ks l) →
   Run ((g,.dict (nr T9))::cf c bs ah) (k [some (.ref c.tab),some (.int s),some (.int t),some (.ref g),some wa,some wb,some (.bool false),some (.int u),o8,o9,none,none,none,none,none,none,none,none,none]) Q) →
  Run ((g,.dict (nr fs))::cf c bs rows) (gH (jh (Φ (n+6))) (bi ws) [some (.ref c.tab),some (.int s),some (.int t),some (.ref g),some wa,some wb,some (.bool false),some (.int u),o8,o9,none,none,none,none,none,none,none,none,none] (ji k)) Q:=by
 intro ws
 induction ws with
 | nil =>
  intro fs ks rows ps o8 o9 R hu hw hk cv hr hn h
  obtain rfl:ks=[]:=aaZ hw.len.symm
  exact Run.eq (DZ ..) (h R (abg _) (aaX _) (by rw[show Cs [] l=[]from rfl];rw[abF];exact cv))
 | cons w ws ih =>
  intro fs ks rows ps o8 o9 R hu hw hk cv hr hn h
  obtain _ | ⟨r,ks⟩:=ks
  ·exact hw.elim
  ·rw[aaK]at hr hn
   have hf:=cv.len
   refine Run.eq (DY ..) (Run.tq [_] (XX (n:=n) R (by lia) hu hw.1 YV (hk r (.head _)).1 l0 (hk r (.head _)).2) fun{ah v} R' p Xp hv=>?_)
   have go:∀{T9:List Nat} {o8 o9:Option PV},NL ah T9 (ps++[(l,r)])→Run ((g,.dict (nr T9))::cf c bs ah) (gH (jh (Φ (n+6))) (bi ws) [some (.ref c.tab),some (.int s),some (.int t),some (.ref g),some wa,some wb,some (.bool false),some (.int u),o8,o9,none,none,none,none,none,none,none,none,none] (ji k)) Q:=fun cv' =>
    ih R' (hu.pre p) (pF.pre p hw.2) (fun x hx=>hk x (.tail _ hx)) cv' (by lia) (by rw[aaA];rw[abf];lia) fun{aam ad2 o8 o9} R'' p' aeg TJ =>
     h R'' (p.trans p') (by rw[aaK];lia) (by rw[aaW]at TJ;exact TJ)
   generalize z:fG l r=zq;induction zq with
   | none =>
    rw[z]at hv
    obtain rfl:v=2:=hv
    exact Run.rd (a:=false) (fun zz zz=>rfl) (Run.no (Run.rd (a:=false) (fun zz zz=>rfl) (Run.no (go ((cv.pre p).none z)))))
   | some q =>
    rw[z]at hv
    have e:(!((v:Int) == 2))=true:=by rewrite[beq_eq_false_iff_ne.mpr (by have:=Mt.ne2 hv;lia)];rfl
    refine Run.rd (a:=true) (fun zz zz=>by rw[ne_int];rw[e];rfl) (Run.yes (Run.det (gP.YO (x:=v) (by unfold ax;lia)) (Run.rd (a:=false) (fun zz zz=>rfl) (Run.no (go ((cv.pre p).some z hv))))))
theorem Yr{n g s t:Nat}{wa:PV}{ts:List Nat}{dt:cj}(ht:NQ dt):∀{us fs:List Nat} {es:cj} {rows:List PV} {ps:List (List Nat×List Nat)} {o7 o8 o9:Option PV},Rw rows→pF rows ts dt→pF rows us es→NQ es→NL rows fs ps→rows.length+(nu es dt).length+1<ax→ps.length+(nu es dt).length<60 →
  (∀{ah:List PV} {T9:List Nat},Rw ah→rows <+: ah→ah.length≤rows.length+(nu es dt).length→NL ah T9 (ps++nu es dt)→Run ((g,.dict (nr T9))::cf c bs ah) (qZ (Φ (n+6)) (.ref c.tab) (.ref g)) Q) →
  Run ((g,.dict (nr fs))::cf c bs rows) (gH (kU (Φ (n+6))) (bi us) [some (.ref c.tab),some (.int s),some (.int t),some (.ref g),some wa,some (.tup (bi ts)),some (.bool false),o7,o8,o9,none,none,none,none,none,none,none,none,none] (kW (Φ (n+6)))) Q:=by
 intro us
 induction us with
 | nil =>
  intro fs es rows ps o7 o8 o9 R hw hu he cv hr hn h
  obtain rfl:es=[]:=aaZ hu.len.symm
  exact Run.eq (Ai ..) (h R (abg _) (aaX _) (by rw[show nu [] dt=[]from rfl];rw[abF];exact cv))
 | cons u us ih =>
  intro fs es rows ps o7 o8 o9 R hw hu he cv hr hn h
  obtain _ | ⟨l,es⟩:=es
  ·exact hu.elim
  ·have e:(nu (l::es) dt).length=dt.length+(nu es dt).length:=by unfold nu;rw[adQ];rw[aaA];unfold Cs;rw[aaY];rfl
   rw[e]at hr hn
   refine Run.eq (Ah ..) (Run.xR (T:=fun t' n'=>qY (Φ (n+6)) (.ref c.tab) (.int s) (.int t) (.ref g) wa (.tup (bi ts)) (.bool false) o8 o9 (.int u) _ t' n') rfl (aaG (he l (.head _)).1 (he l (.head _)).2 R hu.1 hw ht cv (by lia) (by lia) fun{ah T9 o8 o9} R' p Xp cv'=>?_))
   exact ih R' (hw.pre p) (pF.pre p hu.2) (fun x hx=>he x (.tail _ hx)) cv' (by lia) (by rw[aaA];unfold Cs;rw[aaY];lia) fun{aam ad2} R'' p' aeg TJ=>h R'' (p.trans p') (by lia) (by rw[aaW]at TJ;exact TJ)
structure TwD(s t:Nat)(ds dt d:cj):Prop where
 ok:P7 d
 yC:∀C,WW C→(Kx d C↔Kx ds C∧Kx dt C)
 sub:∀q∈d,∀x∈q,(∃l∈ds,x∈l)∨∃r∈dt,x∈r
 len:d.length≤ds.length*dt.length
 one:ds=[[]]→d=dt
 ord:∀l r q,ds=[l]→dt=[r]→s≠t→l≠[]→r≠[]→fG l r=some q→q≠[3]→d=[q]
theorem LY(ds dt:cj):(nu ds dt).length=ds.length*dt.length:=by
 unfold nu Cs
 induction ds with
 | nil=>exact(Nat.zero_mul _).symm
 | cons l ds ih=>rw[adQ];rw[aaA];rw[aaY];rw[ih];rw[aaK];rw[Nat.succ_mul];rw[ag6];rfl
theorem aaC(R:Rw rows){s t:Nat}{ds dt d:cj}{fs us:List Nat}(os:NQ ds)(ot:NQ dt)(cv:NL rows fs (nu ds dt))(sp:us.Perm fs)(u:UnD rows us d):TwD s t ds dt d:=by
 have B:=R.base
 have pq:∀p∈nu ds dt,∀q,fG p.1 p.2=some q→ew q∧q≠[]∧(∀x∈q,x∈p.1∨x∈p.2)∧∀C:Nat→Prop,WW C→(ry q C↔ry p.1 C∧ry p.2 C):=fun p h q e =>
  oB (ot _ (gD.mp h).2).1.2.1 (os _ (gD.mp h).1).1 (os _ (gD.mp h).1).2 e
 have dq:∀q∈d,∃p∈nu ds dt,fG p.1 p.2=some q:=fun q h=>by
  obtain⟨t,h1,h2⟩:=u.src q h
  obtain⟨p,h3,q',h4,h5⟩:=cv.src t (sp.mem_iff.mp h1)
  exact⟨p,h3,h5.fn B h2▸h4⟩
 have hln:d.length≤ds.length*dt.length:=LY ds dt▸aa4 u.len (sp.length_eq▸cv.len)
 refine⟨fun q h=>?_,fun C w=>⟨?_,?_⟩,fun q h x hx=>?_,hln,fun h=>absurd rfl (os [] (h▸.head _)).2,?_⟩
 ·obtain⟨p,h1,h2⟩:=dq q h
  exact⟨(pq p h1 q h2).1,fun e=>absurd e (pq p h1 q h2).2.1⟩
 ·rintro⟨q,h,i⟩
  obtain⟨p,h1,h2⟩:=dq q h
  have:=((pq p h1 q h2).2.2.2 C w).mp i
  exact⟨⟨p.1,(gD.mp h1).1,this.1⟩,⟨p.2,(gD.mp h1).2,this.2⟩⟩
 ·rintro⟨⟨l,h1,i1⟩,⟨r,h2,i2⟩⟩
  have hlr:(l,r)∈nu ds dt:=gD.mpr ⟨h1,h2⟩
  generalize z:fG l r=zq;induction zq with
  | none=>exact absurd ⟨i1,i2⟩ (yf (ot r h2).1.2.1 (os l h1).1 z w)
  | some q =>
   have iq:=((pq (l,r) hlr q z).2.2.2 C w).mpr ⟨i1,i2⟩
   obtain⟨v',h3,h4⟩:=cv.has (l,r) hlr q z
   rcases u.all v' (sp.mem_iff.mpr h3) q h4 with h5 | ⟨rfl,h5⟩
   ·exact⟨q,h5,iq⟩
   ·exact⟨[2],h5,fun x hx=>by cases aad.mp hx;exact w.1 (iq 3 (.head _))⟩
 ·obtain⟨p,h1,h2⟩:=dq q h
  exact((pq p h1 q h2).2.2.1 x hx).imp (fun h=>⟨_,(gD.mp h1).1,h⟩) fun h=>⟨_,(gD.mp h1).2,h⟩
 ·rintro l r q rfl rfl _ _ _ h6 h7
  obtain⟨v',h3,h4⟩:=cv.has (l,r) (gD.mpr ⟨.head _,.head _⟩) q h6
  have hq:=(u.all v' (sp.mem_iff.mpr h3) q h4).resolve_right fun h=>h7 h.1
  obtain _ | ⟨q',_ | ⟨_,_⟩⟩:=d
  ·cases hq
  ·cases aad.mp hq;rfl
  ·exact absurd hln (by rw[aaK];rw[aaK];exact fun h=>by cases h with | step h=>cases h)
theorem acE(R:Rw rows)(m:rows.length+6<ax){s t n:Nat}{ds dt:cj}(a:Ty rows s ds)(b:Ty rows t dt)(os:P7 ds)(ot:P7 dt)(ls:ds.length≤2)(lt:dt.length≤2)(hx:ds.length≤1∨dt.length≤1) :
  Run (cf c bs rows) (Φ (n+7) (S "meet_two") [.ref c.tab,.int s,.int t]) (TQ c bs rows 5 fun ah v=>∃d,Ty ah v d∧TwD s t ds dt d):=by
 have B:=R.base
 have same:∀{x:Nat} {d:cj},Ty rows x d→TwD s t ds dt d→TQ c bs rows 5 (fun ah v=>∃d,Ty ah v d∧TwD s t ds dt d) (.int x) (cf c bs rows):=fun h w=>⟨R,abg _,acR ..,_,h,w⟩
 refine Run.eq (K5 ..) ?_
 by_cases e0:s=t
 ·subst e0
  cases a.fn B b
  exact Run.rd (a:=true) (Rd.seq (Rd.eq _ _) (by rw[beq_self_eq_true];exact Rd.ret _)) (Run.yes (Run.ret (same a ⟨os,fun C zz=>and_self_iff.symm,fun q hq x hx=>.inl ⟨q,hq,hx⟩,Nat.le_mul_self _,fun zz=>rfl,fun zz zz zz zz zz h=>absurd rfl h⟩)))
 ·have q0:((s:Int) == t)=false:=beq_eq_false_iff_ne.mpr (by lia)
  by_cases e1:t=1
  ·subst e1
   obtain rfl:dt=[[]]:=Ty.fn B b (show Ty rows 1 [[]]from rfl)
   exact Run.rd (a:=true) (Rd.seq (Rd.eq _ _) (by rw[q0];exact Rd.no (Rd.seq (Rd.eq 1 1) (Rd.yes (Rd.ret _))))) (Run.yes (Run.ret (same a ⟨os,fun C zz=>⟨fun h=>⟨h,[],.head _,fun zz h=>by cases h⟩,fun h=>h.1⟩,fun q hq x hx=>.inl ⟨q,hq,hx⟩,adT (Nat.mul_one _).symm,fun h=>h,fun l r q zz h2 zz zz h5=>by cases h2;exact absurd rfl h5⟩)))
  ·have q1:((t:Int) == 1)=false:=beq_eq_false_iff_ne.mpr (by lia)
   refine Run.rd (a:=false) (Rd.seq (Rd.eq _ _) (by rw[q0];exact Rd.no (Rd.seq (Rd.eq _ _) (by rw[q1];exact Rd.no (Rd.ret _))))) (Run.no (Run.rd (Rd.eq _ _) ?_))
   by_cases e2:s=1
   ·subst e2
    obtain rfl:ds=[[]]:=Ty.fn B a (show Ty rows 1 [[]]from rfl)
    exact Run.yes (Run.ret (same b ⟨ot,fun C zz=>⟨fun h=>⟨⟨[],.head _,fun zz h=>by cases h⟩,h⟩,fun h=>h.2⟩,fun q hq x hx=>.inr ⟨q,hq,hx⟩,adT (afn _).symm,fun zz=>rfl,fun l r q h1 zz zz h4=>by cases h1;exact absurd rfl h4⟩))
   ·rewrite[show((s:Int) == 1)=false from beq_eq_false_iff_ne.mpr (by lia)]
    have ns:NQ ds:=fun l hl=>⟨(os l hl).1,fun h=>e2 (by rw[(os l hl).2 h]at a;exact a)⟩
    have nt:NQ dt:=fun l hl=>⟨(ot l hl).1,fun h=>e1 (by rw[(ot l hl).2 h]at b;exact b)⟩
    obtain⟨ss,a1,a2⟩:=lW (c:=c) (bs:=bs) R a
    obtain⟨ts,b1,b2⟩:=lW (c:=c) (bs:=bs) R b
    have hp:(nu ds dt).length≤4:=LY ds dt▸afM ls lt
    refine Run.no (Run.new fun g=>Run.bh (Run.rd (a2 (n+5)).up (Run.bh (Run.rd (b2 (n+5)).up (Run.ret (Run.ret (Run.rd (a:=.bool false) ?_ (Run.xR (T:=fun t' n'=>rg (Φ (n+6)) (.ref c.tab) (.int s) (.int t) (.ref g) (.tup (bi ss)) (.tup (bi ts)) (.bool false) t' n') rfl (Yr (fs:=[]) (ps:=[]) nt R b1 a1 ns ⟨fun zz h=>by(cases h),fun zz h=>by(cases h),aaX _⟩ (by lia) (show 0+_<60 by lia) fun{ah T9} R' p hn cv=>?_)))))))))
    ·have sl:=fun H=>QE (l:=bi ss) (H:=H) (by rw[bm];rw[a1.len];unfold ax;lia)
     have tl:=fun H=>QE (l:=bi ts) (H:=H) (by rw[bm];rw[b1.len];unfold ax;lia)
     refine Rd.seq (Rd.seq (fun H zz=>sl H) (Rd.seq (fun H zz=>gt_int _ _ H) (Rd.ret _))) (Rd.seq (fun zz zz=>rfl) ?_)
     rw[bm];rw[a1.len]
     generalize q:(decide ((1:Int)<(ds.length:Int)))=zq;induction zq with
     | false=>exact Rd.no (Rd.ret _)
     | true=>exact Rd.yes (Rd.seq (fun H zz=>tl H) (Rd.seq (fun H zz=>(gt_int _ _ H).trans (by rw[bm];rw[b1.len];rewrite[decide_eq_false (by rw[decide_eq_true_eq]at q;lia)];rfl)) (Rd.ret _)))
    ·have hl:T9.length≤(nu ds dt).length:=cv.len
     refine Run.bh (Run.bh (Run.srt (by lia) fun i us sp=>Run.ret (Run.ret (Run.eq (m':=Φ (n+6) (S "union") [.ref c.tab,.ref i]) rfl (Run.BE (Run.imp (Ri (n:=n+3) R' (by lia) (fun t h=>?_) (by have:=sp.length_eq;lia)) fun zz zz q=>q.more p (by lia) fun R'' p'' q=>q.elim fun d q=>⟨d,q.1,aaC R' ns nt cv sp q.2⟩))))))
     obtain⟨p,h1,q,h2,h3⟩:=cv.src t (sp.mem_iff.mp h)
     obtain⟨i1,i2⟩:=gD.mp h1
     exact⟨q,h3,(oB (nt _ i2).1.2.1 (ns _ i1).1 (ns _ i1).2 h2).2.1⟩
end Mine
namespace Mine
open PySem
variable{c:eN}{H:CH}{rows bs:List PV}{α β:Type}{K gf:List ap}{m:CM α}{f:α→CM β}{a:α}{Q:PV→List ap→Prop}{P:List PV→Nat→Prop}{k:Nat}
theorem ID(H:CH)(t:Nat):∀ts:List Nat,has H (.int t) (bi ts)=some (decide (t∈ts))
 | []=>rfl
 | u::r=>by
  rw[jv]
  dsimp only[has]
  rw[ID H t r]
  have:H4 H (.int u) (.int t)=some ((u:Int) == t):=rfl
  rw[this]
  refine congrArg some ?_
  rewrite[acr];rw[aeE];rewrite[beq_iff_eq,aeK];rw[decide_eq_true_eq];rw[decide_eq_true_eq];rw[aa2,eq_comm]
theorem Rd.inL{r t:Nat}{ts:List Nat}(h:(r,CO.list (bi ts))∈K):Rd K (ae .In (.int t) (.ref r)) (decide (t∈ts)):=Rd.mem (fun H h=>by
 show contains (.int t) (.ref r) H=_
 unfold contains
 dsimp only
 rewrite[dx h]
 exact yy (f:=fun H=>has H _ _) (ID ..)) h
theorem Rd.Fn{r t:Nat}{ts:List Nat}(h:(r,CO.list (bi ts))∈K):Rd K (ae .NotIn (.int t) (.ref r)) (!decide (t∈ts)):=Rd.seq (m:=contains (.int t) (.ref r)) (f:=fun b=>Mine.ret (!b)) (Rd.inL h) (Rd.ret _)
theorem BS(H:CH)(t:Nat)(ts:List Nat):ae .In (.int t) (.tup (bi ts)) H=some (decide (t∈ts),H):=by
 show contains (.int t) (.tup (bi ts)) H=_
 exact yy (f:=fun H=>has H _ _) (ID ..)
theorem EL:∀n,jR n=bi (adR 0 n)
 | 0=>rfl
 | n+1=>by
  dsimp only[jR]
  rw[EL n];rw[List.range'_concat];rw[eI]
  simp [bi]
theorem fJ{n:Nat}(h:n<100000)(H:CH):gj (.int n) H=some (.snap (bi (adR 0 n)),H):=by
 show fM (decide (n<100000)) (ret (It.snap (jR n))) H=_
 rw[decide_eq_true h];rw[EL]
 rfl
theorem mE{r n:Nat}{l:List PV}(h:H[r]?=some (.list l)):slice (.ref r) none (some (.int n)) none H=some (.ref H.length,H++[.list (l.take n)]):=by
 exact eL h _
theorem Run.alloc{m:CM PV}{r:Nat}{o o':CO}{f:PV→CM β}{Q:β→List ap→Prop}(h:∀H:CH,H[r]?=some o→m H=some (.ref H.length,H++[o']))(e:(r,o)∈K)(g:∀i,Run ((i,o')::K) (f (.ref i)) Q):Run K (aa m f) Q:=fun F H rp l=>by
 rewrite[be (h H (rp.2.2 _ (aap F e)).2)]
 exact g H.length F _ (rp.new l _) (by rw[aaA];exact acX l)
noncomputable def KA(rows:List PV)(ts:List Nat)(ds:List cj):Prop:=Sim.ay (Ty rows) ts ds
theorem KA.pre{rows ah:List PV}(p:rows <+: ah){ts:List Nat}{ds:List cj}(h:KA rows ts ds):KA ah ts ds:=Sim.ay.imp (fun zz zz a=>a.pre p) h
theorem KA.mem{rows:List PV}{ts:List Nat}{ds:List cj}(h:KA rows ts ds){t:Nat}(ht:t∈ts):∃d∈ds,Ty rows t d:=Sim.ay.oE h ht
theorem KA.len{rows:List PV}{ts:List Nat}{ds:List cj}(h:KA rows ts ds):ts.length=ds.length:=(Sim.ay.len h).symm
theorem KA.snoc{rows:List PV}{t:Nat}{d:cj}(ht:Ty rows t d){ts:List Nat}{ds:List cj}(h:KA rows ts ds):KA rows (ts++[t]) (ds++[d]):=Sim.ay.append h (show KA rows [t] [d]from⟨ht,trivial⟩)
theorem Ty.high{t:Nat}{d:cj}(a:Ty rows t d)(h:d≠[]):t=1∨t=6∨t=7∨16≤t:=by
 obtain _ | ⟨_ | ⟨k,l⟩,_ | ⟨_,_⟩⟩:=d
 ·exact absurd rfl h
 ·exact .inl a
 ·obtain⟨zz,zz,zz,zz,h⟩:=a
  exact .inr (.inr (.inr h))
 ·exact .inr (Mt.high a (fun e=>by cases e))
 ·obtain⟨zz,zz,zz,zz,h⟩:=a
  exact .inr (.inr (.inr h))
noncomputable def pr:List cj→Nat
 | []=>1
 | d::ds=>(max 1 d.length)*pr ds
theorem OM:∀ds,1≤pr ds
 | []=>aaX _
 | d::ds=>Nat.mul_pos (agy ..) (OM ds)
theorem vW:∀a b,pr (a++b)=pr a*pr b
 | [],b=>(afn _).symm
 | d::a,b=>by
  show _*pr (a++b)=_*pr a*pr b
  rw[vW a b];rw[Nat.mul_assoc];rfl
theorem UV{a b:List Nat}(h:ew (a++b)):ew a:=by
 obtain⟨h1,h2,h3,h4⟩:=h
 rw[acL]at h1
 exact⟨h1.1,fun k hk=>h2 k (aap _ hk),(by rintro⟨x,y⟩;exact h3 ⟨aap _ x,aap _ y⟩),(by rintro⟨x,y⟩;exact h4 ⟨aap _ x,y.imp (aap _) (aap _)⟩)⟩
theorem Z1:∀x,x<10→∀k,k<10→(x=k∨x=2∧k=3∨x=3∧k=2∨x=4∧(k=2∨k=3)∨k=4∧(x=2∨x=3))∨mc x k=3:=by decide +kernel
theorem Cc{k:Nat}:∀{l out:List Nat},(∀x∈l,mc x k=3)→jy k out false l=some (out++l++[k])
 | [],out,_=>by rw[abF];rfl
 | x::l,out,h=>by
  dsimp only[jy]
  rewrite[h x (.head _)]
  show jy k (out++[x]) false l=_
  rewrite[Cc fun y hy=>h y (.tail _ hy)];rw[aaW out [x] l]
  rfl
theorem XE{l:List Nat}{k:Nat}(h:ew (l++[k])):fG l [k]=some (l++[k]):=by
 obtain⟨h1,h2,h3,h4⟩:=h
 rw[acL]at h1
 have hk:k∈l++[k]:=aaJ _ (.head _)
 have e:RY l k=some (l++[k]):=Cc (out:=[]) fun x hx=>by
  have RU:x∈l++[k]:=aap _ hx
  refine(Z1 x (h2 x RU) k (h2 k hk)).resolve_left ?_
  rintro(e | ⟨rfl,rfl⟩ | ⟨rfl,rfl⟩ | ⟨rfl,rfl | rfl⟩ | ⟨rfl,rfl | rfl⟩)
  ·exact h1.2.2 x hx k (.head _) e
  ·exact h3 ⟨RU,hk⟩
  ·exact h3 ⟨hk,RU⟩
  ·exact h4 ⟨RU,.inl hk⟩
  ·exact h4 ⟨RU,.inr hk⟩
  ·exact h4 ⟨hk,.inl RU⟩
  ·exact h4 ⟨hk,.inr RU⟩
 dsimp only[fG]
 rw[e];rfl
structure Tk(ds es:List cj)(d:cj):Prop where
 ok:P7 d
 yC:∀C,WW C→(Kx d C↔∀e∈es,Kx e C)
 sub:∀q∈d,∀x∈q,∃e∈es,∃l∈e,x∈l
 len:d.length≤pr es
 ord:∀ks,ew ks→ds=ks.map (fun k=>[[k]])→d=[ks.take es.length]
theorem QQ(es:List cj)(e:cj):pr (es++[e])=pr es*max 1 e.length:=by
 rw[vW]
 show _*(_*1)=_
 rw[Nat.mul_one];rfl
theorem Tk.same{ds es Oc:List cj}{d e0:cj}(h:Tk ds es d)(hd:es++e0::Oc=ds)(hm:e0∈es):Tk ds (es++[e0]) d:=by
 refine⟨h.ok,fun C w=>(h.yC C w).trans ⟨fun h e he=>(aa7.mp he).elim (h e) fun he=>aad.mp he▸h _ hm,fun h e he=>h e (aap _ he)⟩,fun q hq x hx=>(h.sub q hq x hx).imp fun zz h=>⟨aap _ h.1,h.2⟩,QQ ..▸aa4 h.len (agR _ (agy ..)),fun ks ok' eks=>?_⟩
 have hd2:(ks.map fun k=>[[k]]).Nodup:=agC _ (fun zz zz h1 h2=>h1 (agJ (agJ h2))) ok'.1
 rw[← eks,← hd,acL]at hd2
 exact absurd rfl (hd2.2.2 _ hm _ (.head _))
theorem Tk.two{ds es Oc:List cj}{d e0 d':cj}{v t:Nat}(h:Tk ds es d)(hd:es++e0::Oc=ds)(w:TwD v t d e0 d')(hv:v=t→d=e0):Tk ds (es++[e0]) d':=by
 refine⟨w.ok,fun C ww=>(w.yC C ww).trans ⟨(by rintro⟨h1,h3⟩ e he;exact(aa7.mp he).elim ((h.yC C ww).mp h1 e) fun he=>aad.mp he▸h3),fun z=>⟨(h.yC C ww).mpr fun e he=>z e (aap _ he),z e0 (aaJ _ (.head _))⟩⟩,fun q hq x hx=>?_,?_,fun ks okk eks=>?_⟩
 ·rcases w.sub q hq x hx with ⟨l,h1,h3⟩ | ⟨l,h1,h3⟩
  ·exact(h.sub l h1 x h3).imp fun zz h=>⟨aap _ h.1,h.2⟩
  ·exact⟨e0,aaJ _ (.head _),l,h1,h3⟩
 ·exact QQ ..▸aa4 w.len (afM h.len (Nat.le_max_right ..))
 ·have od:=h.ord ks okk eks
  have e1:ds[es.length]?=some e0:=by rewrite[← hd];rw[abE (aaX _)];rw[ads];rfl
  rw[eks,adf]at e1
  obtain⟨g,hg,rfl⟩:=aem.mp e1
  have sp:ks.take (es++[[[g]]]).length=ks.take es.length++[g]:=by rw[aaA];rw[abf];rw[List.take_add_one];rw[hg];rfl
  have aae:ew (ks.take es.length++[g]):=by
   rewrite[← sp]
   exact UV (b:=ks.drop (es++[[[g]]]).length) (by rw[List.take_append_drop];exact okk)
  rw[sp]
  generalize ks.take es.length=z at od aae ⊢
  subst od
  obtain _ | ⟨y,z⟩:=z
  ·exact w.one rfl
  ·refine w.ord _ _ _ rfl rfl (fun e=>?_) (fun e=>by cases e) (fun e=>by cases e) (XE aae) fun e=>by cases z <;> cases e
   have:=hv e
   rw[ae3]at this
   have nd:=aae.1
   rw[this.1]at nd
   exact(acL.mp nd).2.2 g (.head _) g (.head _) rfl
theorem Rd.item{r i:Nat}{l:List PV}{v:PV}(h:(r,CO.list l)∈K)(e:l[i]?=some v):Rd K (getItem (.ref r) (.int i)) v:=Rd.mem (fun zz h=>gh h e) h
theorem Os{r n:Nat}{ts:List Nat}{ds:List cj}(hok:∀d∈ds,P7 d∧d≠[])(hpr:pr ds≤2):∀{vs us:List Nat} {es Oc:List cj} {rows:List PV} {v:Nat} {d:cj} {a2 a4:Option PV},us++vs=ts→es++Oc=ds→Rw rows→KA rows us es→KA rows vs Oc→Ty rows v d→Tk ds es d→rows.length+5*vs.length+6<ax →
  Run ((r,.list (bi ts))::cf c bs rows) (gH (pQ (Φ (n+7))) (bi (adR us.length vs.length)) [some (.ref c.tab),some (.ref r),a2,some (.int v),a4,none,none,none,none,none,none,none] pR) (TQ c bs rows (5*vs.length) fun ah v=>∃d,Ty ah v d∧Tk ds ds d):=by
 intro vs
 induction vs with
 | nil =>
  intro us es Oc rows v d a2 a4 hts Ta R hu hv ty ix m
  obtain rfl:Oc=[]:=aaZ hv.len.symm
  rw[abF]at Ta
  subst Ta
  exact Run.eq (Mn ..) (Run.drop (Run.ret ⟨R,abg _,aaX _,d,ty,ix⟩))
 | cons t vs ih =>
  intro us es Oc rows v d a2 a4 hts Ta R hu hv ty ix m
  obtain _ | ⟨e0,Oc⟩:=Oc
  ·exact hv.elim
  ·have at':(bi ts)[us.length]?=some (.int t):=by rewrite[← hts];rw[eI];rewrite[abE (by rw[bm];exact aaX _)];rw[bm];rw[ads];rfl
   have tk:(bi ts).take us.length=bi us:=by rewrite[← hts];rw[eI];rw[agm (by rw[bm];exact aaX _),agS (by rw[bm];exact aaX _)]
   rw[aaK]at m
   have hl:(us++[t]).length=us.length+1:=aaA
   have next:=fun{ah:List PV} {v':Nat} {d':cj} {a2 a4:Option PV} (R':Rw ah) (p:rows <+: ah) (hn:ah.length≤rows.length+5) (ty':Ty ah v' d') (ix':Tk ds (es++[e0]) d')=>Run.imp (ih (a2:=a2) (a4:=a4) (by rw[aaW];exact hts) (by rw[aaW];exact Ta) R' ((hu.snoc hv.1).pre p) (KA.pre p hv.2) ty' ix' (by lia)) fun zz zz q=>q.more (k':=5*(vs.length+1)) p (by lia) fun zz zz h=>h
   rw[hl]at next
   refine Run.eq (Mm ..) (Run.bh (Run.rd (Rd.item (.head _) at') (Run.alloc (fun H h=>tk▸mE h) (.head _) fun i=>Run.of _ (Rd.Fn (.head _)).det (Run.drop ?_))))
   by_cases kh:t∈us
   ·rw[decide_eq_true kh]
    obtain⟨e1,h3,h4⟩:=hu.mem kh
    obtain rfl:e1=e0:=Ty.fn R.base h4 hv.1
    exact Run.no (next R (abg _) (acR ..) ty (ix.same Ta h3))
   ·rw[decide_eq_false kh]
    have he0:=hok e0 (Ta▸aaJ _ (.head _))
    have hp:pr es*max 1 e0.length≤2:=by
     refine aa4 (agR _ (OM Oc)) (aa4 (adT ?_) hpr)
     rewrite[← Ta];rw[vW];rw[Nat.mul_assoc];rfl
    have hp1:=OM es
    have hd:=ix.len
    have hx:d.length≤2∧e0.length≤2∧(d.length≤1∨e0.length≤1):=by
     generalize pr es=z at *
     obtain rfl | rfl | h:z=1∨z=2∨3≤z:=by lia
     ·lia
     ·lia
     ·have:=ahb (max 1 e0.length) h
      lia
    exact Run.yes<|Run.bh<|Run.bh<|Run.bh<|Run.bh<|Run.bh<|Run.of _ (Rd.item (.head _) at').det<|Run.ret<|Run.ret<|Run.ret<|Run.tqi [_] (acE (n:=n) R (by lia) ty hv.1 ix.ok he0.1 hx.1 hx.2.1 hx.2.2) fun R' p hn q=>q.elim fun d' q=>next R' p hn q.1 (ix.two Ta q.2 fun e=>Ty.fn R.base ty (e▸hv.1))
theorem Qv(R:Rw rows){r n:Nat}{ts:List Nat}{ds:List cj}(m:rows.length+5*ts.length+6<ax)(hty:KA rows ts ds)(hok:∀d∈ds,P7 d∧d≠[])(hpr:pr ds≤2)(hln:ts.length<60) :
  Run ((r,.list (bi ts))::cf c bs rows) (Φ (n+8) (S "inter") [.ref c.tab,.ref r]) (TQ c bs rows (5*ts.length) fun ah v=>∃d,Ty ah v d∧Tk ds ds d):=by
 have no:=fun(z:Nat) (hz:z=2∨z=0∨z=13)=>show Rd ((r,.list (bi ts))::cf c bs rows) (ae .In (.int z) (.ref r)) false from decide_eq_false (p:=z∈ts) (fun h=>by
  obtain⟨d,h1,h3⟩:=hty.mem h
  have:=h3.high (hok d h1).2
  lia)▸Rd.inL (.head _)
 refine Run.eq (TU ..) (Run.xR (T:=fun t n'=>Dk (Φ (n+7)) (.ref c.tab) (.ref r) t n') rfl (Run.eq (oU ..) (Run.rd (no 2 (.inl rfl)) (Run.no (Run.eq (oU ..) (Run.rd (no 0 (.inr (.inl rfl))) (Run.no (Run.eq (oU ..) (Run.rd (no 13 (.inr (.inr rfl))) (Run.no ?_))))))))))
 have hl:(bi ts).length=ts.length:=bm ts
 refine Run.eq (Jj ..) (Run.rd ((Rd.len (.head _)).seq fun H zz=>fJ (by lia) H) (Run.rd (a:=ts.length) (fun zz zz=>by rw[bz];rw[bm];rw[ac5];rw[hl];rfl) ?_))
 rw[hl]
 refine Run.eq ?_ (Os (n:=n) (ts:=ts) (us:=[]) (es:=[]) (v:=1) (d:=[[]]) (a2:=some (.int 13)) (a4:=none) hok hpr rfl rfl R trivial hty rfl ⟨?_,?_,?_,aaX _,fun zz zz zz=>rfl⟩ m)
 ·have:=ch (pQ (Φ (n+7))) (bi (adR 0 ts.length)) [some (.ref c.tab),some (.ref r),some (.int 13),some (.int 1),none,none,none,none,none,none,none,none] pR
  rw[bm,ac5]at this
  exact this
 ·intro q h
  cases aad.mp h
  exact⟨⟨.nil,fun zz h=>(zM h),fun h=>((afs h.1).elim),fun h=>((afs h.1).elim)⟩,fun zz=>rfl⟩
 ·exact fun C w=>⟨fun zz e h=>by(cases h),fun zz=>⟨[],.head _,fun zz h=>by(cases h)⟩⟩
 ·intro q h x hx
  cases aad.mp h
  cases hx
end Mine
namespace Mine
open PySem
noncomputable def kY(k:Nat):Prop:=5≤k∧k<8
noncomputable abbrev kZ:=Nat→List (List Nat)
open Classical in
noncomputable def rz(bd:kZ)(k:Nat):List (List Nat):=if kY k then bd k else[[k]]
theorem Br{bd:kZ}{k:Nat}(h:kY k):rz bd k=bd k:=if_pos h
theorem xT{bd:kZ}{k:Nat}(h:¬kY k):rz bd k=[[k]]:=if_neg h
structure ru(bd:kZ):Prop where
 ok:∀k,kY k→P7 (bd k)∧bd k≠[]
 low:∀k,kY k→∀q∈bd k,∀x∈q,x<k∨8≤x
 two:(bd 5).length≤2
 XT:(bd 6).length≤1
 XU:(bd 7).length≤1
 small:∀q∈bd 5,q.length≤2
noncomputable def World(bd:kZ)(C:Nat→Prop):Prop:=WW C∧∀k,kY k→C k→Kx (bd k) C
noncomputable def ej(bd:kZ)(ds dt:List (List Nat)):Prop:=∀C,World bd C→Kx ds C→Kx dt C
noncomputable def lb(q:List Nat):Prop:=0∈q∨1∈q
noncomputable def Good(bd:kZ)(ds dt:List (List Nat)):Prop :=
 (∀q∈ds,lb q)∧(∀l∈dt,2≤l.length→∀k∈l,8≤k→∀q∈ds,k∈q)∧(dt.length≤1∨(∀l∈dt,∀k∈l,¬kY k)∨∀p,kY p→(bd p).length≤1)
theorem Kx.mono{d:List (List Nat)}{C D:Nat→Prop}(h:Kx d C)(s:∀k,C k→D k):Kx d D:=by
 obtain⟨q,h1,h2⟩:=h
 exact⟨q,h1,fun k hk=>s k (h2 k hk)⟩
theorem bu{q:List Nat}{C:Nat→Prop}:Kx [q] C↔ry q C :=
 ⟨(by rintro⟨_,h,i⟩;exact by cases aad.mp h;exact i),fun i=>⟨q,.head _,i⟩⟩
theorem fF{k:Nat}{C:Nat→Prop}:ry [k] C↔C k:=⟨fun h=>h k (.head _),fun h x hx=>by cases aad.mp hx;exact h⟩
noncomputable def Cl(q:List Nat)(k:Nat):Prop:=k∈q∨(k=2∧3∈q)
theorem Hn{q:List Nat}(h:ew q):WW (Cl q):=by
 obtain⟨zz,zz,h3,h4⟩:=h
 refine⟨fun c=>?_,?_⟩
 ·rcases c with c | ⟨c,_⟩
  ·exact .inr ⟨rfl,c⟩
  ·lia
 ·rintro⟨a | ⟨_,a⟩,b | ⟨b,_⟩⟩
  ·exact h4 ⟨b,.inl a⟩
  ·lia
  ·exact h4 ⟨b,.inr a⟩
  ·lia
theorem lN(q:List Nat):ry q (Cl q):=fun zz h=>.inl h
noncomputable def lv(k:Nat):Nat:=match k with | 5=>1 | 6=>2 | 7=>3 | _=>0
theorem ab2(k:Nat):lv k≤3:=by unfold lv;split <;> decide
theorem OB{k:Nat}:1≤lv k↔kY k:=by
 unfold lv kY
 split
 ·decide
 ·decide
 ·decide
 ·next h1 h2 h3 =>
  constructor
  ·intro h;lia
  ·intro h
   exfalso
   have:k=5∨k=6∨k=7:=by lia
   rcases this with h | h | h
   ·exact h1 h
   ·exact h2 h
   ·exact h3 h
theorem UB{k:Nat}(h:¬kY k):lv k=0:=by
 have:=OB (k:=k)
 by_cases z:1≤lv k
 ·exact absurd (this.mp z) h
 ·lia
theorem R0{k:Nat}(h:kY k):lv k=k-4:=by
 obtain⟨a,b⟩:=h
 have:k=5∨k=6∨k=7:=by lia
 rcases this with rfl | rfl | rfl <;> rfl
noncomputable def fH:List Nat→Nat
 | []=>0
 | k::r=>max (lv k) (fH r)
noncomputable def NI:List (List Nat)→Nat
 | []=>0
 | q::r=>max (fH q) (NI r)
theorem vP:∀{q:List Nat} {k:Nat},k∈q→lv k≤fH q
 | x::r,k,h=>by
  dsimp only[fH]
  rcases aa2.mp h with rfl | h
  ·lia
  ·have:=vP h;lia
theorem Cg:∀{q:List Nat} {n:Nat},(∀k∈q,lv k≤n)→fH q≤n
 | [],_,_=>acV _
 | x::r,n,h=>by
  have:=Cg (q:=r) fun k hk=>h k (.tail _ hk)
  have:=h x (.head _)
  dsimp only[fH]
  lia
theorem tK:∀{d:List (List Nat)} {q:List Nat},q∈d→fH q≤NI d
 | x::r,k,h=>by
  unfold NI
  rcases aa2.mp h with rfl | h
  ·lia
  ·have:=tK h;lia
theorem IN:∀{d:List (List Nat)} {n:Nat},(∀q∈d,fH q≤n)→NI d≤n
 | [],_,_=>acV _
 | x::r,n,h=>by
  have:=IN (d:=r) fun k hk=>h k (.tail _ hk)
  have:=h x (.head _)
  unfold NI
  lia
theorem gE(q:List Nat):fH q≤3:=Cg fun k zz=>ab2 k
theorem Ci{q:List Nat}(h:fH q=0):∀k∈q,¬kY k:=fun k hk p=>by
 have:=OB.mpr p
 have:=vP hk
 lia
structure AW(bd:kZ)(q:List Nat)(d:List (List Nat)):Prop where
 ok:P7 d
 num:d.length≤2
 yC:∀C,WW C→(Kx d C↔∀k∈q,Kx (rz bd k) C)
 sub:∀q'∈d,∀x∈q',∃k∈q,∃l∈rz bd k,x∈l
section
variable{bd:kZ}{q:List Nat}{d:List (List Nat)}
theorem AW.up(W:AW bd q d){k:Nat}(hk:k∈q)(hn:¬kY k){q':List Nat}(h:q'∈d):Cl q' k:=by
 have w:=Hn (W.ok q' h).1
 have:=(W.yC _ w).mp ⟨q',h,lN q'⟩ k hk
 rw[xT hn,bu,fF]at this
 exact this
theorem AW.keep(W:AW bd q d){k:Nat}(hk:k∈q)(hn:¬kY k)(h2:k≠2){q':List Nat}(h:q'∈d):k∈q':=by
 rcases W.up hk hn h with c | ⟨c,_⟩
 ·exact c
 ·exact absurd c h2
theorem AW.abG(W:AW bd q d)(hq:lb q):∀q'∈d,lb q':=fun q' h=>by
 rcases hq with hq | hq
 ·exact .inl (W.keep hq (by unfold kY;lia) (by lia) h)
 ·exact .inr (W.keep hq (by unfold kY;lia) (by lia) h)
theorem AW.low(B:ru bd)(W:AW bd q d)(hl:1≤fH q):∀q'∈d,fH q'+1≤fH q:=fun q' h=>by
 have:fH q'≤fH q-1:=Cg fun x hx=>by
  obtain⟨k,h1,l,h2,h3⟩:=W.sub q' h x hx
  by_cases p:kY k
  ·rw[Br p]at h2
   have hk:=vP h1
   have:=B.low k p l h2 x h3
   have e:=R0 p
   by_cases px:kY x
   ·rw[R0 px]
    rcases B.low k p l h2 x h3 with h | h
    ·exact adz (afg (afZ (afQ px.1) h) (e▸hk))
    ·exact absurd px.2 (aep.mpr h)
   ·rw[UB px];lia
  ·rw[xT p,aad]at h2
   subst h2
   cases aad.mp h3
   rw[UB p];lia
 lia
theorem AW.XF(B:ru bd)(W:AW bd q d)(hl:1≤fH q):NI d+1≤fH q:=by
 have:NI d≤fH q-1:=IN fun q' h=>by have:=W.low B hl q' h;lia
 lia
theorem AW.ne(B:ru bd)(W:AW bd q d)(hl:1≤fH q):d≠[q]:=by
 rintro rfl
 have:=W.low B hl q (.head _)
 lia
theorem AW.sound(W:AW bd q d){C:Nat→Prop}(w:World bd C)(i:ry q C):Kx d C:=by
 rewrite[W.yC C w.1]
 intro k hk
 by_cases p:kY k
 ·rw[Br p];exact w.2 k p (i k hk)
 ·rw[xT p];rewrite[bu,fF];exact i k hk
theorem AW.valid(W:AW bd q d){dt:List (List Nat)}(v:ej bd [q] dt)(h:∀l∈dt,∀k∈l,¬(kY k∧k∈q)):ej bd d dt:=by
 intro C w s
 have sq:=(W.yC C w.1).mp s
 have:=v (fun k=>C k∨(kY k∧k∈q)) ⟨⟨?_,?_⟩,?_⟩ (bu.mpr ?_)
 ·obtain⟨l,h1,h2⟩:=this
  exact⟨l,h1,fun k hk=>(h2 k hk).resolve_right (h l h1 k hk)⟩
 ·rintro(c | ⟨⟨c,_⟩,_⟩)
  ·exact .inl (w.1.1 c)
  ·lia
 ·rintro⟨a | ⟨⟨a,_⟩,_⟩,b | ⟨⟨b,_⟩,_⟩⟩
  ·exact w.1.2 ⟨a,b⟩
  ·lia
  ·lia
  ·lia
 ·rintro k p (c | ⟨_,c⟩)
  ·exact(w.2 k p c).mono fun zz=>.inl
  ·have:=sq k c
   rw[Br p]at this
   exact this.mono fun zz=>.inl
 ·intro k hk
  by_cases p:kY k
  ·exact .inr ⟨p,hk⟩
  ·have:=sq k hk
   rw[xT p,bu,fF]at this
   exact .inl this
end
theorem Bx{bd:kZ}{q:List Nat}(h:ew q)(h0:fH q=0):World bd (Cl q):=by
 refine⟨Hn h,fun k p c=>?_⟩
 rcases c with c | ⟨rfl,_⟩
 ·exact absurd p (Ci h0 k c)
 ·exact absurd p.1 (by lia)
theorem H2{bd:kZ}{q l:List Nat}:ej bd [q] [l]↔∀x∈l,ej bd [q] [[x]]:=by
 constructor
 ·intro v x hx C w s
  exact bu.mpr (fF.mpr (bu.mp (v C w s) x hx))
 ·intro v C w s
  exact bu.mpr fun x hx=>fF.mp (bu.mp (v x hx C w s))
theorem P1{bd:kZ}{ds dt:List (List Nat)}{q:List Nat}(h:q∈ds)(v:ej bd ds dt):ej bd [q] dt:=fun C w s=>v C w ⟨q,h,bu.mp s⟩
theorem S1{bd:kZ}{ds dt:List (List Nat)}(v:∀q∈ds,ej bd [q] dt):ej bd ds dt:=(by rintro C w ⟨q,h,i⟩;exact v q h C w (bu.mpr i))
theorem Wv{bd:kZ}{ds dt:List (List Nat)}{l:List Nat}(h:l∈dt)(v:ej bd ds [l]):ej bd ds dt:=fun C w s=>⟨l,h,bu.mp (v C w s)⟩
theorem P3{bd:kZ}(B:ru bd)(h1:∀p,kY p→(bd p).length≤1){q:List Nat}{dt:List (List Nat)}(h0:dt≠[])(v:ej bd [q] dt):∃l∈dt,ej bd [q] [l]:=by
 apply Classical.byContradiction
 intro hn
 have hc:∀l,∃C:Nat→Prop,l∈dt→World bd C∧ry q C∧¬ry l C:=fun l=>by
  by_cases hl:l∈dt
  ·apply Classical.byContradiction
   intro hx
   apply hn
   refine⟨l,hl,fun C w s=>bu.mpr ?_⟩
   apply Classical.byContradiction
   intro hi
   exact hx ⟨C,fun zz=>⟨w,bu.mp s,hi⟩⟩
  ·exact⟨fun zz=>True,fun h=>absurd h hl⟩
 obtain⟨F,hF⟩:=Classical.axiomOfChoice hc
 obtain⟨l0,ZP⟩:=ad7 dt h0
 have:=v (fun k=>∀l∈dt,F l k) ⟨⟨fun c l hl=>(hF l hl).1.1.1 (c l hl),(by rintro⟨a,b⟩;exact(hF l0 ZP).1.1.2 ⟨a l0 ZP,b l0 ZP⟩)⟩,fun k p c=>?_⟩ (bu.mpr fun k hk l hl=>(hF l hl).2.1 k hk)
 ·obtain⟨l,h2,h3⟩:=this
  exact(hF l h2).2.2 fun k hk=>h3 k hk l h2
 ·have hb:=B.ok k p
  have h2:=h1 k p
  match hbk:bd k,hb.2,h2 with
  | [b],_,_ =>
   refine bu.mpr fun x hx l hl=>?_
   have:=(hF l hl).1.2 k p (c l hl)
   rw[hbk]at this
   exact bu.mp this x hx
  | [],h,_=>exact absurd rfl h
theorem Good.part{bd:kZ}{ds dt:List (List Nat)}{q:List Nat}(g:Good bd ds dt)(h:q∈ds):Good bd [q] dt :=
 ⟨fun q' h'=>by cases aad.mp h';exact g.1 q h,fun l hl h2 k hk h8 q' h'=>by cases aad.mp h';exact g.2.1 l hl h2 k hk h8 q h,g.2.2⟩
theorem Good.to{bd:kZ}{ds dt:List (List Nat)}{l:List Nat}(g:Good bd ds dt)(h:l∈dt):Good bd ds [l] :=
 ⟨g.1,fun l' Ll h2=>by cases aad.mp Ll;exact g.2.1 l h h2,.inl (aaX _)⟩
theorem Good.rq{bd:kZ}{ds:List (List Nat)}{x:Nat}(h:∀q∈ds,lb q):Good bd ds [[x]] :=
 ⟨h,fun l hl h2=>by cases aad.mp hl;simp at h2,.inl (aaX _)⟩
theorem Good.WA{bd:kZ}{q:List Nat}{d dt:List (List Nat)}(W:AW bd q d)(g:Good bd [q] dt):Good bd d dt :=
 ⟨W.abG (g.1 q (.head _)),fun l hl h2 k hk h8 q' h'=>W.keep (g.2.1 l hl h2 k hk h8 q (.head _)) (by unfold kY;lia) (by lia) h',g.2.2⟩
end Mine
namespace Mine
open PySem
noncomputable def rD:List (List Nat)→Nat
 | []=>0
 | [q]=>3*fH q+(if q.length≤1 then 0 else 1)
 | ds=>3*NI ds+2
noncomputable def rT:List (List Nat)→Nat
 | []=>0
 | [l]=>if l.length≤1 then 0 else 1
 | _=>2
noncomputable def mu(ds dt:List (List Nat)):Nat:=rD ds+rT dt+1
theorem VY(ds:List (List Nat)):rD ds≤3*NI ds+2:=by
 match ds with
 | []=>exact acV _
 | [q] =>
  show 3*fH q+_≤3*(max (fH q) 0)+2
  split <;> lia
 | _::_::_=>exact aaX _
theorem SF(q:List Nat):rD [q]≤3*fH q+1:=by
 show 3*fH q+_≤_
 split <;> lia
theorem acl(dt:List (List Nat)):rT dt≤2:=by
 match dt with
 | []=>exact acV _
 | [l] =>
  show(if _ then 0 else 1)≤2
  split <;> lia
 | _::_::_=>exact aaX _
theorem QI(ds dt:List (List Nat)):mu ds dt≤14:=by
 have h1:=VY ds
 have h2:=acl dt
 have h3:NI ds≤3:=IN fun q zz=>gE q
 unfold mu
 lia
theorem XJ{q:List Nat}{ds dt:List (List Nat)}(h:q∈ds)(h2:2≤ds.length):mu [q] dt<mu ds dt:=by
 have h3:=tK h
 have h4:=SF q
 have:rD ds=3*NI ds+2:=Kq (P:=fun ds=>rD ds=3*NI ds+2) (fun zz zz zz=>rfl) h2
 unfold mu
 lia
theorem UI{q:List Nat}{k:Nat}(h:k∈q)(h2:2≤q.length)(dt:List (List Nat)):mu [[k]] dt<mu [q] dt:=by
 have h3:=vP h
 have e1:rD [q]=3*fH q+1:=by show 3*fH q+(if q.length≤1 then 0 else 1)=_;rewrite[if_neg (by lia)];rfl
 have e2:rD [[k]]=3*lv k:=by show 3*(max (lv k) 0)+0=_;rw[agl];rfl
 unfold mu
 lia
theorem Z8{bd:kZ}(B:ru bd){q:List Nat}{d:List (List Nat)}(W:AW bd q d)(hl:1≤fH q)(h2:2≤q.length)(dt:List (List Nat)):mu d dt<mu [q] dt:=by
 have h3:=W.XF B hl
 have h4:=VY d
 have e1:rD [q]=3*fH q+1:=by show 3*fH q+(if q.length≤1 then 0 else 1)=_;rewrite[if_neg (by lia)];rfl
 unfold mu
 lia
theorem UH{bd:kZ}(B:ru bd){k:Nat}(p:kY k)(dt:List (List Nat)):mu (bd k) dt<mu [[k]] dt:=by
 have h3:NI (bd k)≤lv k-1:=IN fun q hq=>Cg fun x hx=>by
  by_cases px:kY x
  ·rw[R0 p];rw[R0 px]
   rcases B.low k p q hq x hx with h | h
   ·exact adz (afZ (afQ px.1) h)
   ·exact absurd px.2 (aep.mpr h)
  ·rw[UB px];exact acV _
 have h4:=VY (bd k)
 have h5:=OB.mpr p
 have e2:rD [[k]]=3*lv k:=by show 3*(max (lv k) 0)+0=_;rw[agl];rfl
 have h3:=Nat.add_le_of_le_sub h5 h3
 unfold mu
 lia
theorem IT{l:List Nat}{x:Nat}(h2:2≤l.length)(ds:List (List Nat)):mu ds [[x]]<mu ds [l]:=by
 have e1:rT [l]=1:=by show(if l.length≤1 then 0 else 1)=_;rewrite[if_neg (by lia)];rfl
 have e2:rT [[x]]=0:=rfl
 unfold mu
 lia
theorem ab5{l:List Nat}{dt:List (List Nat)}(h2:2≤dt.length)(ds:List (List Nat)):mu ds [l]<mu ds dt:=by
 have e1:rT [l]≤1:=by show(if l.length≤1 then 0 else 1)≤_;split <;> lia
 have e2:rT dt=2:=Kq (P:=fun dt=>rT dt=2) (fun zz zz zz=>rfl) h2
 unfold mu
 lia
noncomputable def aN:Nat→Nat | 0=>1 | 1=>8 | 2=>28 | _=>98
noncomputable def mN:Nat→Nat | 0=>6 | 1=>27 | 2=>97 | _=>335
noncomputable def uN:Nat→Nat | 0=>39 | 1=>244 | 2=>1074 | _=>4162
noncomputable def cq(q:List Nat)(x:Nat):Nat:=if q.length≤1 then aN (fH q)else if x∈q then 1 else if fH q=0 then 1+q.length else mN (fH q)
noncomputable def ci(q l:List Nat):Nat:=if l.length≤1 then(l.map (cq q)).sum else 1+(l.map (cq q)).sum
noncomputable def fE(ds dt:List (List Nat)):Nat:=match dt with
 | []=>0
 | [l]=>(match ds with
  | []=>0
  | [q]=>ci q l
  | _=>1+(ds.map fun q=>ci q l).sum)
 | _=>(match ds with
  | []=>0
  | [q]=>uN (fH q)
  | _=>1+(ds.map fun q=>uN (fH q)).sum)
theorem vB(q:List Nat)(x:Nat):ci q [x]=cq q x:=by show(if 1≤1 then[cq q x].sum else _)=_;simp
theorem EY{α:Type}{f:α→Nat}{n:Nat}:∀{l:List α},(∀x∈l,f x≤n)→(l.map f).sum≤l.length*n
 | [],_=>acV _
 | x::r,h=>by
  have h1:=h x (.head _)
  have h2:=EY (l:=r) fun y hy=>h y (.tail _ hy)
  rw[ab6];rw[aec];rw[aaK];rw[agA];rw[afn]
  lia
theorem BM{f:Nat→Nat}{p:Nat→Bool}:∀l:List Nat,((l.filter p).map f).sum=(l.map fun k=>if p k then f k else 0).sum
 | []=>rfl
 | x::r=>by
  rw[aft];rw[ab6];rw[aec];rewrite[← BM r]
  cases p x <;> simp
noncomputable def BF(q:List Nat)(k:Nat):Nat:=if k∈q then 1 else 0
theorem Kn{q:List Nat}(h:ew q)(f:Nat→Nat):(q.map f).sum=f 0*BF q 0+f 1*BF q 1+f 2*BF q 2+f 3*BF q 3+f 4*BF q 4+f 5*BF q 5+f 6*BF q 6+f 7*BF q 7+f 8*BF q 8+f 9*BF q 9:=by
 have hp:q.Perm ([0,1,2,3,4,5,6,7,8,9].filter fun k=>decide (k∈q)):=by
  rewrite[agB h.1 (afN _ (show List.Nodup [0,1,2,3,4,5,6,7,8,9] by decide))]
  intro a
  rewrite[acZ];rw[decide_eq_true_eq]
  constructor
  ·intro ha
   have:=h.2.1 a ha
   exact⟨agE.mpr this,ha⟩
  ·exact fun h=>h.2
 rw[(hp.map f).sum_nat];rw[BM]
 have e:∀k,(if decide (k∈q)then f k else 0)=f k*BF q k:=fun k=>by
  unfold BF
  by_cases z:k∈q <;> simp [z]
 simp only[e,ab6,agY,aec,List.sum_nil]
 lia
theorem TP(q:List Nat)(k:Nat):BF q k≤1:=by unfold BF;split <;> lia
theorem Io{q:List Nat}{k:Nat}(h:k∉q):BF q k=0:=if_neg h
theorem Hr{q:List Nat}(h:ew q):BF q 2+BF q 3+BF q 4≤1:=by
 obtain⟨zz,zz,h3,h4⟩:=h
 unfold BF
 by_cases a:2∈q <;> by_cases b:3∈q <;> by_cases c:4∈q <;> simp [a,b,c]at h3 h4 ⊢
theorem QD(q:List Nat):(q.map fun zz=>1).sum=q.length:=by
 induction q with
 | nil=>rfl
 | cons x r ih=>rw[ab6];rw[aec];rw[ih];rw[aaK];lia
theorem Uz{q:List Nat}(h:ew q)(h0:fH q=0):q.length≤5:=by
 have hs:=Kn h fun zz=>1
 rw[QD]at hs
 have ht:=Hr h
 have e:=fun k=>TP q k
 have n:=Ci h0
 have n5:=Io (q:=q) (k:=5) fun z=>n 5 z ⟨by decide,by decide⟩
 have n6:=Io (q:=q) (k:=6) fun z=>n 6 z ⟨by decide,by decide⟩
 have n7:=Io (q:=q) (k:=7) fun z=>n 7 z ⟨by decide,by decide⟩
 have:=e 0;have:=e 1;have:=e 8;have:=e 9
 lia
theorem iJ{a b:Nat}(h:a≤b)(hb:b≤3):mN a≤mN b:=by
 have ha:a=0∨a=1∨a=2∨a=3:=by lia
 have hb:b=0∨b=1∨b=2∨b=3:=by lia
 rcases ha with rfl | rfl | rfl | rfl <;> rcases hb with rfl | rfl | rfl | rfl <;> first | lia | decide
theorem Rh{a b:Nat}(h:a≤b)(hb:b≤3):uN a≤uN b:=by
 have ha:a=0∨a=1∨a=2∨a=3:=by lia
 have hb:b=0∨b=1∨b=2∨b=3:=by lia
 rcases ha with rfl | rfl | rfl | rfl <;> rcases hb with rfl | rfl | rfl | rfl <;> first | lia | decide
theorem abh{v:Nat}(h:v≤3):aN v≤mN v:=by
 have hb:v=0∨v=1∨v=2∨v=3:=by lia
 rcases hb with rfl | rfl | rfl | rfl <;> decide
theorem UD(v:Nat):6≤mN v:=by unfold mN;split <;> decide
theorem aaH(v:Nat):1≤uN v:=by unfold uN;split <;> decide
theorem Zk(v:Nat):1≤aN v:=by unfold aN;split <;> decide
theorem N1(q:List Nat)(x:Nat):1≤cq q x:=by
 unfold cq
 split
 ·exact Zk _
 ·split
  ·exact aaX _
  ·split
   ·exact acR ..
   ·exact aa4 (by decide) (UD _)
theorem sV{q:List Nat}(h:ew q)(x:Nat):cq q x≤mN (fH q):=by
 unfold cq
 have h6:=UD (fH q)
 split
 ·exact abh (gE q)
 ·split
  ·lia
  ·split
   ·next h0 =>
    have:=Uz h h0
    lia
   ·exact aaX _
theorem AY{d:List (List Nat)}{x v:Nat}(ok:P7 d)(h2:d.length≤2)(hv:NI d≤v)(h3:v≤3):fE d [[x]]≤1+2*mN v:=by
 have hq:∀q∈d,ci q [x]≤mN v:=fun q hq=>by
  rw[vB]
  exact aa4 (sV (ok q hq).1 x) (iJ (aa4 (tK hq) hv) h3)
 clear ok hv
 refine Rj (P:=fun d=>(∀q∈d,ci q [x]≤mN v)→fE d [[x]]≤1+2*mN v) (fun zz=>acV _) (fun q hq=>?_) (fun q r hq=>?_) h2 hq
 ·have:=hq q (.head _)
  show ci q [x]≤_
  lia
 ·have h1:=hq q (.head _)
  have h2:=hq r (.tail _ (.head _))
  show 1+(ci q [x]+(ci r [x]+0))≤_
  lia
theorem NZ{bd:kZ}(B:ru bd){k:Nat}(p:kY k)(x:Nat):1+fE (bd k) [[x]]≤cq [k] x:=by
 have e:cq [k] x=aN (lv k):=by
  show(if 1≤1 then aN (max (lv k) 0)else _)=_
  rw[if_pos (aaX _)];rw[agl];rfl
 rw[e]
 have ZQ:∀q∈bd k,fH q≤lv k-1:=fun q hq=>Cg fun y hy=>by
  by_cases py:kY y
  ·rw[R0 p];rw[R0 py]
   rcases B.low k p q hq y hy with h | h
   ·exact adz (afZ (afQ py.1) h)
   ·exact absurd py.2 (aep.mpr h)
  ·rw[UB py];exact acV _
 have hk:k=5∨k=6∨k=7:=by unfold kY at p;lia
 rcases hk with rfl | rfl | rfl
 ·have hc:∀q∈bd 5,ci q [x]≤3:=fun q hq=>by
   rw[vB]
   have h0:fH q=0:=by have h9:=ZQ q hq;have h8:lv 5=1:=rfl;lia
   have h2:=B.small q hq
   unfold cq
   rw[h0]
   split
   ·decide
   ·split
    ·decide
    ·rw[if_pos rfl];lia
  have h2:=B.two
  show _≤8
  generalize bd 5=d at hc h2
  refine Rj (P:=fun d=>(∀q∈d,ci q [x]≤3)→1+fE d [[x]]≤8) (fun zz=>show 1+0≤8 by decide) (fun q hc=>?_) (fun q r hc=>?_) h2 hc
  ·have:=hc q (.head _)
   show 1+ci q [x]≤8
   lia
  ·have h1:=hc q (.head _)
   have h3:=hc r (.tail _ (.head _))
   show 1+(1+(ci q [x]+(ci r [x]+0)))≤8
   lia
 ·have hc:∀q∈bd 6,ci q [x]≤27:=fun q hq=>by
   rw[vB]
   exact aa4 (sV ((B.ok 6 p).1 q hq).1 x) (iJ (b:=1) (by have h9:=ZQ q hq;have h8:lv 6=2:=rfl;lia) (by decide))
  have h2:=B.XT
  show _≤28
  generalize bd 6=d at hc h2
  refine Y9 (P:=fun d=>(∀q∈d,ci q [x]≤27)→1+fE d [[x]]≤28) (fun zz=>show 1+0≤28 by decide) (fun q hc=>?_) h2 hc
  have:=hc q (.head _)
  show 1+ci q [x]≤28
  lia
 ·have hc:∀q∈bd 7,ci q [x]≤97:=fun q hq=>by
   rw[vB]
   exact aa4 (sV ((B.ok 7 p).1 q hq).1 x) (iJ (b:=2) (by have h9:=ZQ q hq;have h8:lv 7=3:=rfl;lia) (by decide))
  have h2:=B.XU
  show _≤98
  generalize bd 7=d at hc h2
  refine Y9 (P:=fun d=>(∀q∈d,ci q [x]≤97)→1+fE d [[x]]≤98) (fun zz=>show 1+0≤98 by decide) (fun q hc=>?_) h2 hc
  have:=hc q (.head _)
  show 1+ci q [x]≤98
  lia
theorem TH(k x:Nat):cq [k] x=aN (lv k):=by
 show(if 1≤1 then aN (max (lv k) 0)else _)=_
 rw[if_pos (aaX _)];rw[agl];rfl
theorem jb{q:List Nat}{k v:Nat}(h:fH q≤v)(hk:v<lv k):BF q k=0:=Io fun z=>by
 have:=vP z
 lia
theorem rA{bd:kZ}(B:ru bd){q:List Nat}(h:ew q){x:Nat}(h2:2≤q.length)(hx:x∉q):1+(q.map fun k=>cq [k] x).sum≤cq q x∧∀d,AW bd q d→1≤fH q→1+(q.map fun k=>cq [k] x).sum+fE d [[x]]≤cq q x:=by
 have hs:=Kn h fun k=>aN (lv k)
 simp only[TH]
 generalize (q.map fun k=>aN (lv k)).sum=S at hs ⊢
 simp only[lv,aN]at hs
 have ht:=Hr h
 have e:=fun k=>TP q k
 have hS:S≤5+8*BF q 5+28*BF q 6+98*BF q 7:=by
  have:=e 0;have:=e 1;have:=e 8;have:=e 9
  lia
 have e5:=e 5;have e6:=e 6;have e7:=e 7
 have hc:cq q x=if fH q=0 then 1+q.length else mN (fH q):=by
  unfold cq
  rewrite[if_neg (by lia)];rw[if_neg hx];rfl
 rw[hc]
 have hv:=gE q
 have hv':fH q=0∨fH q=1∨fH q=2∨fH q=3:=by lia
 refine⟨?_,fun d W hl=>?_⟩
 ·rcases hv' with h0 | h0 | h0 | h0
  ·rw[if_pos h0]
   have hl:=Kn h fun zz=>1
   rw[QD]at hl
   have:=jb (q:=q) (k:=5) (v:=0) (by lia) (by decide)
   have:=jb (q:=q) (k:=6) (v:=0) (by lia) (by decide)
   have:=jb (q:=q) (k:=7) (v:=0) (by lia) (by decide)
   clear ht hS
   lia
  ·clear hs
   rewrite[if_neg (by lia)];rw[h0]
   have:=jb (q:=q) (k:=6) (v:=1) (by lia) (by decide)
   have:=jb (q:=q) (k:=7) (v:=1) (by lia) (by decide)
   show _≤27
   lia
  ·clear hs
   rewrite[if_neg (by lia)];rw[h0]
   have:=jb (q:=q) (k:=7) (v:=2) (by lia) (by decide)
   show _≤97
   lia
  ·clear hs
   rewrite[if_neg (by lia)];rw[h0]
   show _≤335
   lia
 ·clear hs
  have hw:=W.XF B hl
  rewrite[if_neg (by lia)]
  rcases hv' with h0 | h0 | h0 | h0
  ·lia
  ·have hd:=AY (x:=x) W.ok W.num (v:=0) (by lia) (by decide)
   rw[h0]
   have:=jb (q:=q) (k:=6) (v:=1) (by lia) (by decide)
   have:=jb (q:=q) (k:=7) (v:=1) (by lia) (by decide)
   rw[show mN 0=6 from rfl]at hd
   show _≤27
   lia
  ·have hd:=AY (x:=x) W.ok W.num (v:=1) (by lia) (by decide)
   rw[h0]
   have:=jb (q:=q) (k:=7) (v:=2) (by lia) (by decide)
   rw[show mN 1=27 from rfl]at hd
   show _≤97
   lia
  ·have hd:=AY (x:=x) W.ok W.num (v:=2) (by lia) (by decide)
   rw[h0]
   rw[show mN 2=97 from rfl]at hd
   show _≤335
   lia
theorem TA{q l:List Nat}(h:ew q)(hl:l.length≤3):ci q l≤1+3*mN (fH q):=by
 have h1:=EY (f:=cq q) (n:=mN (fH q)) (l:=l) fun x zz=>sV h x
 have h2:l.length*mN (fH q)≤3*mN (fH q):=ahb _ hl
 unfold ci
 split <;> lia
theorem sS{d dt:List (List Nat)}{v:Nat}(ht:2≤dt.length)(h2:d.length≤2)(hv:NI d≤v)(h3:v≤3):fE d dt≤1+2*uN v:=by
 have hq:∀q∈d,uN (fH q)≤uN v:=fun q hq=>Rh (aa4 (tK hq) hv) h3
 clear hv
 refine Kq (P:=fun dt=>fE d dt≤1+2*uN v) (fun a b c=>?_) ht
 refine Rj (P:=fun d=>(∀q∈d,uN (fH q)≤uN v)→fE d (a::b::c)≤1+2*uN v) (fun zz=>acV _) (fun q hq=>?_) (fun q r hq=>?_) h2 hq
 ·have:=hq q (.head _)
  show uN (fH q)≤_
  lia
 ·have h1:=hq q (.head _)
  have h2:=hq r (.tail _ (.head _))
  show 1+(uN (fH q)+(uN (fH r)+0))≤_
  lia
theorem N0{bd:kZ}(B:ru bd){q:List Nat}(h:ew q){dt:List (List Nat)}(ht:dt.length=2)(hl:∀l∈dt,l.length≤3) :
  1+(dt.map (ci q)).sum≤fE [q] dt∧∀d,AW bd q d→1≤fH q→1+(dt.map (ci q)).sum+fE d dt≤fE [q] dt:=by
 have hs:=EY (f:=ci q) (n:=1+3*mN (fH q)) (l:=dt) fun l Ll=>TA h (hl l Ll)
 rw[ht]at hs
 have hc:fE [q] dt=uN (fH q):=by
  exact Kq (P:=fun dt=>fE [q] dt=uN (fH q)) (fun zz zz zz=>rfl) (adT ht.symm)
 rw[hc]
 have hv:=gE q
 have hv':fH q=0∨fH q=1∨fH q=2∨fH q=3:=by lia
 refine⟨?_,fun d W Ll=>?_⟩
 ·rcases hv' with h0 | h0 | h0 | h0
  ·rw[h0]at hs ⊢
   rw[show mN 0=6 from rfl]at hs
   show _≤39
   lia
  ·rw[h0]at hs ⊢
   rw[show mN 1=27 from rfl]at hs
   show _≤244
   lia
  ·rw[h0]at hs ⊢
   rw[show mN 2=97 from rfl]at hs
   show _≤1074
   lia
  ·rw[h0]at hs ⊢
   rw[show mN 3=335 from rfl]at hs
   show _≤4162
   lia
 ·have hw:=W.XF B Ll
  rcases hv' with h0 | h0 | h0 | h0
  ·lia
  ·have hd:=sS (dt:=dt) (by lia) W.num (v:=0) (by lia) (by decide)
   rw[h0]at hs ⊢
   rw[show mN 1=27 from rfl]at hs
   rw[show uN 0=39 from rfl]at hd
   show _≤244
   lia
  ·have hd:=sS (dt:=dt) (by lia) W.num (v:=1) (by lia) (by decide)
   rw[h0]at hs ⊢
   rw[show mN 2=97 from rfl]at hs
   rw[show uN 1=244 from rfl]at hd
   show _≤1074
   lia
  ·have hd:=sS (dt:=dt) (by lia) W.num (v:=2) (by lia) (by decide)
   rw[h0]at hs ⊢
   rw[show mN 3=335 from rfl]at hs
   rw[show uN 2=1074 from rfl]at hd
   show _≤4162
   lia
end Mine
namespace Mine
open PySem
structure pY where
 rel:Nat
 host:Nat
 rules:Nat
 sP:Nat
 yU:Nat
 road:Nat
 A7:Nat
 sM:Nat
 r1:Nat
 r2:Nat
 mode:Nat
 tel:Bool
structure ey where
 jW:Nat
 deep:Nat
 aq:Nat
 tw:PV
 trail:List (Nat×Nat)
 ic:List (Nat×Nat)
 known:List (PV×PV)
noncomputable def ey.lk(σ:ey)(k:Nat):ey:={ σ with aq:=k }
noncomputable def ey.dp(σ:ey)(k:Nat):ey:={ σ with deep:=k }
noncomputable def ey.kn(σ:ey)(k:List (PV×PV)):ey:={ σ with known:=k }
noncomputable def ey.am(σ:ey)(t:List (Nat×Nat)):ey:={ σ with ic:=t }
noncomputable def ey.tl(σ:ey)(t:List (Nat×Nat)):ey:={ σ with trail:=t }
noncomputable def ey.tr(σ:ey)(t:List (Nat×Nat)):ey:={ σ with trail:=t,ic:=t }
noncomputable def ey.at'(σ:ey)(i:Nat):ey:={ σ with jW:=i }
noncomputable def cg(p:Nat×Nat):PV:=.tup [.int p.1,.int p.2]
noncomputable def rJ(p:Nat×Nat):PV×PV:=(cg p,.int 1)
noncomputable def Nl(h:pY)(σ:ey):List (Str×PV):=[(S "host",.ref h.host),(S "mode",.int h.mode),(S "rules",.ref h.rules),(S "assumed",.ref h.sP),(S "known",.ref h.yU),(S "trail",.ref σ.jW),(S "road",.ref h.road),(S "deep",.int σ.deep),(S "looks",.int σ.aq),(S "notes",.ref h.A7),(S "telling",.bool h.tel),(S "twin",σ.tw),(S "missing",.str (S "")),(S "at",.int 0)]
noncomputable def pC(h:pY)(σ:ey):CO:=.inst (S "Rel") (Nl h σ)
noncomputable def tA(c:eN):CO:=.inst (S "BoundHost") [(S "tab",.ref c.tab),(S "deep",.int 0),(S "most_rounds",.int 200),(S "most_deep",.int 40),(S "lib",.none)]
theorem Lp(p:Nat×Nat):fN (cg p)=true:=rfl
theorem Us{a b:Nat×Nat}(e:cg a=cg b):a=b:=by
 unfold cg at e
 injection e with e
 injection e with e1 e
 injection e with e2
 injection e1 with e1
 injection e2 with e2
 exact Prod.ext (ahl e1) (ahl e2)
theorem I1(a b:Nat×Nat):gw (cg a) (cg b)=decide (a=b):=by
 rewrite[acr,lX 6 _ _ (Lp a)];rw[decide_eq_true_eq]
 exact⟨Us,fun e=>e▸rfl⟩
noncomputable def Kk(l:List (PV×PV)):Prop:=∀p∈l,∃a:Nat×Nat,p.1=cg a
theorem kx(a:Nat×Nat):∀{l:List (PV×PV)},Kk l→cy (cg a) l=true
 | [],_=>rfl
 | p::r,h=>by
  obtain⟨b,hb⟩:=h p (.head _)
  have:=kx a (l:=r) fun q hq=>h q (.tail _ hq)
  unfold cy at this ⊢
  rw[ade]at this ⊢
  dsimp only[lU]
  exact⟨this.1,by rw[hb];rw[Lp];rw[this.2];rfl⟩
theorem B9(t:List (Nat×Nat)):Kk (t.map rJ):=fun p hp=>by
 obtain⟨a,zz,rfl⟩:=abi.mp hp
 exact⟨a,rfl⟩
theorem lq(b a:Nat×Nat)(v:PV)(r:List (PV×PV)):br (cg a) ((cg b,v)::r)=if b=a then some v else br (cg a) r:=by
 show(match gw (cg b) (cg a)with | true=>some v | false=>br (cg a) r)=_
 rw[I1]
 by_cases e:b=a
 ·rw[decide_eq_true e];rw[if_pos e];rfl
 ·rw[decide_eq_false e];rw[if_neg e];rfl
theorem lQ(a:Nat×Nat):∀t:List (Nat×Nat),(br (cg a) (t.map rJ)).isSome=decide (a∈t)
 | []=>rfl
 | b::r=>by
  rw[ab6];rewrite[show rJ b=(cg b,.int 1)from rfl];rw[lq]
  by_cases e:b=a
  ·rw[if_pos e];rewrite[decide_eq_true (e▸.head _)];rfl
  ·rw[if_neg e];rw[lQ a r]
   exact decide_eq_decide.mpr ⟨.tail _,fun h=>(aa2.mp h).resolve_left fun h'=>e h'.symm⟩
theorem R9{a:Nat×Nat}{t:List (Nat×Nat)}(h:a∉t):gy (cg a) (.int 1) (t.map rJ)=(t++[a]).map rJ:=by
 have:=lQ a t
 rw[decide_eq_false h,Option.isSome_eq_false_iff,afE]at this
 rw[BD this];rw[adi]
 rfl
theorem BA(a b:Nat×Nat)(r:List (PV×PV)):sW (cg a) (rJ b::r)=if b=a then r else rJ b::sW (cg a) r:=by
 show(match gw (cg b) (cg a)with | true=>r | false=>_)=_
 rw[I1]
 by_cases e:b=a
 ·rw[decide_eq_true e];rw[if_pos e];rfl
 ·rw[decide_eq_false e];rw[if_neg e];rfl
theorem KJ{a:Nat×Nat}:∀{t:List (Nat×Nat)},a∉t→sW (cg a) ((t++[a]).map rJ)=t.map rJ
 | [],_=>(BA a a []).trans (if_pos rfl)
 | b::r,h=>by
  rw[aa2,not_or]at h
  exact(BA a b _).trans ((if_neg fun e=>h.1 e.symm).trans (congrArg _ (KJ h.2)))
theorem Hq{l:List (PV×PV)}(h:Kk l)(a b:Nat×Nat)(v:PV):br (cg b) (gy (cg a) v l)=if a=b then some v else br (cg b) l:=by
 induction l with
 | nil=>exact lq a b v []
 | cons q r ih =>
  obtain⟨k,hk⟩:=h q (.head _)
  obtain⟨zz,w⟩:=q
  obtain rfl:_=cg k:=hk
  have ih:=ih fun x hx=>h x (.tail _ hx)
  dsimp only[gy]
  rw[I1];rw[lq]
  by_cases e:k=a
  ·subst e
   rw[decide_eq_true rfl]
   show br (cg b) ((cg k,v)::r)=_
   rw[lq]
   by_cases e2:k=b
   ·rw[if_pos e2];rw[if_pos e2];rfl
   ·rw[if_neg e2];rw[if_neg e2];rw[if_neg e2];rfl
  ·rw[decide_eq_false e]
   show br (cg b) ((cg k,w)::gy (cg a) v r)=_
   rw[lq];rw[ih]
   by_cases e2:k=b
   ·rw[if_pos e2];rw[if_pos e2];rewrite[if_neg fun e3=>e (e2.trans e3.symm)];rfl
   ·rw[if_neg e2];rw[if_neg e2];rfl
theorem Qg{l:List (PV×PV)}(h:Kk l)(a:Nat×Nat)(v:PV):Kk (gy (cg a) v l):=by
 induction l with
 | nil=>exact fun p hp=>⟨a,by cases aad.mp hp;rfl⟩
 | cons q r ih =>
  have ih:=ih fun x hx=>h x (.tail _ hx)
  dsimp only[gy]
  cases gw q.1 (cg a)with
  | true=>exact fun p hp=>(aa2.mp hp).elim (fun e=>e▸h q (.head _)) fun hp=>h p (.tail _ hp)
  | false=>exact fun p hp=>(aa2.mp hp).elim (fun e=>e▸h q (.head _)) fun hp=>ih p hp
theorem BC(k v:PV):∀l:List (PV×PV),(gy k v l).length≤l.length+1
 | []=>aaX _
 | q::r=>by
  dsimp only[gy]
  cases gw q.1 k with
  | true=>exact adb _
  | false=>exact afw (BC k v r)
structure Ctx where
 c:eN
 h:pY
 bs:List PV
 bd:kZ
 R:Nat
 P:Bool→cj→cj→Prop
noncomputable def SJ(Γ:Ctx)(σ:ey):List ap:=[(Γ.h.rel,pC Γ.h σ),(Γ.h.sP,.dict (σ.ic.map rJ)),(Γ.h.yU,.dict σ.known),(σ.jW,.list (σ.trail.map cg)),(Γ.h.host,tA Γ.c),(Γ.h.rules,.dict [(.int 1,.ref Γ.h.r1),(.int 2,.ref Γ.h.r2)]),
 (Γ.h.r1,.inst (S "RelateMeetRule") []),(Γ.h.r2,.inst (S "ParamRule") []),(Γ.h.A7,.inst (S "Notes") [(S "rows",.ref Γ.h.sM)]),(Γ.h.sM,.list [])]
noncomputable abbrev bp(Γ:Ctx)(rows:List PV)(σ:ey):List ap:=SJ Γ σ++cf Γ.c Γ.bs rows
variable{Γ:Ctx}{rows:List PV}{σ:ey}{α β:Type}{K:List ap}{Q:PV→List ap→Prop}{m:CM α}{a:α}
noncomputable abbrev gr(Γ:Ctx)(rows:List PV)(σ:ey){α:Type}(m:CM α)(a:α):Prop:=Rd (bp Γ rows σ) m a
theorem Rd.Wg(h:Rd (cf Γ.c Γ.bs rows) m a):gr Γ rows σ m a:=fun H r=>h H (r.sub (ab7 ..))
theorem ri{a:Str}{v:PV}(e:look a (Nl Γ.h σ)=some v):gr Γ rows σ (ar (.ref Γ.h.rel) a) v:=Rd.cell (fun H z=>gR z e) 0 rfl
theorem Ni:gr Γ rows σ (ar (.ref Γ.h.rel) (S "known")) (.ref Γ.h.yU):=ri (by kernel_rfl!)
theorem Nh:gr Γ rows σ (ar (.ref Γ.h.rel) (S "assumed")) (.ref Γ.h.sP):=ri (by kernel_rfl!)
theorem HS:gr Γ rows σ (ar (.ref Γ.h.rel) (S "trail")) (.ref σ.jW):=ri (by kernel_rfl!)
theorem Kc:gr Γ rows σ (ar (.ref Γ.h.rel) (S "looks")) (.int σ.aq):=ri (by kernel_rfl!)
theorem PG:gr Γ rows σ (ar (.ref Γ.h.rel) (S "deep")) (.int σ.deep):=ri (by kernel_rfl!)
theorem fI:gr Γ rows σ (ar (.ref Γ.h.rel) (S "mode")) (.int Γ.h.mode):=ri (by kernel_rfl!)
theorem pS:gr Γ rows σ (ar (.ref Γ.h.rel) (S "notes")) (.ref Γ.h.A7):=ri (by kernel_rfl!)
theorem iC:gr Γ rows σ (ar (.ref Γ.h.rel) (S "host")) (.ref Γ.h.host):=ri (by kernel_rfl!)
theorem vn:gr Γ rows σ (ar (.ref Γ.h.rel) (S "rules")) (.ref Γ.h.rules):=ri (by kernel_rfl!)
theorem Kh:gr Γ rows σ (ar (.ref Γ.h.rel) (S "twin")) σ.tw:=ri (by kernel_rfl!)
theorem jQ:gr Γ rows σ (ar (.ref Γ.h.host) (S "tab")) (.ref Γ.c.tab):=Rd.cell (fun H e=>gR e (by kernel_rfl!)) 4 rfl
theorem HR:gr Γ rows σ (ar (.ref Γ.h.A7) (S "rows")) (.ref Γ.h.sM):=Rd.cell (fun H e=>gR e (by kernel_rfl!)) 8 rfl
theorem Kb:gr Γ rows σ (blt .len [.ref Γ.h.sM]) (.int 0):=Rd.cell (fun H e=>len_list e) 9 rfl
theorem VZ:gr Γ rows σ (blt .len [.ref σ.jW]) (.int σ.trail.length):=Rd.cell (fun H e=>by rw[len_list e];rw[aaY];rfl) 3 rfl
theorem Kf{x f:Str}(e:ai.IR (S "Rel") x=some f)(e2:look x (Nl Γ.h σ)=none):gr Γ rows σ (au ai (.ref Γ.h.rel) x) (.fn f):=Rd.cell (fun H z=>eR z e2 e) 0 rfl
theorem Bb:gr Γ rows σ (au ai (.ref Γ.h.rel) (S "mark")) (.fn (S "Rel.mark")):=Kf (by kernel_rfl!) (by kernel_rfl!)
theorem mD:gr Γ rows σ (au ai (.ref Γ.h.rel) (S "ask")) (.fn (S "Rel.ask")):=Kf (by kernel_rfl!) (by kernel_rfl!)
theorem X7:gr Γ rows σ (au ai (.ref Γ.h.rel) (S "back")) (.fn (S "Rel.back")):=Kf (by kernel_rfl!) (by kernel_rfl!)
theorem X8:gr Γ rows σ (au ai (.ref Γ.h.rel) (S "same")) (.fn (S "Rel.same")):=Kf (by kernel_rfl!) (by kernel_rfl!)
theorem V0:gr Γ rows σ (au ai (.ref Γ.h.host) (S "force")) (.fn (S "Thin.force")):=Rd.cell (fun H e=>eR e (by kernel_rfl!) (by kernel_rfl!)) 4 rfl
theorem V1:gr Γ rows σ (au ai (.ref Γ.h.host) (S "shape")) (.fn (S "BoundHost.shape")):=Rd.cell (fun H e=>eR e (by kernel_rfl!) (by kernel_rfl!)) 4 rfl
theorem Kd:gr Γ rows σ (au ai (.ref Γ.h.rules) (S "get")) .KM:=Rd.cell (fun H e=>Cj e) 5 rfl
theorem acn:gr Γ rows σ (au ai (.ref Γ.h.r1) (S "holds")) (.fn (S "RelateMeetRule.holds")):=Rd.cell (fun H e=>eR e (by kernel_rfl!) (by kernel_rfl!)) 6 rfl
theorem aco:gr Γ rows σ (au ai (.ref Γ.h.r2) (S "holds")) (.fn (S "ParamRule.holds")):=Rd.cell (fun H e=>eR e (by kernel_rfl!) (by kernel_rfl!)) 7 rfl
theorem Y1(kk:Kk σ.known)(p:Nat×Nat):gr Γ rows σ (aa (ar (.ref Γ.h.rel) (S "known")) fun x=>ae .In (cg p) x) (br (cg p) σ.known).isSome:=Ni.seq (Rd.cell (fun H e=>in_dict e (kx p kk)) 2 rfl)
theorem acm(p:Nat×Nat):gr Γ rows σ (aa (ar (.ref Γ.h.rel) (S "assumed")) fun x=>ae .In (cg p) x) (decide (p∈σ.ic)):=Nh.seq (Rd.cell (fun H e=>by rw[in_dict e (kx p (B9 _))];rw[lQ];rfl) 1 rfl)
theorem TM{a:Str}{v:PV}{Kr:List ap}(hf:ai.field a=true)(e:(bp Γ rows σ).set 0 (Γ.h.rel,.inst (S "Rel") (vL a v (Nl Γ.h σ)))=Kr):gP (bp Γ rows σ) (ee ai.field (.ref Γ.h.rel) a v) () Kr :=
 (gP.cell (o:=pC Γ.h σ) (fun zz z h=>Q5 z hf (show 14+1<ax by decide +kernel) h) 0 rfl).to e
theorem W7(k:Nat):gP (bp Γ rows σ) (ee ai.field (.ref Γ.h.rel) (S "looks") (.int k)) () (bp Γ rows (σ.lk k)):=TM (by kernel_rfl!) (by kernel_rfl!)
theorem TL(k:Nat):gP (bp Γ rows σ) (ee ai.field (.ref Γ.h.rel) (S "deep") (.int k)) () (bp Γ rows (σ.dp k)):=TM (by kernel_rfl!) (by kernel_rfl!)
theorem YE(kk:Kk σ.known)(m:σ.known.length+1<ax)(p:Nat×Nat)(v:PV):gP (bp Γ rows σ) (setItem (.ref Γ.h.yU) (cg p) v) () (bp Γ rows (σ.kn (gy (cg p) v σ.known))):=gP.cell (fun zz e h=>fL e (kx p kk) m h) 2 rfl
theorem abo{p:Nat×Nat}(hp:p∉σ.ic)(m:σ.ic.length+1<ax):gP (bp Γ rows σ) (setItem (.ref Γ.h.sP) (cg p) (.int 1)) () (bp Γ rows (σ.am (σ.ic++[p]))):=by
 have:=gP.cell (K:=bp Γ rows σ) (m:=setItem (.ref Γ.h.sP) (cg p) (.int 1)) (fun zz e h=>fL e (kx p (B9 _)) (by rw[aaY];exact m) h) 1 rfl
 rw[R9 hp]at this
 exact this
theorem abq{cl:Str→List PV→CM PV}{p:Nat×Nat}(m:σ.trail.length+1<ax):gP (bp Γ rows σ) (aa (ar (.ref Γ.h.rel) (S "trail")) fun x=>aa (au ai x (S "append")) fun f=>aj cl f x [cg p]) .none (bp Γ rows (σ.tl (σ.trail++[p]))):=by
 have e:(σ.trail++[p]).map cg=σ.trail.map cg++[cg p]:=adi
 exact HS.det.seq ((jB (K:=bp Γ rows σ) 3 rfl (by rw[aaY];exact m)).to (by rewrite[← e];rfl))
theorem abp{cl:Str→List PV→CM PV}{p:Nat×Nat}{tr:List (Nat×Nat)}(e:σ.trail=tr++[p]):gP (bp Γ rows σ) (aa (ar (.ref Γ.h.rel) (S "trail")) fun x=>aa (au ai x (S "pop")) fun f=>aj cl f x []) (cg p) (bp Γ rows (σ.tl tr)):=by
 have e:σ.trail.map cg=tr.map cg++[cg p]:=by rw[e];rw[adi];rfl
 exact HS.det.seq ((Rd.cell (fun zz e=>rM e) 3 rfl).det.seq ((gP.cell (o':=.list (tr.map cg)) (fun zz z h=>Ct (by rewrite[← e];exact z) h) 3 rfl)))
theorem YD{p:Nat×Nat}{tr:List (Nat×Nat)}(e:sW (cg p) (σ.ic.map rJ)=tr.map rJ)(hp:p∈σ.ic):gP (bp Γ rows σ) (delItem (.ref Γ.h.sP) (cg p)) () (bp Γ rows (σ.am tr)):=by
 have hs:=lQ p σ.ic
 rw[decide_eq_true hp]at hs
 obtain⟨v,hv⟩:=acW.mp hs
 have:=gP.cell (K:=bp Γ rows σ) (m:=delItem (.ref Γ.h.sP) (cg p)) (fun zz z h=>Im z (kx p (B9 _)) hv h) 1 rfl
 rw[e]at this
 exact this
end Mine
namespace Mine
open PySem
noncomputable def BdR(rows bs:List PV)(bd:kZ):Prop:=∀j,j<3→∃b:Int,bs[j]?=some (.int b)∧((b<0∧bd (5+j)=[[]])∨∃t:Nat,b=t∧t≠0∧Ty rows t (bd (5+j)))
noncomputable def Told(Γ:Ctx)(rows:List PV)(b:Bool)(p:Nat×Nat):Prop:=∃ds dt,Ty rows p.1 ds∧Ty rows p.2 dt∧Γ.P b ds dt
structure Ok(Γ:Ctx)(d:Nat)(rows:List PV)(σ:ey):Prop where
 rw:Rw rows
 S8:BdR rows Γ.bs Γ.bd
 num:rows.length+d≤Γ.R+50*σ.aq
 ea:σ.ic=σ.trail
 nd:σ.trail.Nodup
 kk:Kk σ.known
 tk:∀p∈σ.trail,br (cg p) σ.known=none
 len:σ.known.length+σ.trail.length≤σ.aq
 Tc:∀p v,br (cg p) σ.known=some v→∃b,v=.bool b∧Told Γ rows b p
structure Sp(Γ:Ctx)(d:Nat)(rows:List PV)(σ:ey)(L:Nat)(ah:List PV)(dr:ey):Prop where
 ok:Ok Γ d ah dr
 pre:rows <+: ah
 deep:dr.deep=σ.deep
 tw:dr.tw=σ.tw
 hi:dr.aq≤L
 tr:∃new,dr.trail=σ.trail++new∧∀p∈new,Told Γ ah true p
 tr0:σ.trail=[]→dr.trail=[]
 mono:∀a v,br (cg a) σ.known=some v→br (cg a) dr.known=some v
inductive An (Γ:Ctx) (d:Nat) (rows:List PV) (σ:ey) (L:Nat) (T:Bool→ey→Prop):PV→List ap→Prop
 | mk {r:Bool} {ah:List PV} {dr:ey}:Sp Γ d rows σ L ah dr→T r dr→An Γ d rows σ L T (.bool r) (bp Γ ah dr)
structure GOk(Γ:Ctx):Prop where
 tok:ru Γ.bd
 big:Γ.R≤5000000
variable{Γ:Ctx}{rows:List PV}{σ:ey}{α β:Type}{K:List ap}{Q:PV→List ap→Prop}{m:CM α}{a:α}{d L:Nat}{T:Bool→ey→Prop}{cl:Str→List PV→CM PV}
theorem BdR.pre{ah bs:List PV}{bd:kZ}(p:rows <+: ah)(b:BdR rows bs bd):BdR ah bs bd:=fun j hj=>(b j hj).imp fun zz h=>⟨h.1,h.2.imp_right (by rintro⟨t,a,n,b⟩;exact⟨t,a,n,b.pre p⟩)⟩
theorem Told.pre{ah:List PV}(p:rows <+: ah){b:Bool}{x:Nat×Nat}(t:Told Γ rows b x):Told Γ ah b x:=by
 obtain⟨ds,dt,a,b,c⟩:=t
 exact⟨ds,dt,a.pre p,b.pre p,c⟩
theorem Sp.refl(W:Ok Γ d rows σ)(h:σ.aq≤L):Sp Γ d rows σ L rows σ:=⟨W,abg _,rfl,rfl,h,⟨[],(abF _).symm,(fun zz z=>zM z)⟩,id,fun zz zz e=>e⟩
theorem Sp.trans{aw kF:List PV}{Zb Zc:ey}{adX adt:Nat}(a:Sp Γ adX rows σ adt aw Zb)(b:Sp Γ d aw Zb L kF Zc):Sp Γ d rows σ L kF Zc:=by
 obtain⟨n1,e1,h1⟩:=a.tr
 obtain⟨n2,e2,h2⟩:=b.tr
 exact⟨b.ok,a.pre.trans b.pre,b.deep.trans a.deep,b.tw.trans a.tw,b.hi,⟨n1++n2,by rw[e2];rw[e1];rw[aaW];rfl,fun p hp=>(aa7.mp hp).elim (fun h=>(h1 p h).pre b.pre) (h2 p)⟩,b.tr0 ∘ a.tr0,fun x v e=>b.mono x v (a.mono x v e)⟩
theorem Run.an(C:List ap){m:CM PV}{Q:PV→List ap→Prop}(h:Run (bp Γ rows σ) m (An Γ d rows σ L T))(g:∀{r:Bool} {ah:List PV} {dr:ey},Sp Γ d rows σ L ah dr→T r dr→Q (.bool r) (C++bp Γ ah dr)):Run (C++bp Γ rows σ) m Q :=
 (h.upL C).imp (by rintro _ _ ⟨_,e,q⟩;exact by induction q with | mk s t=>exact e▸g s t)
noncomputable def lG(k:Nat):PV:=.tup [.int 0,.int k]
theorem Ke(n:Nat):gr Γ rows σ (Φ (n+1) (S "Rel.mark") [.ref Γ.h.rel]) (lG σ.trail.length) :=
 Rd.nV (KS ..) (Rd.seq (Rd.seq (Rd.seq (Rd.seq (pS.seq HR) (Rd.ret _)) Kb) (Rd.seq (Rd.seq (Rd.seq (Rd.seq HS (Rd.ret _)) VZ) (Rd.ret _)) (Rd.ret _))) fun zz zz=>rfl)
theorem W8:gP (bp Γ rows σ) (pH (.ref Γ.h.sM) (.int 0)) () (bp Γ rows σ):=gP.cell (o':=.list []) (fun H e h2=>by
 refine(eL e _).trans ?_
 exact rP h2) 9 rfl
theorem Run.whT{test:bg→CM Bool}{turn:bg→(bg→CM PV)→CM PV}{E:bg→CM PV}{ρ:bg}{N:Nat}(h:Rd K (test ρ) true)(g:Run K (turn ρ fun hZ=>fC test turn N hZ E) Q):Run K (fC test turn (N+1) ρ E) Q:=by
 dsimp only[fC]
 exact Run.rd h g
theorem Run.whF{test:bg→CM Bool}{turn:bg→(bg→CM PV)→CM PV}{E:bg→CM PV}{ρ:bg}{N:Nat}(h:Rd K (test ρ) false)(g:Run K (E ρ) Q):Run K (fC test turn (N+1) ρ E) Q:=by
 dsimp only[fC]
 exact Run.rd h g
theorem TI{k:Nat}:gr Γ rows σ (je [some (.ref Γ.h.rel),some (lG k),none]) (decide ((k:Int)<σ.trail.length)) :=
 Rd.nV (C2 ..) (Rd.seq (Rd.seq (Rd.seq HS (Rd.ret _)) VZ) (Rd.seq (fun zz zz=>rfl) fun zz zz=>gt_int ..))
theorem KI{tr:List (Nat×Nat)}:∀{N:Nat} {ext:List (Nat×Nat)} {σ:ey},ext.length<N→σ.trail=tr++ext→σ.ic=σ.trail→σ.trail.Nodup→Q .none (bp Γ rows (σ.tr tr)) →
  Run (bp Γ rows σ) (fC je (me cl) N [some (.ref Γ.h.rel),some (lG tr.length),none] mh) Q
 | 0,_,_,h,_,_,_,_=>absurd h (aff _)
 | N+1,ext,σ,h,e,ea,nd,q=>by
  have t:=TI (Γ:=Γ) (rows:=rows) (σ:=σ) (k:=tr.length)
  rw[e]at t
  rcases List.eq_nil_or_concat ext with rfl | ⟨ex,a,rfl⟩
  ·rw[abF]at t e
   rw[decide_eq_false (Int.lt_irrefl _)]at t
   obtain⟨jW,deep,aq,tw,trail,ic,known⟩:=σ
   obtain rfl:trail=tr:=e
   obtain rfl:ic=trail:=ea
   exact Run.whF t (Run.eq (C3 ..) (Run.ret q))
  ·rw[List.concat_eq_append]at h t e
   rw[aaA,abf]at h
   rw[decide_eq_true (by rw[aaA];rw[aaA];rw[abf];lia)]at t
   have e':σ.trail=(tr++ex)++[a]:=by rw[e];rw[aaW];rfl
   rw[e']at nd
   have nd:=acL.mp nd
   refine Run.whT t (Run.eq (C1 ..) (Run.rd Nh (Run.det (abp e') (Run.det (YD (tr:=tr++ex) (by show sW (cg a) (σ.ic.map rJ)=_;rw[ea];rw[e'];rewrite[KJ fun z=>nd.2.2 a z a (.head _) rfl];rfl) (by show a∈σ.ic;rw[ea];rw[e'];exact aaJ _ (.head _))) (KI (ext:=ex) (by lia) rfl rfl nd.1 q)))))
theorem YC(n:Nat){tr ext:List (Nat×Nat)}(e:σ.trail=tr++ext)(ea:σ.ic=σ.trail)(nd:σ.trail.Nodup)(h:ext.length<100000)(q:Q .none (bp Γ rows (σ.tr tr))) :
  Run (bp Γ rows σ) (Φ (n+1) (S "cut_back") [.ref Γ.h.rel,lG tr.length]) Q :=
 Run.eq (KV ..) (Run.rd (pS.seq HR) (Run.rd (a:=.int 0) (fun zz zz=>rfl) (Run.det W8 (KI (ext:=ext) (by rw[mH];lia) e ea nd q))))
theorem Run.sub{K':List ap}{m:CM PV}(h:K'.Sublist K)(g:Run K' m Q):Run K m Q:=fun F H r l=>g F H (r.sub (h.append_right F)) l
theorem Run.perm{K':List ap}{m:CM PV}(h:K.Perm K')(g:Run K' m Q):Run K m Q:=fun F H r l=>g F H (r.perm (h.append_right F)) l
theorem Run.YS{r:Nat}{l:List PV}{turn:PV→bg→(bg→CM PV)→CM PV}{E:bg→CM PV}{ρ:bg}{m:CM PV}(h:(r,CO.list l)∈K)(e:m=ek (.live r) turn l.length 0 ρ E)(g:Run K (iY r l turn l ρ E) Q):Run K m Q:=by
 unfold iY at g
 rw[ads]at g
 exact Run.eq e g
theorem NX:∀{rm:List (Nat×Nat)} {kn:List (PV×PV)} {a2:Option PV},rm <:+ σ.trail→Kk kn→kn.length+rm.length+1<ax →
  (∀kn',Kk kn'→(∀b,br (cg b) kn'=if b∈rm then some (.bool true)else br (cg b) kn)→kn'.length≤kn.length+rm.length→Run (bp Γ rows ((σ.am []).kn kn')) (lA (.ref Γ.h.rel)) Q) →
  Run (bp Γ rows ((σ.am rm).kn kn)) (iY σ.jW (σ.trail.map cg) iU (rm.map cg) [some (.ref Γ.h.rel),some (.bool true),a2] ig) Q:=by
 intro rm
 induction rm with
 | nil=>exact fun hs kk hn h=>Run.Ce (.tail _ (.tail _ (.tail _ (.head _)))) (Run.eq (rQ ..) (h _ kk (fun b=>rfl) (aaX _)))
 | cons a rm ih =>
  intro kn a2 hs kk hn h
  rw[aaK]at hn
  have hl:=BC (cg a) (.bool true) kn
  refine Run.yh (.tail _ (.tail _ (.tail _ (.head _)))) (show(a::rm).map cg <:+ σ.trail.map cg from hs.map _)<|Run.eq (ub ..)<|Run.rd Nh<|Run.det (YD (tr:=rm) ((BA a a _).trans (if_pos rfl)) (.head _))<|Run.rd (a:=true) (fun zz zz=>rfl)<|Run.yes<|Run.rd Ni<|Run.det (YE (σ:=((σ.am rm).kn kn)) kk (by show kn.length+1<ax;lia) a (.bool true))<|ih (kn:=gy (cg a) (.bool true) kn) ((abT ..).trans hs) (Qg kk a _) (by lia) fun kn' k1 k2 k3=>h kn' k1 (fun b=>?_) (by rw[aaK];lia)
  rw[k2];rewrite[Hq kk]
  by_cases z:a=b
  ·rw[if_pos z];rw[ite_self];rewrite[if_pos (show b∈a::rm from z▸.head _)];rfl
  ·rw[if_neg z]
   by_cases y:b∈rm
   ·rw[if_pos y];rewrite[if_pos (.tail _ y)];rfl
   ·rw[if_neg y];rewrite[if_neg fun e=>(aa2.mp e).elim (fun e=>z e.symm) y];rfl
theorem W3(n:Nat)(ea:σ.ic=σ.trail)(kk:Kk σ.known)(hn:σ.known.length+σ.trail.length+1<ax)
  (q:∀i kn,Kk kn→(∀b,br (cg b) kn=if b∈σ.trail then some (.bool true)else br (cg b) σ.known)→kn.length≤σ.known.length+σ.trail.length→Q .none (bp Γ rows (((σ.tr []).kn kn).at' i))) :
  Run (bp Γ rows σ) (Φ (n+1) (S "close_trail") [.ref Γ.h.rel,.bool true]) Q:=by
 have e:bp Γ rows σ=bp Γ rows ((σ.am σ.trail).kn σ.known):=congrArg (fun t=>bp Γ rows (σ.am t)) ea
 rw[e]
 refine Run.eq (BH ..)<|Run.bh<|Run.rd HS<|Run.of _ (Rd.mem (fun zz=>dh) (.tail _ (.tail _ (.tail _ (.head _))))).det<|Run.rd (Rd.mem (fun zz=>cu) (.tail _ (.tail _ (.tail _ (.head _)))))<|Run.YS (.tail _ (.tail _ (.tail _ (.head _)))) rfl<|NX (acf _) kk hn fun kn k1 k2 k3=>Run.new fun i=>?_
 refine Run.det (gP.up (TM (Kr:=(Γ.h.rel,pC Γ.h (σ.at' i))::(bp Γ rows ((σ.am []).kn kn)).tail) (by kernel_rfl!) (by kernel_rfl!))) ?_
 refine Run.sub (K':=(i,.list [])::([(Γ.h.rel,pC Γ.h (σ.at' i)),(Γ.h.sP,.dict []),(Γ.h.yU,.dict kn)]++(bp Γ rows σ).drop 4)) (((((aev ..).cons_cons _).cons_cons _).cons_cons _).cons_cons _) ?_
 exact Run.perm abj.symm (Run.ret (q i kn k1 k2 k3))
theorem Qc(a b:Nat)(k:PV→CM PV):aug .Add (.int a) (.int b) k=k (.int ((a+b:Nat):Int)):=rfl
theorem WU(a b:Nat)(h:b≤a)(k:PV→CM PV):aug .Sub (.int a) (.int b) k=k (.int ((a-b:Nat):Int)):=by
 show k (PV.int ((a:Int)-b))=_
 rw[Int.natCast_sub h];rfl
noncomputable def NJ(σ:ey)(p:Nat×Nat):ey:=(((σ.lk (σ.aq+1)).am (σ.trail++[p])).tl (σ.trail++[p])).dp (σ.deep+1)
theorem Z5(W:Ok Γ d rows σ){p:Nat×Nat}(n1:p∉σ.trail)(n2:br (cg p) σ.known=none):Ok Γ (d+50) rows (NJ σ p):=by
 refine⟨W.rw,W.S8,?_,rfl,?_,W.kk,fun x hx=>?_,?_,W.Tc⟩
 ·have:=W.num
  show _≤_+50*(σ.aq+1)
  lia
 ·show(σ.trail++[p]).Nodup
  exact acL.mpr ⟨W.nd,acS _ p,fun a ha b hb e=>n1 (aad.mp hb▸e▸ha)⟩
 ·rcases aa7.mp hx with hx | hx
  ·exact W.tk x hx
  ·exact aad.mp hx▸n2
 ·have:=W.len
  show σ.known.length+(σ.trail++[p]).length≤σ.aq+1
  rw[aaA];rw[abf]
  lia
structure KT(Γ:Ctx)(ds dt:cj)(σ:ey)(p:Nat×Nat)(r:Bool)(dr:ey):Prop where
 P9:Γ.P r ds dt
 no:r=false→dr.trail=σ.trail
 root:σ.trail=[]→br (cg p) dr.known=some (.bool r)
variable{aw:List PV}{τ:ey}{s t n:Nat}{ds dt:cj}
theorem Sp.fin{dr:ey}(st:Sp Γ d rows (NJ σ (s,t)) L aw τ)(h1:dr.deep=σ.deep)(h2:dr.tw=τ.tw)(h3:dr.aq=τ.aq)(ea:dr.ic=dr.trail)(nd:dr.trail.Nodup)(kk:Kk dr.known)(tk:∀p∈dr.trail,br (cg p) dr.known=none)(len:dr.known.length+dr.trail.length≤τ.aq)
  (Tc:∀p v,br (cg p) dr.known=some v→∃b,v=.bool b∧Told Γ aw b p) (mono:∀a v,br (cg a) τ.known=some v→br (cg a) dr.known=some v) (tr:∃new,dr.trail=σ.trail++new∧∀p∈new,Told Γ aw true p) (tr0:σ.trail=[]→dr.trail=[]):Sp Γ d rows σ L aw dr :=
 ⟨⟨st.ok.rw,st.ok.S8,h3▸st.ok.num,ea,nd,kk,tk,h3▸len,Tc⟩,st.pre,h1,h2.trans st.tw,h3▸st.hi,tr,tr0,fun a v e=>mono a v (st.mono a v e)⟩
theorem Ki(b:Bool)(e:decide (σ.trail=[])=b){k:Nat}(hk:k=σ.trail.length):Rd K (aa (getItem (lG k) (.int 1)) fun x=>ae .Eq x (.int 0)) b:=fun H zz=>by
 subst hk
 show ae .Eq (.int (σ.trail.length:Int)) (.int 0) H=_
 rw[eq_int];rewrite[← e]
 refine congrArg (fun b=>some (b,H)) ?_
 rewrite[acr,beq_iff_eq];rw[decide_eq_true_eq];rewrite[← agI]
 lia
theorem XB(W:Ok Γ d rows σ)(n1:(s,t)∉σ.trail)(hL:L<20000)(st:Sp Γ d rows (NJ σ (s,t)) L aw τ)(a:Ty rows s ds)(b:Ty rows t dt)(p:Γ.P false ds dt) :
  Run (bp Γ aw (τ.dp σ.deep)) (kB (Φ (n+1)) (.ref Γ.h.rel) (.int s) (.int t) (lG σ.trail.length) (.bool false)) (An Γ d rows σ L (KT Γ ds dt σ (s,t))):=by
 obtain⟨new,en,hn⟩:=st.tr
 have en:τ.trail=σ.trail++((s,t)::new):=en.trans (aaW ..)
 have wk:=st.ok
 have nk:=wk.tk (s,t) (en▸aaJ _ (.head _))
 have hl:=congrArg af4 en
 rw[aaA,aaK]at hl
 have h1:=wk.len
 have h3:=st.hi
 refine Run.bh (YC n en wk.ea wk.nd (by rw[aaK];lia) (Run.gC ?_))
 have m:=YE (Γ:=Γ) (rows:=aw) (σ:=((τ.dp σ.deep).tr σ.trail)) wk.kk (show τ.known.length+1<ax by unfold ax;lia) (s,t) (.bool false)
 have f:=fun x=>Hq wk.kk (s,t) x (.bool false)
 have sp:Sp Γ d rows σ L aw (((τ.dp σ.deep).tr σ.trail).kn (gy (cg (s,t)) (.bool false) τ.known)):=by
  refine st.fin rfl rfl rfl rfl W.nd (Qg wk.kk _ _) (fun x hx=>?_) ?_ (fun x v e=>?_) (fun x v e=>?_) ⟨[],(abF _).symm,(fun zz z=>zM z)⟩ id
  ·exact(f x).trans ((if_neg fun(e:(s,t)=x)=>n1 (e▸hx)).trans (wk.tk x (en▸aap _ hx)))
  ·have:=BC (cg (s,t)) (.bool false) τ.known
   show(gy (cg (s,t)) (.bool false) τ.known).length+σ.trail.length≤_
   lia
  ·have e:br (cg x) (gy (cg (s,t)) (.bool false) τ.known)=some v:=e
   rw[f]at e
   by_cases z:(s,t)=x
   ·rw[if_pos z]at e
    exact⟨false,(aa0 e).symm,z▸⟨ds,dt,a.pre st.pre,b.pre st.pre,p⟩⟩
   ·rw[if_neg z]at e
    exact wk.Tc x v e
  ·exact(f x).trans ((if_neg fun z=>by rw[← z,nk]at e;exact du e).trans e)
 have put:Run (bp Γ aw ((τ.dp σ.deep).tr σ.trail)) (lD (.ref Γ.h.rel) (.int s) (.int t) (.bool false)) (An Γ d rows σ L (KT Γ ds dt σ (s,t))):=Run.rd Ni (Run.det m (Run.ret ⟨sp,p,fun zz=>rfl,fun zz=>(f (s,t)).trans (if_pos rfl)⟩))
 by_cases hz:σ.trail=[]
 ·exact Run.rd ((Ki true (decide_eq_true hz) rfl).seq (Rd.yes (Rd.ret true))) (Run.yes put)
 ·have z:=fun K=>Ki (K:=K) false (decide_eq_false hz) rfl
  have rm:=Rd.seq (f:=fun x=>ae .NotEq x (.int 4)) (fI (Γ:=Γ) (rows:=aw) (σ:=(τ.dp σ.deep).tr σ.trail)) (Rd.ne (Γ.h.mode:Int) 4)
  generalize hm:(!((Γ.h.mode:Int) == 4))=zq;induction zq with
  | true=>exact Run.rd ((z _).seq (Rd.no (Rd.seq (hm▸rm) (Rd.yes (Rd.ret true))))) (Run.yes put)
  | false=>exact Run.rd ((z _).seq (Rd.no (Rd.seq (hm▸rm) (Rd.no (Rd.ret false))))) (Run.no (Run.ret ⟨st.fin rfl rfl rfl rfl W.nd wk.kk (fun x hx=>wk.tk x (en▸aap _ hx)) (by show τ.known.length+σ.trail.length≤_;lia) wk.Tc (fun zz zz e=>e) ⟨[],(abF _).symm,(fun zz z=>zM z)⟩ id,p,fun zz=>rfl,fun e=>absurd e hz⟩))
theorem Up(hL:L<20000)(st:Sp Γ d rows (NJ σ (s,t)) L aw τ)(a:Ty rows s ds)(b:Ty rows t dt)(p:Γ.P true ds dt) :
  Run (bp Γ aw (τ.dp σ.deep)) (kC (Φ (n+1)) (.ref Γ.h.rel) (lG σ.trail.length) (.bool true)) (An Γ d rows σ L (KT Γ ds dt σ (s,t))):=by
 obtain⟨new,en,hn⟩:=st.tr
 have en:τ.trail=σ.trail++((s,t)::new):=en.trans (aaW ..)
 have wk:=st.ok
 have h1:=wk.len
 have h3:=st.hi
 have told:∀x∈(s,t)::new,Told Γ aw true x:=fun x hx=>(aa2.mp hx).elim (fun e=>e▸⟨ds,dt,a.pre st.pre,b.pre st.pre,p⟩) (hn x)
 by_cases hz:σ.trail=[]
 ·refine Run.rd (Ki true (decide_eq_true hz) rfl) (Run.yes ?_)
  rw[hz,afB]at en
  refine Run.bh<|Run.bh<|Run.bh<|Run.bh<|Run.bh<|Run.bh<|Run.bh<|Run.rd pS<|Run.of _ HR.det<|Run.ret<|Run.of _ Kb.det<|Run.rd (a:=true) (fun zz zz=>rfl)<|Run.ret<|Run.ret<|Run.ret<|W3 n wk.ea wk.kk (by show τ.known.length+τ.trail.length+1<ax;unfold ax;lia) fun i kn k1 k2 k3=>Run.gC (Run.ret ⟨st.fin rfl rfl rfl rfl .nil k1 (fun zz z=>zM z) (by have k3:kn.length≤τ.known.length+τ.trail.length:=k3;show kn.length+0≤_;lia) (fun x v e=>?_) (fun x v e=>?_) ⟨[],by rw[hz];rfl,(fun zz z=>zM z)⟩ fun zz=>rfl,p,(fun z=>rr z),fun zz=>(k2 _).trans (if_pos (en▸.head _))⟩)
  ·have e:(if x∈τ.trail then some (.bool true)else br (cg x) τ.known)=some v:=(k2 x).symm.trans e
   by_cases z:x∈τ.trail
   ·rw[if_pos z]at e
    exact⟨true,(aa0 e).symm,told x (en▸z)⟩
   ·rw[if_neg z]at e
    exact wk.Tc x v e
  ·exact(k2 x).trans ((if_neg fun z=>by rw[wk.tk x z]at e;exact du e).trans e)
 ·exact Run.rd (Ki false (decide_eq_false hz) rfl) (Run.no (Run.ret ⟨st.fin (dr:=(τ.dp σ.deep)) rfl rfl rfl wk.ea wk.nd wk.kk wk.tk wk.len wk.Tc (fun zz zz e=>e) ⟨_,en,told⟩ fun e=>absurd e hz,p,(fun z=>rr z),fun e=>absurd e hz⟩))
theorem Rd.ge{a b:Nat}(h:a<b):Rd K (ae .GtE (.int a) (.int b)) false:=fun H zz=>by rw[ge_int];rewrite[decide_eq_false (by lia)];rfl
theorem Uo(G:GOk Γ)(W:Ok Γ d rows σ)(tr:(s,t)∈σ.trail→Γ.P true ds dt)(a:Ty rows s ds)(b:Ty rows t dt)(hd:σ.deep<60)(hk:σ.aq≤L)(hL:L<20000)
  (hb:Ok Γ (d+50) rows (NJ σ (s,t))→Run (bp Γ rows (NJ σ (s,t))) (aa (aa (ar (.ref Γ.h.rel) (S "mode")) fun x34=>ae .Eq x34 (.int 3)) fun b35=>af b35 (Φ (n+1) (S "same_kind") [.ref Γ.h.rel,.int s,.int t]) (Φ (n+1) (S "structured") [.ref Γ.h.rel,.int s,.int t])) (An Γ d rows (NJ σ (s,t)) L fun r zz=>Γ.P r ds dt)) :
  Run (bp Γ rows σ) (Φ (n+2) (S "relbase_kept") [.ref Γ.h.rel,.int s,.int t]) (An Γ d rows σ L (KT Γ ds dt σ (s,t))):=by
 refine Run.eq (mK ..) ?_
 have ik:=Y1 (Γ:=Γ) (rows:=rows) W.kk (s,t)
 generalize hq:br (cg (s,t)) σ.known=zq;induction zq with
 | some v =>
  obtain⟨r,rfl,ds',dt',a',b',pp⟩:=W.Tc (s,t) v hq
  cases a.fn W.rw.base a'
  cases b.fn W.rw.base b'
  rw[hq]at ik
  exact Run.rd ik (Run.yes (Run.rd Ni (Run.of _ (Rd.cell (fun zz e=>lR e (kx (s,t) W.kk) hq) 2 rfl).det ⟨Sp.refl W hk,pp,fun zz=>rfl,fun zz=>hq⟩)))
 | none =>
  rw[hq]at ik
  refine Run.rd ik (Run.no (Run.rd (acm (s,t)) ?_))
  rw[W.ea]
  by_cases kh:(s,t)∈σ.trail
  ·rw[decide_eq_true kh]
   exact Run.yes (Run.ret ⟨Sp.refl W hk,tr kh,(fun z=>rr z),fun h=>by rw[h]at kh;cases kh⟩)
  ·rw[decide_eq_false kh]
   have wl:=W.len
   have ha:σ.ic.length+1<ax:=by rw[W.ea];unfold ax;lia
   have e:bp Γ rows ((((σ.lk (σ.aq+1)).am (σ.ic++[(s,t)])).tl (σ.trail++[(s,t)])).dp (σ.deep+1))=bp Γ rows (NJ σ (s,t)):=by unfold NJ;rw[W.ea];rfl
   refine Run.no<|Run.rd (Rd.seq (Rd.seq Kc (Rd.ge (b:=20000) (by lia))) (Rd.no (Rd.ret false)))<|Run.no<|Run.rd (Rd.seq (Rd.seq PG (Rd.ge (b:=60) hd)) (Rd.no (Rd.seq (Rd.seq Kc (Rd.ge (b:=20000) (by lia))) (Rd.no (Rd.ret false)))))<|Run.no<|Run.rd Kc<|Run.eq (Qc σ.aq 1 _)<|Run.det (W7 _)<|Run.rd (Rd.seq Bb (Ke n))<|Run.rd Nh<|Run.det (abo (σ:=σ.lk (σ.aq+1)) (p:=(s,t)) (by show _∉σ.ic;rw[W.ea];exact kh) ha)<|Run.det (abq (σ:=(σ.lk (σ.aq+1)).am (σ.ic++[(s,t)])) (p:=(s,t)) (by show σ.trail.length+1<ax;unfold ax;lia))<|Run.gC<|Run.rd PG<|Run.eq (Qc σ.deep 1 _)<|Run.det (TL (σ:=((σ.lk (σ.aq+1)).am (σ.ic++[(s,t)])).tl (σ.trail++[(s,t)])) _)<|?_
   show Run (bp Γ rows ((((σ.lk (σ.aq+1)).am (σ.ic++[(s,t)])).tl (σ.trail++[(s,t)])).dp (σ.deep+1))) _ _
   rw[e]
   refine Run.bh (Run.an [] (hb (Z5 W kh hq)) fun{r aw τ} st pp=>Run.rd PG (Run.eq (m':=kD (Φ (n+1)) (.ref Γ.h.rel) (.int s) (.int t) (lG σ.trail.length) (.bool r) (.int σ.deep)) ?_ (Run.det (TL _) (Run.rd (a:=!r) (fun zz zz=>rfl) ?_))))
   ·show aug .Sub (.int (τ.deep:Int)) _ _=_
    rw[st.deep]
    exact WU (σ.deep+1) 1 (adV ..) _
   ·induction r with
    | false=>exact Run.yes (XB W kh hL st a b pp)
    | true=>exact Run.no (Up hL st a b pp)
end Mine
namespace Mine
open PySem
variable{Γ:Ctx}{rows:List PV}{σ:ey}{α β:Type}{K:List ap}{Q:PV→List ap→Prop}{m:CM Bool}{x:CM Bool}{b:Bool}{d L s t n:Nat}{k z:Int}{l:List PV}
theorem Rd.UR(h:Rd K m true):Rd K (aa m fun b=>af b (Mine.ret true) x) true:=Rd.seq h (Rd.ret true)
theorem Rd.tN(h:Rd K m false)(g:Rd K x b):Rd K (aa m fun b=>af b (Mine.ret true) x) b:=Rd.seq h g
theorem Rd.oa(h:Rd K m false):Rd K (aa m fun b=>af b x (Mine.ret false)) false:=Rd.seq h (Rd.ret false)
theorem Rd.Rx(h:Rd K m true)(g:Rd K x b):Rd K (aa m fun b=>af b x (Mine.ret false)) b:=Rd.seq h g
theorem Rd.tf(h:Rd K m b):Rd K (aa m fun b=>af b (Mine.ret true) (Mine.ret false)) b:=Rd.seq h (by cases b <;> exact Rd.ret _)
theorem Rd.gL{a z:Int}(h:(a == z)=b):Rd K (ae .Eq (.int a) (.int z)) b:=h▸Rd.eq a z
theorem Rd.pL{g:String}{l:List Int}(e:G g=.tup (l.map .int))(h:l.contains k=b):Rd K (ae .In (.int k) (G g)) b:=fun H zz=>by rw[e];rw[kj];rw[h];rfl
theorem Rd.k0(hl:l.length<90):Rd K (getItem (.tup (.int k::l)) (.int 0)) (.int k):=fun H zz=>AR _ _ H (by lia)
theorem jl:gr Γ rows σ (ar (.ref Γ.c.tab) (S "rows")) (.ref Γ.c.rws):=Rd.cell (fun H e=>gR e (by kernel_rfl!)) 10 rfl
theorem iD:gr Γ rows σ (aa (aa (ar (.ref Γ.h.rel) (S "host")) fun x3=>ar x3 (S "tab")) fun x4=>ar x4 (S "rows")) (.ref Γ.c.rws):=Rd.seq (Rd.seq iC jQ) jl
theorem eZ{r:PV}(e:rows[t]?=some r):gr Γ rows σ (getItem (.ref Γ.c.rws) (.int t)) r:=Rd.cell (fun zz z=>gh z e) 11 rfl
theorem PH(e:rows[t]?=some (.tup (.int k::l)))(hl:l.length<90):gr Γ rows σ (aa (aa (aa (aa (ar (.ref Γ.h.rel) (S "host")) fun x1=>ar x1 (S "tab")) fun x2=>ar x2 (S "rows")) fun x3=>getItem x3 (.int t)) fun x4=>getItem x4 (.int 0)) (.int k):=Rd.seq (Rd.seq iD (eZ e)) (Rd.k0 hl)
noncomputable def kdm:List Nat→Int
 | []=>1
 | [x]=>kd x
 | _=>7
noncomputable def vw:cj→Int
 | []=>1
 | [l]=>kdm l
 | _=>6
noncomputable def adu(k:Int)(l:List PV):Prop:=[2,3,4,5,8].contains k=false∨∃m z,l=m++[.int z]∧(z == 1)=false
theorem Ty.row(B:Bs rows){t:Nat}{d:cj}(a:Ty rows t d):∃l,rows[t]?=some (.tup (.int (vw d)::l))∧l.length<90∧adu (vw d) l:=by
 obtain _ | ⟨_ | ⟨x,_ | ⟨_,_⟩⟩,_ | ⟨_,_⟩⟩:=d
 ·obtain rfl:t=2:=a
  exact⟨_,B.r2,show 1<90 by decide,.inl rfl⟩
 ·obtain rfl:t=1:=a
  exact⟨_,B.r1,show 1<90 by decide,.inl rfl⟩
 ·obtain⟨zz,zz,zz,e,zz⟩:=a
  exact⟨_,e,show 1<90 by decide,.inl rfl⟩
 ·obtain⟨l,e,h1,h2⟩:=sI x (show Th rows t x from a).1
  exact⟨l,(show Th rows t x from a).2.1.trans (congrArg some e),h1,h2⟩
 ·obtain⟨zz,zz,zz,e,zz⟩:=a
  exact⟨_,e,show 1<90 by decide,.inl rfl⟩
 ·obtain⟨zz,zz,e,zz⟩:=a
  exact⟨_,e,show 1<90 by decide,.inl rfl⟩
 ·obtain⟨zz,zz,zz,e,zz⟩:=a
  exact⟨_,e,show 1<90 by decide,.inl rfl⟩
theorem pT(W:Rw rows){d:cj}(a:Ty rows t d):gr Γ rows σ (Φ (n+4) (S "settled") [.ref Γ.h.host,.int t]) (.int t):=by
 obtain⟨l,e,h1,h2⟩:=a.row W.base
 refine Rd.nV (Oa ..) (Rd.seq (Rd.seq V0 (Rd.nV (m':=oH (.int t)) (E9 ..) (Rd.ret _))) (Rd.seq (Rd.seq (Rd.seq (Rd.seq jQ (Rd.ret _)) (Rd.Wg (Rd.tb W fun zz zz T=>yg (n:=n+2) T e h1))) fun zz zz=>rfl) ?_))
 cases [2,3,4,5].contains (vw d)with
 | false=>exact Rd.no (Rd.ret _)
 | true=>exact Rd.yes (Rd.seq (Rd.seq jQ (Rd.ret _)) (Rd.Wg (Rd.tb W fun zz zz T=>yz (n:=n+1) T e h1 h2)))
noncomputable def E6(s:Nat):Prop:=s=1∨s=2∨s=6∨s=7∨16≤s
theorem E6.no(h:E6 s){z:Nat}(hz:z=0∨z=3∨z=4∨z=5∨z=10∨z=13):((s:Int) == z)=false:=beq_eq_false_iff_ne.mpr fun e=>by
 have e:=Int.ofNat_inj.mp e
 subst e
 rcases hz with rfl | rfl | rfl | rfl | rfl | rfl <;> exact absurd h (by unfold E6;decide)
theorem Ty.A1{t:Nat}{d:cj}(a:Ty rows t d):E6 t:=by
 by_cases z:d=[]
 ·subst z;exact .inr (.inl a)
 ·have:=a.high z;unfold E6;lia
theorem fU{a:Nat}{z:Int}(h:(a:Int)≠z):((a:Int) == z)=false:=beq_eq_false_iff_ne.mpr h
noncomputable def YA(dt:cj):Prop:=dt≠[]∧(∀l∈dt,l≠[])∧P7 dt
theorem YA.high{t:Nat}{dt:cj}(g:YA dt)(a:Ty rows t dt):t=6∨t=7∨16≤t:=by
 rcases a.high g.1 with rfl | h
 ·obtain _ | ⟨l,_ | ⟨_,_⟩⟩:=dt
  ·exact absurd rfl g.1
  ·exact absurd ((show Mt rows 1 l from a).high (g.2.1 l (.head _))) (by decide)
  ·obtain⟨zz,zz,zz,zz,h⟩:=a
   exact absurd h (by decide)
 ·exact h
theorem Ox:∀x,x<10→[1,2,3,4,5].contains (kd x)=decide (x=2∨x=3∨x=4):=by decide +kernel
theorem pN:∀x,x<10→[6,7,10,14,15,16,17,18,19].contains (kd x)=decide (5≤x∧x<8):=by decide +kernel
theorem IJ:∀x,x<10→[10,14,15,16,17,18,19].contains (kd x)=decide (5≤x∧x<8):=by decide +kernel
theorem pO:∀x,x<10→[8,9].contains (kd x)=decide (8≤x):=by decide +kernel
theorem Ww(W:Rw rows)(Hw:Γ.h.mode=1∨Γ.h.mode=4){k x:Nat}(a:Th rows s k)(b:Th rows t x)(hk:k=2∨k=3∨k=4)(hx:x=2∨x=3∨x=4)(qc:k≠x) :
  gr Γ rows σ (Φ (n+3) (S "values_related") [.ref Γ.h.rel,.int s,.int t]) (.int (if k=3∧x=2 then 1 else 0)):=by
 obtain⟨l,e,hl⟩:=a.row
 obtain⟨m,f,hm⟩:=b.row
 obtain⟨k5,k18,k4,k3⟩:=Ow k a.1
 obtain⟨x5,zz,zz,zz⟩:=Ow x b.1
 have wk:=fun H=>H6 (H:=H) (kd k) l (n+1) hl k5
 rw[k18,k4,k3]at wk
 have m2:((Γ.h.mode:Int) == 2)=false:=by rcases Hw with h | h <;> rw[h] <;> rfl
 have t6:((6:Int) == (t:Int))=(x == 2):=by rw[agK];exact b.six W.sL W.base.r6
 have nte:gr Γ rows σ (Φ (n+2) (S "number_to_enum") [.ref Γ.h.rel,.int s,.tup (.int (kd k)::l),.tup (.int (kd x)::m)]) (.int 0):=by
  refine Rd.nV (ta ..) (Rd.seq (a:=true) ?_ (Rd.yes (Rd.ret _)))
  generalize q4:((Γ.h.mode:Int) == 4)=zq;induction zq with
  | true=>exact Rd.UR (Rd.seq fI (Rd.gL q4))
  | false=>exact Rd.tN (Rd.seq fI (Rd.gL q4)) (Rd.tf (Rd.seq (Rd.seq (Rd.nV (rF ..) (Rd.seq (Rd.seq (Rd.k0 hm) (Rd.seq (Rd.gL x5) (Rd.ret _))) (Rd.seq (a:=false) (fun zz zz=>rfl) (Rd.no (Rd.ret _))))) fun zz zz=>rfl) (Rd.ret true)))
 have rest:gr Γ rows σ (ja (Φ (n+2)) (.ref Γ.h.rel) (.int s) (.tup (.int (kd k)::l)) (.tup (.int (kd x)::m))) (.int 0):=Rd.seq (Rd.oa (Rd.seq fI (Rd.gL m2))) (Rd.no (Rd.seq (Rd.oa (Rd.seq (Rd.k0 hl) (Rd.gL k5))) (Rd.no (Rd.seq (Rd.seq (Rd.k0 hl) (Rd.gL k5)) (Rd.no nte)))))
 refine Rd.nV (ti ..) (Rd.seq (Rd.gL (a.ne (z:=4) (by decide))) (Rd.no (Rd.seq (Rd.seq iD (eZ e)) (Rd.seq (Rd.seq iD (eZ f)) ?_))))
 rcases hk with rfl | rfl | rfl
 ·exact Rd.seq (Rd.oa (Rd.seq (fun H zz=>wk H) (Rd.gL (beq_eq_false_iff_ne.mpr (by show(-1:Int)≠t;lia))))) (Rd.no rest)
 ·rcases hx with rfl | rfl | rfl
  ·exact Rd.seq (Rd.Rx (Rd.seq (fun H zz=>wk H) (Rd.gL t6)) (Rd.tf (Rd.seq (fun H zz=>wk H) fun zz zz=>rfl))) (Rd.yes (Rd.ret _))
  ·exact absurd rfl qc
  ·exact Rd.seq (Rd.oa (Rd.seq (fun H zz=>wk H) (Rd.gL t6))) (Rd.no rest)
 ·exact Rd.seq (Rd.oa (Rd.seq (fun H zz=>wk H) (Rd.gL (beq_eq_false_iff_ne.mpr (by show(-1:Int)≠t;lia))))) (Rd.no rest)
end Mine
namespace Mine
open PySem
variable{Γ:Ctx}{rows:List PV}{σ:ey}{α β:Type}{K:List ap}{Q:PV→List ap→Prop}{d L s t n k x:Nat}{a b:Int}{l:List PV}{ds dt:cj}
theorem E6.e(h:E6 s){z:Nat}(hz:z=0∨z=3∨z=4∨z=5∨z=10∨z=13):Rd K (ae .Eq (.int s) (.int (z:Int))) false:=Rd.gL (h.no hz)
theorem E6.tail(fs:E6 s)(ft:E6 t)(t1:t≠1):Rd K (iB (Φ n) (.ref Γ.h.rel) (.int s) (.int t)) (.int k)→Rd K (kE (Φ n) (.ref Γ.h.rel) (.int s) (.int t) false) (.int k):=fun h =>
 Rd.no (Rd.seq (Rd.gL (fU (by lia))) (Rd.no (Rd.seq (fs.e (z:=0) (.inl rfl)) (Rd.no h))))
theorem Ra(fs:E6 s)(ft:E6 t)(s2:s≠2)(t1:t≠1){v:PV}(h:gr Γ rows σ (iB (Φ n) (.ref Γ.h.rel) (.int s) (.int t)) v):gr Γ rows σ (Φ (n+1) (S "tops_related") [.ref Γ.h.rel,.int s,.int t]) v :=
 Rd.nV (mL ..) (Rd.seq (Rd.tN (ft.e (z:=0) (.inl rfl)) (Rd.tN (ft.e (z:=13) (by simp)) (Rd.tN (Rd.gL (fU (by lia))) (Rd.tf (fs.e (z:=13) (by simp)))))) (Rd.no (Rd.seq (Rd.oa (fs.e (z:=0) (.inl rfl))) (Rd.no (Rd.seq (Rd.gL (fU (by lia))) (Rd.no (Rd.seq (fs.e (z:=0) (.inl rfl)) (Rd.no h))))))))
theorem xQ(fs:E6 s)(ft:E6 t)(s1:s≠1)(s2:s≠2)(t1:t≠1)(t2:t≠2):gr Γ rows σ (Φ (n+1) (S "tops_related") [.ref Γ.h.rel,.int s,.int t]) (.int (-1)) :=
 Ra fs ft s2 t1 (Rd.seq (Rd.gL (fU (by lia))) (Rd.no (Rd.seq (Rd.oa (Rd.gL (fU (by lia)))) (Rd.no (Rd.ret _)))))
theorem Kl(ft:E6 t):gr Γ rows σ (Φ (n+2) (S "simple_related") [.ref Γ.h.rel,.int 2,.int t]) (.int 1) :=
 Rd.nV (gQ ..) (Rd.seq (Rd.nV (mL ..) (Rd.seq (Rd.tN (ft.e (z:=0) (.inl rfl)) (Rd.tN (ft.e (z:=13) (by simp)) (Rd.UR (Rd.eq 2 2)))) (Rd.yes (Rd.ret _)))) (Rd.seq (a:=true) (fun zz zz=>rfl) (Rd.yes (Rd.ret _))))
theorem pU{k' l':Nat}{kk kt:Int}{ls lt:List PV}(tn:gr Γ rows σ (Φ (n+1) (S "tops_related") [.ref Γ.h.rel,.int s,.int t]) (.int (-1)))(e:rows[s]?=some (.tup (.int kk::ls)))(hl:ls.length<90)(f:rows[t]?=some (.tup (.int kt::lt)))(hm:lt.length<90){v:PV}
  (h:gr Γ rows σ (gz (Φ (n+1)) (.ref Γ.h.rel) (.int s) (.int t) (.int kk) (.int kt)) v):gr Γ rows σ (Φ (n+2) (S "simple_related") [.ref Γ.h.rel,.int s,.int t]) v :=
 Rd.nV (gQ ..) (Rd.seq tn (Rd.seq (a:=false) (fun zz zz=>rfl) (Rd.no (Rd.seq iD (Rd.seq (Rd.seq (eZ e) (Rd.k0 hl)) (Rd.seq (Rd.seq (eZ f) (Rd.k0 hm)) h))))))
theorem LS{cl:Str→List PV→CM PV}(ho:[6,7,10,14,15,16,17,18,19].contains a=true∨[6,7,10,14,15,16,17,18,19].contains b=true){r s t:PV}:Rd K (gz cl r s t (.int a) (.int b)) (.int (-1)):=by
 refine Rd.seq (a:=true) ?_ (Rd.yes (Rd.ret _))
 generalize q:[6,7,10,14,15,16,17,18,19].contains a=zq;induction zq with
 | true=>exact Rd.UR (Rd.pL rx q)
 | false=>exact Rd.tN (Rd.pL rx q) (Rd.tf (Rd.pL rx (ho.resolve_left fun h=>by rw[q]at h;exact fS h)))
theorem kG(W:Rw rows)(a:Ty rows s ds)(b:Ty rows t dt)(s1:s≠1)(s2:s≠2)(t1:t≠1)(t2:t≠2)(ho:[6,7,10,14,15,16,17,18,19].contains (vw ds)=true∨[6,7,10,14,15,16,17,18,19].contains (vw dt)=true) :
  gr Γ rows σ (Φ (n+2) (S "simple_related") [.ref Γ.h.rel,.int s,.int t]) (.int (-1)):=by
 obtain⟨l,e,hl,zz⟩:=a.row W.base
 obtain⟨m,f,hm,zz⟩:=b.row W.base
 exact pU (k':=0) (l':=0) (xQ a.A1 b.A1 s1 s2 t1 t2) e hl f hm (LS ho)
theorem Th.t11(b:Th rows t x):decide (11∈[t])=false:=decide_eq_false fun h=>by
 have:=b.2.2.1
 have:=aad.mp h
 lia
theorem EX(W:Rw rows)(Hw:Γ.h.mode=1∨Γ.h.mode=4)(b:Th rows t x):gr Γ rows σ (Φ (n+4) (S "simple_related") [.ref Γ.h.rel,.int 1,.int t]) (.int (if 5≤x∧x<8 then -1 else 0)):=by
 obtain⟨m,f,hm⟩:=b.row
 have ft:E6 t:=Ty.A1 (d:=[[x]]) b
 have h6:=b.2.2.1
 have u:gr Γ rows σ (Φ (n+2) (S "unknown_told") [.ref Γ.h.rel,.int t]) (.int (if 5≤x∧x<8 then -1 else 0)):=by
  refine Rd.nV (yO ..) (Rd.seq (Rd.seq (PH f hm) (Rd.pL ei (IJ x b.1))) ?_)
  by_cases p:5≤x∧x<8
  ·rw[decide_eq_true p];rw[if_pos p]
   exact Rd.yes (Rd.ret _)
  ·rw[decide_eq_false p];rw[if_neg p]
   refine Rd.no (Rd.seq (Rd.seq (Rd.seq (Rd.seq iC jQ) (Rd.ret _)) (Rd.Wg (vV W (l:=[x]) b))) (Rd.seq (Rd.seq fI (Rd.eq _ 4)) ?_))
   cases ((Γ.h.mode:Int) == 4)with
   | true=>exact Rd.yes (Rd.ret _)
   | false=>exact Rd.no (Rd.seq (Rd.oa (fun H zz=>b.t11▸BS H 11 [t])) (Rd.no (Rd.ret _)))
 have e:=Ra (Γ:=Γ) (σ:=σ) (n:=n+2) (s:=1) (.inl rfl) ft (by decide) (by lia) (Rd.seq (Rd.eq 1 1) (Rd.yes u))
 by_cases p:5≤x∧x<8
 ·rw[if_pos p]at e ⊢
  exact pU (k':=0) (l':=0) (s:=1) e W.base.r1 (show 1<90 by decide) f hm (LS (.inr ((pN x b.1).trans (decide_eq_true p))))
 ·rw[if_neg p]at e ⊢
  exact Rd.nV (gQ ..) (Rd.seq e (Rd.seq (a:=true) (fun zz zz=>rfl) (Rd.yes (Rd.ret _))))
theorem He(W:Rw rows)(Hw:Γ.h.mode=1∨Γ.h.mode=4)(a:Th rows s k)(b:Th rows t x)(qc:k≠x)(nk:¬(5≤k∧k<8))(nx:¬(5≤x∧x<8)) :
  gr Γ rows σ (Φ (n+4) (S "simple_related") [.ref Γ.h.rel,.int s,.int t]) (.int (if x=2∨x=3∨x=4 then(if k=3∧x=2 then 1 else 0)else -1)):=by
 obtain⟨l,e,hl⟩:=a.row
 obtain⟨m,f,hm⟩:=b.row
 have fa:E6 s:=Ty.A1 (d:=[[k]]) a
 have fb:E6 t:=Ty.A1 (d:=[[x]]) b
 have ha:=a.2.2.1
 have hb:=b.2.2.1
 refine pU (k':=0) (l':=0) (xQ fa fb (by lia) (by lia) (by lia) (by lia)) e hl f hm ?_
 refine Rd.seq (Rd.tN (Rd.pL rx ((pN k a.1).trans (decide_eq_false nk))) (Rd.tf (Rd.pL rx ((pN x b.1).trans (decide_eq_false nx))))) (Rd.no (Rd.seq (fb.e (z:=10) (by simp)) (Rd.no (Rd.seq (Rd.pL jX (Ox x b.1)) ?_))))
 by_cases hx:x=2∨x=3∨x=4
 ·rw[decide_eq_true hx];rw[if_pos hx]
  refine Rd.yes (Rd.seq (Rd.pL jX (Ox k a.1)) ?_)
  by_cases hk:k=2∨k=3∨k=4
  ·rw[decide_eq_true hk]
   exact Rd.yes (Ww W Hw a b hk hx qc)
  ·rw[decide_eq_false hk];rewrite[if_neg (fun z=>hk (.inr (.inl z.1)))]
   exact Rd.no (Rd.ret _)
 ·rw[decide_eq_false hx];rw[if_neg hx]
  exact Rd.no (Rd.seq (Rd.tN (fa.e (z:=4) (by simp)) (Rd.tN (fa.e (z:=5) (by simp)) (Rd.tf (fa.e (z:=3) (by simp))))) (Rd.no (Rd.ret _)))
theorem HV(h:a=7∨b=7):Rd K (Φ (n+1) (S "rule_for") [.int a,.int b]) (.int 1):=by
 refine Rd.nV (xY ..) (Rd.seq (a:=true) ?_ (Rd.yes (Rd.ret _)))
 by_cases q:a=7
 ·exact Rd.UR (Rd.gL (beq_iff_eq.mpr q))
 ·exact Rd.tN (Rd.gL (beq_eq_false_iff_ne.mpr q)) (Rd.tf (Rd.gL (beq_iff_eq.mpr (h.resolve_left q))))
theorem Nr(a7:(a == 7)=false)(b7:(b == 7)=false){v:PV}(h:Rd K (ve (.int a) (.int b)) v):Rd K (Φ (n+1) (S "rule_for") [.int a,.int b]) v :=
 Rd.nV (xY ..) (Rd.seq (Rd.tN (Rd.gL a7) (Rd.tf (Rd.gL b7))) (Rd.no h))
theorem EQ(a7:(a == 7)=false)(b7:(b == 7)=false)(h:[10,14,15,16,17,18,19].contains a=true∨[10,14,15,16,17,18,19].contains b=true):Rd K (Φ (n+1) (S "rule_for") [.int a,.int b]) (.int 2):=by
 refine Nr a7 b7 (Rd.seq (a:=true) ?_ (Rd.yes (Rd.ret _)))
 generalize q:[10,14,15,16,17,18,19].contains a=zq;induction zq with
 | true=>exact Rd.UR (Rd.pL ei q)
 | false=>exact Rd.tN (Rd.pL ei q) (Rd.tf (Rd.pL ei (h.resolve_left fun h=>by rw[q]at h;exact fS h)))
theorem ES(a7:(a == 7)=false)(b7:(b == 7)=false)(a13:(a == 13)=false)(h1:[10,14,15,16,17,18,19].contains a=false)(h2:[10,14,15,16,17,18,19].contains b=false):∃r:Int,(r=4∨r=5)∧∀n K,Rd K (Φ (n+1) (S "rule_for") [.int a,.int b]) (.int r):=by
 have go:=fun{v:PV} (n:Nat) (K:List ap) (h:Rd K (vc (.int a) (.int b)) v)=>Nr (n:=n) a7 b7 (Rd.seq (Rd.tN (Rd.pL ei h1) (Rd.tf (Rd.pL ei h2))) (Rd.no (Rd.seq (Rd.oa (Rd.gL a13)) (Rd.no h))))
 generalize q:([11,12]:List Int).contains a=zq;induction zq with
 | true =>
  generalize q':([11,12]:List Int).contains b=zq;induction zq with
  | true=>exact⟨4,.inl rfl,fun n K=>go n K (Rd.seq (Rd.Rx (Rd.pL Bi q) (Rd.tf (Rd.pL Bi q'))) (Rd.yes (Rd.ret _)))⟩
  | false=>exact⟨5,.inr rfl,fun n K=>go n K (Rd.seq (Rd.Rx (Rd.pL Bi q) (Rd.tf (Rd.pL Bi q'))) (Rd.no (Rd.ret _)))⟩
 | false=>exact⟨5,.inr rfl,fun n K=>go n K (Rd.seq (Rd.oa (Rd.pL Bi q)) (Rd.no (Rd.ret _)))⟩
theorem tx{cl:Str→List PV→CM PV}(z:Int):gr Γ rows σ (aj cl .KM (.ref Γ.h.rules) [.int z]) (if z=1 then .ref Γ.h.r1 else if z=2 then .ref Γ.h.r2 else .none):=Rd.cell (fun H e=>by
 unfold aj
 try unfold iQ
 dsimp only
 rewrite[Cq e]
 show ret ((br (.int z) [(PV.int 1,PV.ref Γ.h.r1),(PV.int 2,PV.ref Γ.h.r2)]).getD .none) H=_
 refine congrArg (fun v=>some (v,H)) ?_
 show((match gw (.int 1) (.int z)with | true=>some (PV.ref Γ.h.r1) | false=>(match gw (.int 2) (.int z)with | true=>some (PV.ref Γ.h.r2) | false=>none)):Option PV).getD .none=_
 rw[A8];rw[A8]
 by_cases h1:z=1
 ·subst h1;rfl
 ·rw[if_neg h1];rewrite[beq_eq_false_iff_ne.mpr (fun e=>h1 e.symm)]
  by_cases h2:z=2
  ·subst h2;rfl
  ·rw[if_neg h2];rewrite[beq_eq_false_iff_ne.mpr (fun e=>h2 e.symm)]
   rfl) 5 rfl
theorem AX{z:Int}(h1:z≠1)(h2:z≠2){s t:PV}:gr Γ rows σ (Φ (n+1) (S "by_rule") [.ref Γ.h.rel,.int z,s,t]) (.bool false):=by
 have g:=tx (Γ:=Γ) (rows:=rows) (σ:=σ) (cl:=Φ n) z
 rw[if_neg h1,if_neg h2]at g
 exact Rd.nV (rE ..) (Rd.seq (Rd.seq vn (Rd.seq Kd g)) (Rd.seq (Rd.seq (a:=false) (fun zz zz=>rfl) (Rd.ret _)) (Rd.seq (a:=false) (fun zz zz=>rfl) (Rd.no (Rd.ret _)))))
theorem Ii{s t:PV}(h:Run (bp Γ rows σ) (Φ n (S "RelateMeetRule.holds") [.ref Γ.h.r1,.ref Γ.h.rel,s,t]) Q):Run (bp Γ rows σ) (Φ (n+1) (S "by_rule") [.ref Γ.h.rel,.int 1,s,t]) Q :=
 Run.eq (rE ..) (Run.rd (Rd.seq vn (Rd.seq Kd (tx 1))) (Run.rd (Rd.seq (a:=true) (fun zz zz=>rfl) (Rd.ret _)) (Run.rd (a:=true) (fun zz zz=>rfl) (Run.yes (Run.rd acn h)))))
theorem oi{s t:PV}(h:Run (bp Γ rows σ) (Φ n (S "ParamRule.holds") [.ref Γ.h.r2,.ref Γ.h.rel,s,t]) Q):Run (bp Γ rows σ) (Φ (n+1) (S "by_rule") [.ref Γ.h.rel,.int 2,s,t]) Q :=
 Run.eq (rE ..) (Run.rd (Rd.seq vn (Rd.seq Kd (tx 2))) (Run.rd (Rd.seq (a:=true) (fun zz zz=>rfl) (Rd.ret _)) (Run.rd (a:=true) (fun zz zz=>rfl) (Run.yes (Run.rd aco h)))))
theorem rL(W:Rw rows)(b:Ty rows t dt)(h:Run (bp Γ rows σ) (Φ n (S (if vw dt=7 then "to_inter" else if vw dt=6 then "by_bounds" else "from_inter")) [.ref Γ.h.rel,.int s,.int t]) Q):Run (bp Γ rows σ) (Φ (n+1) (S "RelateMeetRule.holds") [.ref Γ.h.r1,.ref Γ.h.rel,.int s,.int t]) Q:=by
 obtain⟨m,f,hm,zz⟩:=b.row W.base
 refine Run.eq (li ..) (Run.rd (PH f hm) (Run.rd (Rd.eq _ 7) ?_))
 by_cases h7:vw dt=7
 ·rw[if_pos h7]at h
  rw[h7]
  exact Run.yes h
 ·rw[if_neg h7]at h
  rw[beq_eq_false_iff_ne.mpr h7]
  refine Run.no (Run.rd (Rd.eq _ 6) ?_)
  by_cases h6:vw dt=6
  ·rw[if_pos h6]at h
   rw[h6]
   exact Run.yes h
  ·rw[if_neg h6]at h
   rw[beq_eq_false_iff_ne.mpr h6]
   exact Run.no h
theorem yo(Hw:Γ.h.mode=1∨Γ.h.mode=4){s t:PV}(h:Run (bp Γ rows σ) (Φ n (S "param_related") [.ref Γ.h.rel,s,t]) Q):Run (bp Γ rows σ) (Φ (n+1) (S "ParamRule.holds") [.ref Γ.h.r2,.ref Γ.h.rel,s,t]) Q:=by
 have m3:(!((Γ.h.mode:Int) == 3))=true:=by rcases Hw with h | h <;> rw[h] <;> rfl
 exact Run.eq (jt ..) (Run.rd (Rd.seq fI (Rd.seq (m3▸Rd.ne _ 3) (Rd.ret _))) (Run.rd (a:=true) (fun zz zz=>rfl) (Run.yes h)))
end Mine
namespace Mine
open PySem
variable{Γ:Ctx}{rows:List PV}{σ:ey}{α β:Type}{K:List ap}{Q:PV→List ap→Prop}{d L s t n k x:Nat}{q:List Nat}{ds dt:cj}
structure GM(Γ:Ctx):Prop where
 g:GOk Γ
 mode:Γ.h.mode=1∨Γ.h.mode=4
 P:∀r ds dt,Γ.P r ds dt↔((r=true→ej Γ.bd ds dt)∧(r=false→¬(Good Γ.bd ds dt∧ej Γ.bd ds dt)∧¬(ds=[[3]]∧dt=[[2]])))
structure Form(ds dt:cj):Prop where
 ok:P7 ds
 two:ds.length≤2
 Bd:YA dt
 tw:dt.length≤2
 kind:(∃x,dt=[[x]])∨∀q∈ds,lb q
 short:2≤dt.length→∀l∈dt,l.length≤3
noncomputable def jr(Γ:Ctx)(rows:List PV)(tr:List (Nat×Nat))(m:Nat):Prop:=∀p∈tr,∃ds dt,Ty rows p.1 ds∧Ty rows p.2 dt∧(Γ.P true ds dt∨m<mu ds dt)
structure AT(Γ:Ctx)(ds dt:cj)(σ:ey)(s t:Nat)(r:Bool)(dr:ey):Prop where
 P9:Γ.P r ds dt
 no:r=false→dr.trail=σ.trail
 root:σ.trail=[]→s≠t→(∃q,ds=[q]∧2≤q.length)→br (cg (s,t)) dr.known=some (.bool r)
noncomputable def Zd(Γ:Ctx)(ds dt:cj):Prop:=∀{d:Nat} {rows:List PV} {σ:ey} {s t n L:Nat},8*mu ds dt+21≤n→Ok Γ d rows σ→jr Γ rows σ.trail (mu ds dt)→Ty rows s ds→Ty rows t dt→σ.deep+mu ds dt≤50→σ.aq+fE ds dt≤L→L<20000 →
 Run (bp Γ rows σ) (Φ n (S "Rel.ask") [.ref Γ.h.rel,.int (s:Nat),.int (t:Nat)]) (An Γ d rows σ L (AT Γ ds dt σ s t))
noncomputable def IH(Γ:Ctx)(m:Nat):Prop:=∀ds dt,Form ds dt→mu ds dt<m→Zd Γ ds dt
theorem jr.pre{ah:List PV}(p:rows <+: ah){tr:List (Nat×Nat)}{m:Nat}(t:jr Γ rows tr m):jr Γ ah tr m:=fun x hx=>by
 obtain⟨ds,dt,a,b,c⟩:=t x hx
 exact⟨ds,dt,a.pre p,b.pre p,c⟩
theorem jr.less{tr:List (Nat×Nat)}{m m':Nat}(t:jr Γ rows tr m)(h:m'≤m):jr Γ rows tr m':=fun x hx=>by
 obtain⟨ds,dt,a,b,c⟩:=t x hx
 exact⟨ds,dt,a,b,c.imp_right fun z=>ac6 h z⟩
theorem jr.step{ah:List PV}{dr:ey}{m:Nat}(s:Sp Γ d rows σ L ah dr)(t:jr Γ rows σ.trail m):jr Γ ah dr.trail m:=fun x hx=>by
 obtain⟨new,e,hn⟩:=s.tr
 rw[e]at hx
 rcases aa7.mp hx with hx | hx
 ·exact t.pre s.pre x hx
 ·obtain⟨ds,dt,a,b,c⟩:=hn x hx
  exact⟨ds,dt,a,b,.inl c⟩
theorem Ok.tab{ah:List PV}{e:Nat}(W:Ok Γ (d+e) rows σ)(R:Rw ah)(p:rows <+: ah)(n:ah.length≤rows.length+e):Ok Γ d ah σ :=
 ⟨R,W.S8.pre p,by have:=W.num;lia,W.ea,W.nd,W.kk,W.tk,W.len,fun p' v e=>(W.Tc p' v e).imp fun zz h=>⟨h.1,h.2.pre p⟩⟩
theorem Ok.less{e:Nat}(W:Ok Γ (d+e) rows σ):Ok Γ d rows σ:=W.tab W.rw (abg _) (acR ..)
theorem Sp.less{ah:List PV}{dr:ey}{e L':Nat}(s:Sp Γ (d+e) rows σ L ah dr)(h:L≤L'):Sp Γ d rows σ L' ah dr:=⟨s.ok.less,s.pre,s.deep,s.tw,aa4 s.hi h,s.tr,s.tr0,s.mono⟩
theorem Run.tqg(L:List ap){c:eN}{bs:List PV}{k:Nat}{P:List PV→Nat→Prop}{m:CM PV}(h:Run K m (TQ c bs rows k P))(g:∀{ah:List PV} {v:Nat},Rw ah→rows <+: ah→ah.length≤rows.length+k→P ah v→Q (.int v) (L++cf c bs ah)):Run (L++K) m Q :=
 (h.upL L).imp (by rintro _ _ ⟨_,e,q⟩;exact by induction q with | mk R p n h=>exact e▸g R p n h)
theorem Y0{a:Nat}{v:PV}(e:Γ.bs[a]?=some v):gr Γ rows σ (aa (ar (.ref Γ.c.tab) (S "bounds")) fun x=>getItem x (.int a)) v:=Rd.seq (Rd.cell (fun H e=>gR e (by kernel_rfl!)) 10 rfl) (Rd.cell (fun zz z=>gh z e) 13 rfl)
theorem YY(W:Ok Γ d rows σ){j:Nat}(hj:j<3):∃u:Nat,Ty rows u (Γ.bd (5+j))∧u≠0∧∀n,gr Γ rows σ (Φ (n+1) (S "pid_bound") [.ref Γ.c.tab,.int j]) (.int u):=by
 obtain⟨b,e,⟨hb,e2⟩ | ⟨t,rfl,ht,ty⟩⟩:=W.S8 j hj
 ·exact⟨1,by rw[e2];rfl,by decide,fun n=>Rd.nV (tc ..) (Rd.seq (Y0 e) (Rd.seq (Rd.UR fun zz zz=>by rw[lt_int];rw[decide_eq_true hb];rfl) (Rd.yes (Rd.ret _))))⟩
 ·exact⟨t,ty,ht,fun n=>Rd.nV (tc ..) (Rd.seq (Y0 e) (Rd.seq (Rd.tN (fun zz zz=>by rw[lt_int];rewrite[decide_eq_false (by lia)];rfl) (Rd.tf (Rd.gL (fU (by lia))))) (Rd.no (Rd.ret _))))⟩
theorem HF{k:Nat}(p:kY k):∃j,j<3∧k=5+j∧dy k=.tup [.int 10,.int (j:Nat)]:=by
 obtain rfl | rfl | rfl:k=5∨k=6∨k=7:=by unfold kY at p;lia
 ·exact⟨0,by decide,rfl,rfl⟩
 ·exact⟨1,by decide,rfl,rfl⟩
 ·exact⟨2,by decide,rfl,rfl⟩
theorem KB(W:Ok Γ d rows σ)(a:Th rows t k):∃u:Nat,Ty rows u (rz Γ.bd k)∧∀n,gr Γ rows σ (Φ (n+2) (S "bound_kind") [.ref Γ.h.host,.int t]) (.int u):=by
 by_cases p:kY k
 ·obtain⟨j,hj,rfl,er⟩:=HF p
  obtain⟨u,ty,zz,e⟩:=YY W hj
  exact⟨u,by rw[Br p];exact ty,fun n=>Rd.nV (qN ..) (Rd.seq (Rd.seq (Rd.seq jQ jl) (eZ (a.2.1.trans (congrArg some er)))) (Rd.seq (Rd.seq (Rd.k0 (show 1<90 by decide)) (Rd.eq 10 10)) (Rd.yes (Rd.seq (Rd.seq jQ (Rd.seq (Rd.seq (fun H zz=>Hd _ _ [] H (show 0<90 by decide)) (Rd.ret _)) (Rd.ret _))) (e n)))))⟩
 ·obtain⟨l,e,hl⟩:=a.row
  have q:=(IJ k a.1).trans (decide_eq_false p)
  exact⟨t,by rw[xT p];exact a,fun n=>Rd.nV (qN ..) (Rd.seq (Rd.seq (Rd.seq jQ jl) (eZ e)) (Rd.seq (Rd.seq (Rd.k0 hl) (Rd.gL (beq_eq_false_iff_ne.mpr fun z=>by rw[z]at q;exact absurd q (by decide)))) (Rd.no (Rd.seq (Rd.seq (Rd.k0 hl) (Rd.pL ei q)) (Rd.no (Rd.ret _))))))⟩
open Classical in
theorem vX{bd:kZ}(B:ru bd):∀{q:List Nat},q.Nodup→pr (q.map (rz bd))≤if 5∈q then 2 else 1
 | [],_=>aaX _
 | k::r,nd=>by
  rw[abU]at nd
  have ih:=vX B nd.2
  show max 1 (rz bd k).length*pr (r.map (rz bd))≤_
  by_cases h5:k=5
  ·subst h5
   rw[if_neg nd.1]at ih
   rewrite[if_pos (.head _),Br ⟨by decide,by decide⟩]
   exact afM (Nat.max_le.mpr ⟨by decide,B.two⟩) ih
  ·have hk:max 1 (rz bd k).length=1:=Nat.max_eq_left (by
    by_cases p:kY k
    ·rw[Br p]
     obtain rfl | rfl:k=6∨k=7:=by unfold kY at p;lia
     ·exact B.XT
     ·exact B.XU
    ·rw[xT p];exact aaX _)
   rw[hk];rw[afn]
   refine aa4 ih (adT ?_)
   by_cases z:5∈r
   ·rw[if_pos z];rewrite[if_pos (.tail _ z)];rfl
   ·rw[if_neg z];rewrite[if_neg fun e=>(aa2.mp e).elim (fun e=>h5 e.symm) z];rfl
theorem jo(hk:k<10):P7 [[k]]:=fun q h=>by
 cases aad.mp h
 exact⟨⟨acS _ k,fun x hx=>aad.mp hx▸hk,by rewrite[aad,aad];lia,by rewrite[aad,aad,aad];lia⟩,fun h=>by cases h⟩
theorem Zt{bd:kZ}(B:ru bd)(hk:k<10):P7 (rz bd k)∧rz bd k≠[]:=by
 by_cases p:kY k
 ·rw[Br p];exact B.ok k p
 ·rw[xT p]
  exact⟨jo hk,(fun z=>zC ac2 z rfl)⟩
theorem oh(W:Ok Γ d rows σ):∀{ts q:List Nat},iH rows ts q→∃us:List Nat,KA rows us (q.map (rz Γ.bd))∧∀n,gr Γ rows σ (ed (qU (Φ (n+2)) (.ref Γ.h.rel)) (bi ts)) (bi us)
 | [],[],_=>⟨[],trivial,fun zz=>Rd.ret _⟩
 | t::ts,k::q,⟨a,b⟩=>by
  obtain⟨u,ty,e⟩:=KB W a
  obtain⟨us,ty',e'⟩:=oh W b
  exact⟨u::us,⟨ty,ty'⟩,fun n=>Rd.seq (Rd.seq (Rd.seq (Rd.seq iC (Rd.ret _)) (e n)) (Rd.ret _)) (Rd.seq (e' n) (Rd.ret _))⟩
 | [],_::_,h=>h.elim
 | _::_,[],h=>h.elim
theorem Mt.inter(a:Mt rows s q)(q2:2≤q.length):∃ts,iH rows ts q∧rows[s]?=some (.tup [.int 7,.tup (bi ts)]):=by
 obtain _ | ⟨k1,_ | ⟨k2,q⟩⟩:=q
 ·exact absurd q2 (by decide)
 ·exact absurd q2 (aa3 1)
 ·obtain⟨ts,a,e,zz⟩:=a
  exact⟨ts,a,e⟩
structure BT(Γ:Ctx)(q:List Nat)(dt:cj)(r:Bool):Prop where
 yes:r=true→ej Γ.bd [q] dt
 no:r=false→1≤fH q→(∀l∈dt,∀k∈l,¬(kY k∧k∈q))→¬(Good Γ.bd [q] dt∧ej Γ.bd [q] dt)
theorem aaO(B:ru Γ.bd){w:cj}(ok:ew q)(ix:Tk (q.map (rz Γ.bd)) (q.map (rz Γ.bd)) w):AW Γ.bd q w:=by
 have hpr:pr (q.map (rz Γ.bd))≤2:=aa4 (vX B ok.1) (by split <;> decide)
 refine⟨ix.ok,aa4 ix.len hpr,fun C w=>(ix.yC C w).trans ⟨fun h k hk=>h _ (ae4 hk),fun h e he=>?_⟩,fun q1 h1 x hx=>?_⟩
 ·obtain⟨k,hk,rfl⟩:=abi.mp he
  exact h k hk
 ·obtain⟨e,he,l,h3,h4⟩:=ix.sub q1 h1 x hx
  obtain⟨k,hk,rfl⟩:=abi.mp he
  exact⟨k,hk,l,h3,h4⟩
theorem sR(G:GM Γ)(W:Ok Γ (d+50) rows σ)(tr:jr Γ rows σ.trail (mu [q] dt-1))(a:Mt rows s q)(q2:2≤q.length)(ok:ew q)(b:Ty rows t dt)(F:Form [q] dt)
  (ih:IH Γ (mu [q] dt)) (hd:σ.deep+mu [q] dt≤51) (h0:σ.aq≤L) (hl:∀w,AW Γ.bd q w→1≤fH q→σ.aq+fE w dt≤L) (hL:L<20000) (hn:8*mu [q] dt+14≤n) :
  Run (bp Γ rows σ) (Φ n (S "by_bounds") [.ref Γ.h.rel,.int s,.int t]) (An Γ d rows σ L fun r zz=>BT Γ q dt r):=by
 have B:=G.g.tok
 obtain⟨m,rfl⟩:∃m,n=m+9+1:=⟨n-10,by lia⟩
 obtain⟨ts,a1,er⟩:=a.inter q2
 obtain⟨us,tys,cs⟩:=oh W a1
 have hts:=a1.Wj ok
 have hus:us.length=ts.length:=by rw[tys.len];rw[aaY];rw[a1.len];rfl
 have num:=W.num
 have big:=G.g.big
 refine Run.eq (Ip ..)<|Run.rd (Rd.seq iC jQ)<|Run.bh<|Run.bh<|Run.bh<|Run.bh<|Run.rd (Rd.seq (Rd.seq (Rd.seq jl (eZ er)) fun H zz=>Hd _ _ [] H (show 0<90 by decide)) (Rd.ret _))<|Run.rd (a:=(bi ts).length) (fun zz zz=>rfl)<|Run.rd (Rd.nV (ca _ _) (cs (m+7)))<|Run.mk (by rw[bm];unfold ax;lia) fun i=>Run.ret<|Run.ret<|Run.perm abj.symm<|Run.tqg (SJ Γ σ) (Qv (n:=m+1) W.rw (by unfold ax;lia) tys (fun e he=>?_) (aa4 (vX B ok.1) (by split <;> decide)) (by lia)) fun{ah v} R' p Xp ⟨w,ty,ix⟩=>?_
 ·obtain⟨k,hk,rfl⟩:=abi.mp he
  exact Zt B (ok.2.1 k hk)
 have WA:=aaO B ok ix
 have W2:Ok Γ d ah σ:=W.tab R' p (by lia)
 have rn:Sp Γ d rows σ L ah σ:=⟨W2,p,rfl,rfl,h0,⟨[],(abF _).symm,(fun zz z=>zM z)⟩,id,fun zz zz e=>e⟩
 have tyS:Ty ah s [q]:=Mt.pre p a
 refine Run.rd (Rd.seq (Rd.ne _ _) (Rd.ret _)) ?_
 by_cases h1:fH q=0
 ·have hv:v=s:=by
   rw[ix.ord q ok (ahe fun k hk=>xT (Ci h1 k hk)),aaY,List.take_length]at ty
   exact Mt.inj R'.sL ty tyS
  rw[hv];rw[beq_self_eq_true]
  exact Run.rd (a:=false) (fun zz zz=>rfl) (Run.no (Run.ret ⟨rn,(fun z=>fS z),fun zz h=>absurd h (by lia)⟩))
 ·have h1:1≤fH q:=Nat.pos_of_ne_zero h1
  have hv:v≠s:=fun e=>WA.ne B h1 (Ty.fn R'.base ty (e▸tyS))
  have Qt:=Z8 B WA h1 q2 dt
  rw[fU (show((v:Nat):Int)≠s by lia)]
  refine Run.rd (a:=true) (fun zz zz=>rfl)<|Run.yes<|Run.rd mD<|Run.an [] (ih w dt ⟨WA.ok,WA.num,F.Bd,F.tw,F.kind.imp_right fun h=>WA.abG (h q (.head _)),F.short⟩ Qt (n:=m+9) (by lia) W2 ((tr.pre p).less (adz Qt)) ty (b.pre p) (by lia) (hl w WA h1) hL) fun{r _ _} st pp=>⟨rn.trans st,fun hr C w' i=>?_,fun hr _ hp ⟨g,v'⟩=>?_⟩
  ·exact((G.P _ _ _).mp pp.P9).1 hr C w' (WA.sound w' (bu.mp i))
  ·exact(((G.P _ _ _).mp pp.P9).2 hr).1 ⟨g.WA WA,WA.valid v' hp⟩
end Mine
namespace Mine
open PySem
variable{Γ:Ctx}{rows:List PV}{σ:ey}{α β:Type}{K:List ap}{Q:PV→List ap→Prop}{d L s t n k x:Nat}{q:List Nat}{ds dt:cj}
theorem TK(W:Ok Γ d rows σ)(n:Nat):gP (bp Γ rows σ) (aa (au ai (.ref Γ.h.rel) (S "back")) fun f=>aj (Φ (n+2)) f (.ref Γ.h.rel) [lG σ.trail.length]) .none (bp Γ rows σ):=by
 have e:bp Γ rows (σ.tr σ.trail)=bp Γ rows σ:=congrArg (fun t=>bp Γ rows (σ.am t)) W.ea.symm
 have h:Run (bp Γ rows σ) (aa (au ai (.ref Γ.h.rel) (S "back")) fun f=>aj (Φ (n+2)) f (.ref Γ.h.rel) [lG σ.trail.length]) fun v K=>v=.none∧K=bp Γ rows σ :=
  Run.rd X7 (Run.eq (m':=tQ (Φ (n+1)) (.ref Γ.h.rel) (lG σ.trail.length)) (KP ..) (Run.bh (YC n (ext:=[]) (abF _).symm W.ea W.nd (by decide) (Run.gC (Run.ret ⟨rfl,e⟩)))))
 intro F H r l
 obtain⟨v,K',H',e1,r',l',rfl,rfl⟩:=h F H r l
 exact⟨H',e1,r',l'⟩
theorem LG(W:Ok Γ d rows σ)(hm:Γ.h.mode=1∨Γ.h.mode=4){t:PV}(a:Ty rows s ds)(h:vw ds≠10):Run (bp Γ rows σ) (Φ (n+3) (S "by_rule") [.ref Γ.h.rel,.int 2,.int s,t]) fun v K=>v=.bool false∧K=bp Γ rows σ:=by
 obtain⟨l,e,hl,zz⟩:=a.row W.rw.base
 exact oi (yo hm (Run.eq (lj ..) (Run.rd (Rd.seq iD (eZ e)) (Run.rd (a:=true) (Rd.seq (Rd.k0 hl) (fun H zz=>by rw[ne_int];rw[beq_eq_false_iff_ne.mpr h];rfl)) (Run.yes (Run.ret ⟨rfl,rfl⟩))))))
theorem IP(nd:rows.Nodup){ts q:List Nat}{t x:Nat}(a:iH rows ts q)(b:Th rows t x):t∈ts↔x∈q:=by
 constructor
 ·intro h
  obtain⟨k,h1,h2⟩:=a.mem h
  exact b.fn h2▸h1
 ·intro h
  obtain⟨u,h1,h2⟩:=a.oE h
  exact b.inj nd h2▸h1
theorem Oh(hk:k<10)(F:Form [q] [[x]]):Form [[k]] [[x]]:=⟨jo hk,show 1≤2 by decide,F.Bd,F.tw,.inl ⟨x,rfl⟩,fun h=>absurd h (aa3 1)⟩
theorem H3{bd:kZ}(h:x∈q):ej bd [q] [[x]]:=fun C w s=>bu.mpr (fF.mpr (bu.mp s x h))
theorem S2{bd:kZ}(h:k∈q)(v:ej bd [[k]] [[x]]):ej bd [q] [[x]]:=fun C w s=>v C w (bu.mpr (fF.mpr (bu.mp s k h)))
theorem sU(q:List Nat)(x:Nat):fE [q] [[x]]=cq q x:=vB q x
theorem BT.rq(G:GM Γ){r:Bool}(bt:BT Γ q [[x]] r)(ok:ew q)(q2:2≤q.length)(kh:x∉q)(h3:x=2→3∉q):Γ.P r [q] [[x]]:=by
 refine(G.P _ _ _).mpr ⟨bt.yes,fun hr=>⟨fun⟨g,v⟩=>?_,(by rintro⟨h,_⟩;exact by cases h;exact aa3 1 q2)⟩⟩
 by_cases h0:fH q=0
 ·have:=v (Cl q) (Bx ok h0) (bu.mpr (lN q))
  rw[bu,fF]at this
  exact this.elim kh fun h=>h3 h.1 h.2
 ·exact bt.no hr (Nat.pos_of_ne_zero h0) (fun l hl k hk=>by cases aad.mp hl;cases aad.mp hk;exact fun z=>kh z.2) ⟨g,v⟩
theorem RQ(G:GM Γ){u:Nat}{wa:PV}{sp:PV}(a:Mt rows s q)(q2:2≤q.length)(ok:ew q)(b:Th rows t x)(F:Form [q] [[x]])(ih:IH Γ (mu [q] [[x]]))(hd:σ.deep+mu [q] [[x]]≤51)(kh:x∉q)(hsh:x<8)(hl:σ.aq+cq q x≤L+1)(hL:L<20000)(hn:8*mu [q] [[x]]+14≤n) :
  ∀{vs rm dn:List Nat} {aw:List PV} {τ:ey} {o6:Option PV},Sp Γ (d+50) rows σ (σ.aq+(dn.map fun k=>cq [k] x).sum) aw τ→jr Γ aw τ.trail (mu [q] [[x]]-1)→iH aw vs rm→dn++rm=q→(∀k∈dn,Γ.P false [[k]] [[x]]) →
  Run (bp Γ aw τ) (gH (jE (Φ n)) (bi vs) [some (.ref Γ.h.rel),some (.int s),some (.int t),some (.ref u),some wa,some sp,o6,none,none,none,none,none,none] (jF (Φ n))) (An Γ d rows σ L fun r zz=>Γ.P r [q] [[x]]):=by
 have c1:=(rA G.g.tok ok (x:=x) q2 kh).1
 have c2:=(rA G.g.tok ok (x:=x) q2 kh).2
 intro vs
 induction vs with
 | nil =>
  intro rm dn aw τ o6 st tr hm he hf
  obtain rfl:rm=[]:=aaZ hm.len.symm
  rw[abF]at he
  subst he
  have hi:=st.hi
  have dp:=st.deep
  refine Run.eq (wj ..) (Run.an [] (sR G st.ok tr (a.pre st.pre) q2 ok (show Ty aw t [[x]]from b.pre st.pre) F ih (by lia) (by lia) (fun d wd h1=>by have:=c2 d wd h1;lia) hL hn) fun rn bt=>⟨(st.less (d:=d) (aaX _)).trans rn,bt.rq G ok q2 kh fun e h3=>?_⟩)
  subst e
  exact(((G.P _ _ _).mp (hf 3 h3)).2 rfl).2 ⟨rfl,rfl⟩
 | cons v vs Uh =>
  intro rm dn aw τ o6 st tr hm he hf
  obtain _ | ⟨k,rm⟩:=rm
  ·exact hm.elim
  have hkq:k∈q:=he▸aaJ _ (.head _)
  have ZR:(q.map fun k=>cq [k] x).sum=(dn.map fun k=>cq [k] x).sum+(cq [k] x+(rm.map fun k=>cq [k] x).sum):=by
   rewrite[← he];rw[adi];rw[afc];rw[ab6];rw[aec];rfl
  have Qt:=UI hkq q2 [[x]]
  have hi:=st.hi
  have dp:=st.deep
  have hs:((dn++[k]).map fun k=>cq [k] x).sum=(dn.map fun k=>cq [k] x).sum+cq [k] x:=by rw[adi];rw[afc];rw[agd];rw[agb];rfl
  refine Run.eq (wi ..)<|Run.bh<|Run.bh<|Run.rd mD<|Run.an [] (ih [[k]] [[x]] (Oh (ok.2.1 k hkq) F) Qt (L:=σ.aq+((dn++[k]).map fun k=>cq [k] x).sum) (by lia) st.ok (tr.less (adz Qt)) (show Ty aw v [[k]]from hm.1) (show Ty aw t [[x]]from b.pre st.pre) (by lia) (by rw[sU];lia) (by lia)) fun{r _ _} rn pp=>Run.ret ?_
  have vx:=st.trans rn
  induction r with
  | true=>exact Run.yes (Run.ret ⟨vx.less (by lia),(G.P _ _ _).mpr ⟨fun h=>S2 hkq (((G.P _ _ _).mp pp.P9).1 h),(fun z=>rr z)⟩⟩)
  | false=>exact Run.no (Uh vx (tr.step rn) (iH.pre rn.pre hm.2) (by rw[aaW];exact he) fun k' ZO=>(aa7.mp ZO).elim (hf k') fun ZO=>aad.mp ZO▸pp.P9)
theorem T8(G:GM Γ)(W:Ok Γ (d+50) rows σ)(tr:jr Γ rows σ.trail (mu [q] [[x]]-1))(a:Mt rows s q)(q2:2≤q.length)(ok:ew q)(b:Th rows t x)(F:Form [q] [[x]])
  (ih:IH Γ (mu [q] [[x]])) (hd:σ.deep+mu [q] [[x]]≤51) (hl:σ.aq+cq q x≤L+1) (hL:L<20000) (hn:8*mu [q] [[x]]+15≤n) :
  Run (bp Γ rows σ) (Φ n (S "from_inter") [.ref Γ.h.rel,.int s,.int t]) (An Γ d rows σ L fun r zz=>Γ.P r [q] [[x]]):=by
 have cp:=N1 q x
 obtain⟨m,rfl⟩:∃m,n=m+14+1:=⟨n-15,by lia⟩
 obtain⟨ts,a1,er⟩:=a.inter q2
 refine Run.eq (Fb ..) (Run.rd iD (Run.rd (Rd.seq (eZ er) fun H zz=>Hd _ _ [] H (show 0<90 by decide)) (Run.rd (fun H zz=>BS H t ts) ?_)))
 by_cases kh:x∈q
 ·rw[decide_eq_true ((IP W.rw.sL a1 b).mpr kh)]
  exact Run.yes (Run.ret ⟨Sp.refl W.less (by lia),(G.P _ _ _).mpr ⟨fun zz=>H3 kh,(fun z=>rr z)⟩⟩)
 ·rewrite[decide_eq_false fun z=>kh ((IP W.rw.sL a1 b).mp z)]
  obtain⟨lx,f,hlx⟩:=b.row
  have rf:gr Γ rows σ (aa (getItem (.ref Γ.c.rws) (.int t)) fun x=>getItem x (.int 0)) (.int (kd x)):=Rd.seq (eZ f) (Rd.k0 hlx)
  refine Run.no<|Run.rd (Rd.seq Bb (Ke _))<|Run.bh<|Run.rd (Rd.seq rf (Rd.pL ei (IJ x b.1))) ?_
  have go:Run (bp Γ rows σ) (mP (Φ (m+14)) (.ref Γ.h.rel) (.int s) (.int t) (.ref Γ.c.rws) (.tup (bi ts)) (lG σ.trail.length) false) (An Γ d rows σ L fun r zz=>Γ.P r [q] [[x]]):=by
   refine Run.no<|Run.det (TK W (m+12))<|Run.gC<|Run.rd (Rd.seq rf (Rd.pL nY (pO x b.1))) ?_
   by_cases hsh:8≤x
   ·rw[decide_eq_true hsh]
    exact Run.yes<|Run.rd (Rd.seq (AX (by decide) (by decide)) fun zz zz=>rfl)<|Run.no<|Run.det (TK W (m+12))<|Run.gC<|Run.an [] (sR G W tr a q2 ok (show Ty rows t [[x]]from b) F ih hd (by lia) (fun d wd h1=>by have:=(rA G.g.tok ok q2 kh).2 d wd h1;lia) hL (by lia)) fun st bt=>⟨st,bt.rq G ok q2 kh (by lia)⟩
   ·rw[decide_eq_false hsh]
    exact Run.no<|Run.xR (T:=fun t' n'=>oT (Φ (m+14)) (.ref Γ.h.rel) (.int s) (.int t) (.ref Γ.c.rws) (.tup (bi ts)) (lG σ.trail.length) t' n') rfl<|RQ (dn:=[]) G a q2 ok b F ih hd kh (by lia) hl hL (by lia) (Sp.refl W (aaX _)) tr a1 rfl (fun zz z=>zM z)
  by_cases p:5≤x∧x<8
  ·rw[decide_eq_true p]
   refine Run.yes<|Run.bh<|Run.bh<|Run.imp (LG (n:=m+11) W G.mode (show Ty rows s [q]from a) ?_) ?_
   ·obtain _ | ⟨_,_ | ⟨_,_⟩⟩:=q
    ·exact absurd q2 (by decide)
    ·exact absurd q2 (aa3 1)
    ·exact show(7:Int)≠10 by decide
   ·rintro _ _ ⟨rfl,rfl⟩
    exact Run.ret (Run.no (Run.ret go))
  ·rw[decide_eq_false p]
   exact Run.no (Run.ret go)
end Mine
namespace Mine
open PySem
variable{Γ:Ctx}{rows:List PV}{σ:ey}{α β:Type}{K:List ap}{Q:PV→List ap→Prop}{d L s t n k x y:Nat}{q l:List Nat}{ds dt:cj}
theorem Run.abl{v:PV}{turn:PV→CM (List PV)}:∀{l:List PV} {Q:List PV→List ap→Prop},(∀x∈l,∀{Q:List PV→List ap→Prop},Q [v] K→Run K (turn x) Q)→Q (l.map fun zz=>v) K→Run K (ed turn l) Q
 | [],_,_,q=>Run.ret q
 | x::l,_,h,q=>Run.bh (h x (.head _) (Run.bh (Run.abl (fun y hy=>h y (.tail _ hy)) (Run.ret q))))
theorem Hl(b:Bool):∀l:List PV,bools (l.map fun zz=>.bool b)=some (l.map fun zz=>b)
 | []=>rfl
 | x::l=>by
  show(match bools (l.map fun zz=>.bool b)with | some l=>some (b::l) | none=>none)=_
  rw[Hl b l];rfl
theorem Rv{l:List PV}(h:l≠[]):(l.map fun zz=>false).all id=false:=by
 induction l with
 | nil=>exact absurd rfl h
 | cons x l=>rfl
theorem Rd.all{r:Nat}{l:List PV}{b:List Bool}(h:(r,CO.list l)∈K)(e:bools l=some b):Rd K (blt .all [.ref r]) (.bool (b.all id)):=Rd.mem (fun zz h=>Tq h e) h
theorem Um{x:Str}(q:Q (.bool false) K):Run K (Φ (n+1) (S "is_weak") [gJ x]) Q :=
 Run.eq (N9 ..)<|Run.rd (a:=false) (fun zz zz=>rfl)<|Run.no<|Run.bh<|Run.bh<|Run.rd (a:=.snap [gK x]) (fun zz zz=>rfl)<|Run.rd (a:=1) (fun zz zz=>rfl)<|Run.rd (a:=[.bool false]) (fun zz zz=>rfl)<|Run.mk (by decide +kernel) fun i=>Run.ret<|Run.ofL [_] (Rd.all (b:=[false]) (.head _) rfl).det q
theorem Ye{x:Str}(e:rows[t]?=some (gJ x)):gr Γ rows σ (aa (au ai (.ref Γ.h.host) (S "shape")) fun f=>aj (Φ (n+2)) f (.ref Γ.h.host) [.int t]) (.int t):=by
 refine Rd.seq V1 (Rd.nV (m':=iZ (Φ (n+1)) (.ref Γ.h.host) (.int t)) (rC ..) (Rd.seq (Rd.seq jQ (Rd.ret _)) (Rd.nV (m':=lC (Φ n) (.ref Γ.c.tab) (.int t)) (BJ ..) (Rd.seq (fun H zz=>fJ (n:=40) (by decide) H) (Rd.seq (a:=40) (fun zz zz=>rfl) (Rd.nV (ch _ (bi (adR 0 40)) ..) ?_))))))
 exact Rd.nV (rY ..) (Rd.seq (fun H zz=>(lt_int t 0 H).trans (by rewrite[decide_eq_false (by lia)];rfl)) (Rd.no (Rd.seq (Rd.seq jl (eZ e)) (Rd.seq (a:=true) (fun zz zz=>rfl) (Rd.yes (Rd.ret _))))))
theorem NF(a:Th rows t k)(q:Q (.bool false) (bp Γ rows σ)):Run (bp Γ rows σ) (Φ (n+4) (S "is_weak_kind") [.ref Γ.h.host,.int t]) Q:=by
 obtain⟨l,e,hl⟩:=a.row
 refine Run.eq (mJ ..)<|Run.rd (Rd.seq (Rd.seq jQ jl) (eZ e))<|Run.rd (Rd.seq (Rd.k0 hl) (Rd.gL (beq_eq_false_iff_ne.mpr (ku k).2.1)))<|Run.no<|Run.rd (Rd.seq (Rd.k0 hl) (Rd.seq (Rd.pL nY (pO k a.1)) (Rd.ret _))) ?_
 by_cases h:8≤k
 ·rw[decide_eq_true h]
  have ho:∃x,rows[t]?=some (gJ x):=by
   obtain rfl | rfl:k=8∨k=9:=by have:=a.1;lia
   ·exact⟨_,a.2.1⟩
   ·exact⟨_,a.2.1⟩
  obtain⟨x,eo⟩:=ho
  exact Run.rd (a:=true) (fun zz zz=>rfl)<|Run.yes<|Run.rd (Rd.seq (Rd.seq (Rd.seq jQ jl) (Rd.seq (Ye (n:=n+1) eo) (eZ eo))) (Rd.ret _)) (Um q)
 ·rw[decide_eq_false h]
  exact Run.rd (a:=false) (fun zz zz=>rfl)<|Run.no<|Run.ret q
theorem aaN(a:Mt rows t l)(l2:2≤l.length)(ok:ew l)(q:Q (.bool false) (bp Γ rows σ)):Run (bp Γ rows σ) (Φ (n+6) (S "weak_fault") [.ref Γ.h.host,.int s,.int t]) Q:=by
 obtain⟨ts,a1,er⟩:=a.inter l2
 have hts:=a1.Wj ok
 refine Run.eq (Fk ..)<|Run.bh<|Run.bh<|Run.bh<|Run.bh<|Run.eq (mJ ..)<|Run.rd (Rd.seq (Rd.seq jQ jl) (eZ er))<|Run.rd (Rd.seq (Rd.k0 (show 1<90 by decide)) (Rd.eq 7 7))<|Run.yes<|Run.bh<|Run.bh<|Run.rd (Rd.seq (fun H zz=>Hd _ _ [] H (show 0<90 by decide)) (Rd.ret _))<|Run.rd (a:=(bi ts).length) (fun zz zz=>rfl)<|Run.eq (congrArg (fun m=>aa m fun l=>cw l) (ca _ (bi ts)))<|Run.bh<|Run.abl (v:=.bool false) (fun x hx {Q} q=>?_)<|Run.mk (by rw[aaY];rw[bm];unfold ax;lia) fun i=>Run.ret<|Run.ofL [_] (Rd.all (.head _) (Hl false _)).det ?_
 ·obtain⟨u,hu,rfl⟩:=abi.mp hx
  obtain⟨k,zz,hk⟩:=a1.mem hu
  exact Run.bh (NF (n:=n) hk (Run.ret q))
 ·rewrite[Rv fun e=>by have:=congrArg af4 e;rw[bm,a1.len]at this;rw[this]at l2;cases l2]
  exact Run.ret<|Run.ret<|Run.yes<|Run.ret<|Run.yes<|Run.ret q
theorem Rd.aaa{g:String}{l:List Int}{k:Int}{b:Bool}(e:G g=.tup (l.map .int))(h:l.contains k=b):Rd K (ae .NotIn (.int k) (G g)) (!b):=fun H zz=>by rw[e];rw[OI];rw[h];rfl
theorem IC(hL:lb [k]):kd k=11:=by
 obtain rfl | rfl:k=0∨k=1:=hL.imp (fun h=>(aad.mp h).symm) fun h=>(aad.mp h).symm
 ·rfl
 ·rfl
theorem YX{kk kt:Int}{ls lt:List PV}(e:rows[s]?=some (.tup (.int kk::ls)))(hl:ls.length<90)(f:rows[t]?=some (.tup (.int kt::lt)))(hm:lt.length<90)(ht:[8,9].contains kt=true)(k6:(kk == 6)=false)(kd':[10,14,15,16,17,18,19].contains kk=false){b:Bool}(qc:((s:Int) == t)=false)
  (hb:gr Γ rows σ (aa (ae .Eq (.int kk) (.int 7)) fun b27=>af b27 (aa (aa (aa (getItem (.ref Γ.c.rws) (.int s)) fun x28=>getItem x28 (.int 1)) fun x29=>ae .In (.int t) x29) fun b30=>af b30 (ret true) (ret false)) (ret false)) b)
  (sr:b=false→gr Γ rows σ (Φ (n+2) (S "simple_related") [.ref Γ.h.rel,.int s,.int t]) (.int (-1))):gr Γ rows σ (Φ (n+3) (S "part_holds") [.ref Γ.h.rel,.int s,.int t]) (.bool b):=by
 have g5:=tx (Γ:=Γ) (rows:=rows) (σ:=σ) (cl:=Φ (n+2)) 5
 rw[if_neg (by decide),if_neg (by decide)]at g5
 refine Rd.nV (qO ..)<|Rd.seq iD<|Rd.seq (Rd.seq (eZ e) (Rd.k0 hl))<|Rd.seq (Rd.tN (Rd.seq (Rd.seq (eZ f) (Rd.k0 hm)) (Rd.aaa nY ht)) (Rd.tf (Rd.oa (Rd.gL k6))))<|Rd.no<|Rd.seq (Rd.gL k6)<|Rd.no<|Rd.seq (Rd.pL ei kd')<|Rd.no<|Rd.seq (Rd.tN (Rd.gL qc) (Rd.tf hb)) ?_
 induction b with
 | true=>exact Rd.yes (Rd.ret _)
 | false=>exact Rd.no<|Rd.seq (sr rfl)<|Rd.seq (a:=false) (fun zz zz=>rfl)<|Rd.no<|Rd.seq (Rd.seq vn (Rd.seq Kd g5))<|Rd.seq (Rd.seq (a:=false) (fun zz zz=>rfl) (Rd.ret _))<|Rd.seq (a:=false) (fun zz zz=>rfl)<|Rd.no (Rd.ret _)
theorem vU(W:Rw rows)(a:Mt rows s q)(hL:lb q)(b:Th rows t y)(h8:8≤y):gr Γ rows σ (Φ (n+3) (S "part_holds") [.ref Γ.h.rel,.int s,.int t]) (.bool (decide (y∈q))):=by
 obtain⟨m,f,hm⟩:=b.row
 have ht:=(pO y b.1).trans (decide_eq_true h8)
 have hb:=b.2.2.1
 have fb:E6 t:=Ty.A1 (d:=[[y]]) b
 obtain _ | ⟨k,_ | ⟨k2,q'⟩⟩:=q
 ·exact hL.elim (fun z=>zM z) (fun z=>zM z)
 ·have k11:=IC hL
  obtain⟨l,e,hl⟩:=Th.row a
  rw[k11]at e
  have ha:=(show Th rows s k from a).2.2.1
  have fa:E6 s:=Ty.A1 (d:=[[k]]) a
  have hk:y≠k:=fun e=>by have:=hL;rw[← e]at this;rcases this with h | h <;> have:=aad.mp h <;> lia
  rewrite[show decide (y∈[k])=false from decide_eq_false fun e=>hk (aad.mp e)]
  refine YX e hl f hm ht rfl rfl (by rewrite[Th.beq W.sL a b];exact beq_eq_false_iff_ne.mpr fun e=>hk e.symm) (Rd.oa (Rd.gL rfl)) fun zz=>pU (k':=0) (l':=0) (xQ fa fb (by lia) (by lia) (by lia) (by lia)) e hl f hm ?_
  exact Rd.seq (Rd.tN (Rd.pL rx rfl) (Rd.tf (Rd.pL rx ((pN y b.1).trans (decide_eq_false (by lia)))))) (Rd.no (Rd.seq (fb.e (z:=10) (by simp)) (Rd.no (Rd.seq (Rd.pL jX ((Ox y b.1).trans (decide_eq_false (by lia)))) (Rd.no (Rd.seq (Rd.tN (fa.e (z:=4) (by simp)) (Rd.tN (fa.e (z:=5) (by simp)) (Rd.tf (fa.e (z:=3) (by simp))))) (Rd.no (Rd.ret _))))))))
 ·have a':=a
  obtain⟨ts,a1,er,agM⟩:=a
  have jd:s≠t:=by
   rintro rfl
   have z:=(er.symm.trans f)
   injection z with z
   injection z with z
   injection z with z
   injection z with z
   exact(ku y).2.1 z.symm
  refine YX (kk:=7) er (show 1<90 by decide) f hm ht rfl rfl (fU (by lia)) (Rd.Rx (Rd.eq 7 7) (Rd.tf (Rd.seq (Rd.seq (eZ er) fun H zz=>Hd _ _ [] H (show 0<90 by decide)) fun H zz=>?_))) fun zz=>kG W (ds:=[k::k2::q']) (dt:=[[y]]) a' b (by lia) (by lia) (by lia) (by lia) (.inl rfl)
  rw[BS];rewrite[decide_eq_decide.mpr (IP W.sL a1 b)];rfl
theorem Fp(W:Rw rows)(a:Ty rows s ds)(b:Th rows t y)(h8:¬8≤y)(h:Run (bp Γ rows σ) (Φ n (S "Rel.ask") [.ref Γ.h.rel,.int s,.int t]) Q):Run (bp Γ rows σ) (Φ (n+1) (S "part_holds") [.ref Γ.h.rel,.int s,.int t]) Q:=by
 obtain⟨l,e,hl,zz⟩:=a.row W.base
 obtain⟨m,f,hm⟩:=b.row
 exact Run.eq (qO ..)<|Run.rd iD<|Run.rd (Rd.seq (eZ e) (Rd.k0 hl))<|Run.rd (Rd.UR (Rd.seq (Rd.seq (eZ f) (Rd.k0 hm)) (Rd.aaa nY ((pO y b.1).trans (decide_eq_false h8)))))<|Run.yes<|Run.rd mD h
theorem SV(hy:y<10):YA [[y]]:=⟨(fun z=>zC ac2 z rfl),fun l h=>by cases aad.mp h;exact(fun z=>zC ac2 z rfl),jo hy⟩
theorem T7(hy:y∈l)(hl:l∈dt)(F:Form ds dt):Form ds [[y]]:=⟨F.ok,F.two,SV ((F.Bd.2.2 l hl).1.2.1 y hy),show 1≤2 by decide,.inl ⟨y,rfl⟩,fun h=>absurd h (aa3 1)⟩
theorem Yn(G:GM Γ)(a:Mt rows s q)(hL:lb q)(ok:ew q)(l2:2≤l.length)(F:Form [q] [l])(ih:IH Γ (mu [q] [l]))(hd:σ.deep+mu [q] [l]≤51)(hl:σ.aq+(l.map (cq q)).sum≤L)(yb:L<20000)(hn:8*mu [q] [l]+14≤n) :
  ∀{vs rm dn:List Nat} {aw:List PV} {τ:ey} {o3:Option PV},Sp Γ d rows σ (σ.aq+(dn.map (cq q)).sum) aw τ→jr Γ aw τ.trail (mu [q] [l]-1)→iH aw vs rm→dn++rm=l→(∀y∈dn,ej Γ.bd [q] [[y]]) →
  Run (bp Γ aw τ) (gH (jj (Φ n)) (bi vs) [some (.ref Γ.h.rel),some (.int s),some (.int t),o3,none,none,none,none] jk) (An Γ d rows σ L fun r zz=>Γ.P r [q] [l]):=by
 obtain⟨m,rfl⟩:∃m,n=m+13+1:=⟨n-14,by lia⟩
 intro vs
 induction vs with
 | nil =>
  intro rm dn aw τ o3 st tr hm he hf
  obtain rfl:rm=[]:=aaZ hm.len.symm
  rw[abF]at he
  subst he
  exact Run.eq (Ev ..) (Run.ret ⟨st.less (e:=0) hl,(G.P _ _ _).mpr ⟨fun zz=>H2.mpr hf,(fun z=>rr z)⟩⟩)
 | cons v vs Uh =>
  intro rm dn aw τ o3 st tr hm he hf
  obtain _ | ⟨y,rm⟩:=rm
  ·exact hm.elim
  have hyl:y∈l:=he▸aaJ _ (.head _)
  have ZR:(l.map (cq q)).sum=(dn.map (cq q)).sum+(cq q y+(rm.map (cq q)).sum):=by rewrite[← he];rw[adi];rw[afc];rw[ab6];rw[aec];rfl
  have hi:=st.hi
  have dp:=st.deep
  have hs:((dn++[y]).map (cq q)).sum=(dn.map (cq q)).sum+cq q y:=by rw[adi];rw[afc];rw[agd];rw[agb];rfl
  have next:∀{r:Bool} {kF:List PV} {H9:ey},Sp Γ d aw τ (σ.aq+((dn++[y]).map (cq q)).sum) kF H9→(r=true→ej Γ.bd [q] [[y]])→(r=false→Good Γ.bd [q] [l]→¬ej Γ.bd [q] [[y]]) →
    Run (bp Γ kF H9) (vf (.int v) (fun z3=>gH (jj (Φ (m+13+1))) (bi vs) [some (.ref Γ.h.rel),some (.int s),some (.int t),z3,none,none,none,none] jk) (!r)) (An Γ d rows σ L fun r zz=>Γ.P r [q] [l]):=fun{r kF H9} rn pt pf=>by
   have vx:=st.trans rn
   induction r with
   | true=>exact Run.no (Uh vx (tr.step rn) (iH.pre rn.pre hm.2) (by rw[aaW];exact he) fun z hz=>(aa7.mp hz).elim (hf z) fun hz=>aad.mp hz▸pt rfl)
   | false=>exact Run.yes (Run.ret ⟨vx.less (e:=0) (by lia),(G.P _ _ _).mpr ⟨(fun z=>fS z),fun zz=>⟨(by rintro⟨g,v⟩;exact pf rfl g (H2.mp v y hyl)),fun h=>by cases h.2;exact aa3 1 l2⟩⟩⟩)
  refine Run.eq (Eu ..) (Run.bh (Run.bh (Run.bh ?_)))
  by_cases h8:8≤y
  ·exact Run.of _ (vU (n:=m+11) st.ok.rw (a.pre st.pre) hL hm.1 h8).det (Run.ret (Run.ret (next (Sp.refl st.ok (by lia)) (fun h=>H3 (of_decide_eq_true h)) fun h g=>absurd (g.2.1 l (.head _) l2 y hyl h8 q (.head _)) (of_decide_eq_false h))))
  ·exact Fp (n:=m+13) st.ok.rw (show Ty aw s [q]from a.pre st.pre) hm.1 h8 (Run.an [] (ih [q] [[y]] (T7 hyl (.head _) F) (IT (x:=y) l2 [q]) (by have:=IT (x:=y) l2 [q];lia) st.ok (tr.less (by have:=IT (x:=y) l2 [q];lia)) (show Ty aw s [q]from a.pre st.pre) (show Ty aw v [[y]]from hm.1) (by have:=IT (x:=y) l2 [q];lia) (by rw[sU];lia) (by lia)) fun rn pp=>Run.ret (Run.ret (next rn ((G.P _ _ _).mp pp.P9).1 fun h g v=>(((G.P _ _ _).mp pp.P9).2 h).1 ⟨Good.rq fun q' h'=>by cases aad.mp h';exact hL,v⟩)))
theorem aeI(G:GM Γ)(W:Ok Γ d rows σ)(tr:jr Γ rows σ.trail (mu [q] [l]-1))(a:Mt rows s q)(hL:lb q)(ok:ew q)(b:Mt rows t l)(l2:2≤l.length)(YV:ew l)(F:Form [q] [l])
  (ih:IH Γ (mu [q] [l])) (hd:σ.deep+mu [q] [l]≤51) (hl:σ.aq+(l.map (cq q)).sum≤L) (yb:L<20000) (hn:8*mu [q] [l]+15≤n) :
  Run (bp Γ rows σ) (Φ n (S "to_inter") [.ref Γ.h.rel,.int s,.int t]) (An Γ d rows σ L fun r zz=>Γ.P r [q] [l]):=by
 obtain⟨m,rfl⟩:∃m,n=m+14+1:=⟨n-15,by lia⟩
 obtain⟨ts,b1,er⟩:=b.inter l2
 obtain⟨ls,es,NG,zz⟩:=Ty.row W.rw.base (show Ty rows s [q]from a)
 have m2:(!((Γ.h.mode:Int) == 2))=true:=by rcases G.mode with h | h <;> rw[h] <;> rfl
 have wa:gr Γ rows σ (Φ (m+14) (S "weak_asked") [.ref Γ.h.rel,.int s]) (.bool true):=Rd.nV (Fj ..) (Rd.seq (Rd.seq fI (Rd.seq (m2▸Rd.ne _ 2) (Rd.ret _))) (Rd.seq (a:=true) (fun zz zz=>rfl) (Rd.yes (Rd.ret _))))
 have qd:([10,14,15,16,17,18,19].contains (vw [q]))=false:=by
  obtain _ | ⟨k,_ | ⟨k2,q'⟩⟩:=q
  ·rfl
  ·show List.contains _ (kd k)=false
   rw[IC hL];rfl
  ·rfl
 exact Run.eq (K7 ..)<|Run.bh<|Run.rd (Rd.seq (PH es NG) (Rd.aaa ei qd))<|Run.yes<|Run.rd (a:=true) (Rd.seq wa fun zz zz=>rfl)<|Run.yes<|Run.bh<|Run.bh<|Run.rd (Rd.seq iC (Rd.ret _))<|aaN (n:=m+8) b l2 YV<|Run.ret<|Run.no<|Run.ret<|Run.no<|Run.rd (Rd.seq (Rd.seq (Rd.seq iD (eZ er)) fun H zz=>Hd _ _ [] H (show 0<90 by decide)) (Rd.ret _))<|Run.rd (a:=(bi ts).length) (fun zz zz=>rfl)<|Run.eq (ch ..)<|Yn (dn:=[]) G a hL ok l2 F ih hd hl yb (by lia) (Sp.refl W (aaX _)) tr b1 rfl (fun zz z=>zM z)
end Mine
namespace Mine
open PySem
variable{Γ:Ctx}{rows:List PV}{σ:ey}{α β:Type}{K:List ap}{Q:PV→List ap→Prop}{d L s t n k x y:Nat}{q l ts:List Nat}{ds dt:cj}
theorem Xk(hl:l∈dt)(F:Form [q] dt)(hL:lb q):Form [q] [l] :=
 ⟨F.ok,F.two,⟨(fun z=>zC ac2 z rfl),fun l' h=>aad.mp h▸F.Bd.2.1 l hl,fun l' h=>by
  cases aad.mp h
  exact⟨(F.Bd.2.2 l hl).1,fun e=>absurd e (F.Bd.2.1 l hl)⟩⟩,show 1≤2 by decide,.inr fun q' h=>aad.mp h▸hL,fun h=>absurd h (aa3 1)⟩
structure PT(Γ:Ctx)(q:List Nat)(dt:cj)(r:Bool):Prop where
 yes:r=true→ej Γ.bd [q] dt
 no:r=false→∀l∈dt,¬(Good Γ.bd [q] [l]∧ej Γ.bd [q] [l])
theorem NB{α:Type}(f:α→Nat)(a:List α)(x:α):((a++[x]).map f).sum=(a.map f).sum+f x:=by rw[adi];rw[afc];rw[agd];rw[agb];rfl
theorem Wf{α:Type}(f:α→Nat){a b c:List α}{x:α}(e:a++x::b=c):(c.map f).sum=(a.map f).sum+(f x+(b.map f).sum):=by rewrite[← e];rw[adi];rw[afc];rw[ab6];rw[aec];rfl
theorem SR(G:GM Γ){wa:PV}(d2:2≤dt.length)(a:Mt rows s q)(hL:lb q)(F:Form [q] dt)(ih:IH Γ (mu [q] dt))(hd:σ.deep+mu [q] dt≤51)(hl:σ.aq+(dt.map (ci q)).sum≤L)(yb:L<20000)(hn:8*mu [q] dt+13≤n) :
  ∀{vs:List Nat} {rm dn:cj} {aw:List PV} {τ:ey} {o4 o5:Option PV},Sp Γ d rows σ (σ.aq+(dn.map (ci q)).sum) aw τ→jr Γ aw τ.trail (mu [q] dt-1)→pF aw vs rm→dn++rm=dt→(∀l∈dn,¬(Good Γ.bd [q] [l]∧ej Γ.bd [q] [l])) →
  Run (bp Γ aw τ) (gH (gZ (Φ n)) (bi vs) [some (.ref Γ.h.rel),some (.int s),some wa,some .none,o4,o5,none,none] (hA (Φ n))) (An Γ d rows σ L fun r zz=>PT Γ q dt r):=by
 obtain⟨m,rfl⟩:∃m,n=m+1:=⟨n-1,by lia⟩
 intro vs
 induction vs with
 | nil =>
  intro rm dn aw τ o4 o5 st tr hm he hf
  obtain rfl:rm=[]:=aaZ hm.len.symm
  rw[abF]at he
  subst he
  exact Run.eq (lF ..) (Run.rd (a:=true) (fun zz zz=>rfl) (Run.yes (Run.ret ⟨st.less (e:=0) hl,(fun z=>fS z),fun zz=>hf⟩)))
 | cons v vs Uh =>
  intro rm dn aw τ o4 o5 st tr hm he hf
  obtain _ | ⟨l,rm⟩:=rm
  ·exact hm.elim
  have hld:l∈dt:=he▸aaJ _ (.head _)
  have ZR:=Wf (ci q) he
  have hs:=NB (ci q) dn l
  have hi:=st.hi
  have dp:=st.deep
  have Qt:=ab5 (l:=l) d2 [q]
  refine Run.eq (lE ..)<|Run.rd (Rd.seq Bb (Ke m))<|Run.bh<|Run.bh<|Run.rd mD<|Run.an [] (ih [q] [l] (Xk hld F hL) Qt (L:=σ.aq+((dn++[l]).map (ci q)).sum) (by lia) st.ok (tr.less (adz Qt)) (show Ty aw s [q]from a.pre st.pre) (show Ty aw v [l]from hm.1) (by lia) (by show τ.aq+ci q l≤_;lia) (by lia)) fun{r _ _} rn pp=>Run.ret ?_
  have vx:=st.trans rn
  have pp:=(G.P _ _ _).mp pp.P9
  induction r with
  | true=>exact Run.yes<|Run.rd (a:=true) (Rd.seq (Rd.seq (Rd.seq (Rd.seq pS HR) (Rd.ret _)) Kb) fun zz zz=>rfl)<|Run.yes<|Run.ret ⟨vx.less (e:=0) (by lia),fun zz=>Wv hld (pp.1 rfl),(fun z=>rr z)⟩
  | false=>exact Run.no (Uh vx (tr.step rn) (pF.pre rn.pre hm.2) (by rw[aaW];exact he) fun z hz=>(aa7.mp hz).elim (hf z) fun hz=>aad.mp hz▸(pp.2 rfl).1)
theorem On(hL:lb q):(∃k,q=[k]∧(k=0∨k=1))∨2≤q.length:=by
 obtain _ | ⟨k,_ | ⟨_,_⟩⟩:=q
 ·exact hL.elim (fun z=>zM z) (fun z=>zM z)
 ·exact .inl ⟨k,rfl,hL.imp (fun h=>(aad.mp h).symm) fun h=>(aad.mp h).symm⟩
 ·exact .inr (adV ..)
theorem tG(d2:2≤dt.length):vw dt=6:=by
 obtain _ | ⟨_ | ⟨_,_⟩,_ | ⟨_,_⟩⟩:=dt
 ·exact absurd d2 (by decide)
 ·exact absurd d2 (aa3 1)
 ·rfl
 ·exact absurd d2 (aa3 1)
 ·rfl
theorem gT(q2:2≤q.length):vw [q]=7:=by
 obtain _ | ⟨_,_ | ⟨_,_⟩⟩:=q
 ·exact absurd q2 (by decide)
 ·exact absurd q2 (aa3 1)
 ·rfl
theorem SX(G:GM Γ)(W:Ok Γ (d+50) rows σ)(d2:2≤dt.length)(tr:jr Γ rows σ.trail (mu [q] dt-1))(a:Mt rows s q)(hL:lb q)(ok:ew q)(b:Ty rows t dt)(F:Form [q] dt)
  (ih:IH Γ (mu [q] dt)) (hd:σ.deep+mu [q] dt≤51) (hl:σ.aq+fE [q] dt≤L+1) (yb:L<20000) (hn:8*mu [q] dt+17≤n) :
  Run (bp Γ rows σ) (Φ n (S "to_union") [.ref Γ.h.rel,.int s,.int t]) (An Γ d rows σ L fun r zz=>Γ.P r [q] dt):=by
 obtain⟨m,rfl⟩:∃m,n=m+15+1:=⟨n-16,by lia⟩
 obtain⟨c1,c2⟩:=N0 G.g.tok ok (agz F.tw d2) (F.short d2)
 obtain⟨ts,b1,pe⟩:=lW (c:=Γ.c) (bs:=Γ.bs) W.rw b
 have ndt:¬(([q]:cj)=[[3]]∧dt=[[2]]):=fun h=>by rw[h.2]at d2;exact aa3 1 d2
 refine Run.eq (K8 ..)<|Run.rd (Rd.seq iC jQ)<|Run.rd (Rd.Wg (pe (m+14)))<|Run.bh<|Run.rd (fun H zz=>BS H s ts) ?_
 by_cases kh:s∈ts
 ·rw[decide_eq_true kh]
  obtain⟨l,h1,h2⟩:=b1.oE kh
  obtain rfl:=h2.fn W.rw.base a
  exact Run.yes<|Run.ret<|Run.yes<|Run.ret ⟨Sp.refl W.less (by lia),(G.P _ _ _).mpr ⟨fun zz C w s=>⟨l,h1,bu.mp s⟩,(fun z=>rr z)⟩⟩
 ·rw[decide_eq_false kh]
  refine Run.no<|Run.bh<|Run.bh<|Run.eq (te ..)<|Run.xR (T:=fun t' n'=>jO (Φ (m+14)) (.ref Γ.h.rel) (.int s) (.tup (bi ts)) t' n') rfl<|Run.an [] (SR (dn:=[]) (L:=σ.aq+(dt.map (ci q)).sum) G d2 a hL F ih hd (aaX _) (by lia) (by lia) (Sp.refl W (aaX _)) tr b1 rfl (fun zz z=>zM z)) fun{r kF τ} st pt=>Run.ret ?_
  have hi:=st.hi
  induction r with
  | true=>exact Run.yes<|Run.ret<|Run.yes<|Run.ret ⟨st.less (by lia),(G.P _ _ _).mpr ⟨pt.yes,(fun z=>rr z)⟩⟩
  | false =>
   have pf:=pt.no rfl
   have zero:fH q=0→¬(Good Γ.bd [q] dt∧ej Γ.bd [q] dt):=fun h0 ⟨g,v⟩=>by
    obtain⟨l,hl,i⟩:=v (Cl q) (Bx ok h0) (bu.mpr (lN q))
    refine pf l hl ⟨g.to hl,fun C w sq=>bu.mpr fun x hx=>?_⟩
    rcases i x hx with h | ⟨rfl,h⟩
    ·exact bu.mp sq x h
    ·exact w.1.1 (bu.mp sq 3 h)
   obtain⟨ls,es,NG,zz⟩:=Ty.row st.ok.rw.base (show Ty kF s [q]from a.pre st.pre)
   refine Run.no<|Run.ret<|Run.no<|Run.rd (Rd.seq (Rd.seq jl (eZ es)) (Rd.k0 NG)) ?_
   rcases On hL with ⟨k,rfl,hk⟩ | q2
   ·rewrite[show vw [[k]]=11 from IC hL]
    exact Run.rd (Rd.pL ei rfl)<|Run.no<|Run.rd (Rd.oa (Rd.gL rfl))<|Run.no<|Run.rd (Rd.tN (Rd.gL rfl) (Rd.tf (Rd.pL nY rfl)))<|Run.no<|Run.rd (Rd.seq (Rd.gL rfl) (Rd.ret _))<|Run.rd (a:=false) (fun zz zz=>rfl)<|Run.no<|Run.ret ⟨st.less (by lia),(G.P _ _ _).mpr ⟨(fun z=>fS z),fun zz=>⟨zero (by rcases hk with rfl | rfl <;> rfl),ndt⟩⟩⟩
   ·rw[gT q2]
    have dp:=st.deep
    refine Run.rd (Rd.pL ei rfl)<|Run.no<|Run.bh<|Run.rd (Rd.gL rfl)<|Run.yes<|Run.bh<|Run.bh<|Ii (rL st.ok.rw (b.pre st.pre) ?_)
    rw[tG d2]
    refine Run.an [] (sR G st.ok (tr.step st) (a.pre st.pre) q2 ok (b.pre st.pre) F ih (by lia) (by lia) (fun w wd h1=>by have:=c2 w wd h1;lia) yb (n:=m+13) (by lia)) fun{r _ _} rn bt=>Run.ret ?_
    have vx:=(st.less (d:=d) (aaX _)).trans rn
    induction r with
    | true=>exact Run.yes<|Run.ret<|Run.yes<|Run.ret ⟨vx,(G.P _ _ _).mpr ⟨bt.yes,(fun z=>rr z)⟩⟩
    | false =>
     refine Run.no<|Run.ret<|Run.no<|Run.rd (Rd.UR (Rd.gL rfl))<|Run.yes<|Run.of _ (AX (n:=m+14) (by decide) (by decide)).det ⟨vx,(G.P _ _ _).mpr ⟨(fun z=>fS z),fun zz=>⟨fun⟨g,v⟩=>?_,ndt⟩⟩⟩
     by_cases h0:fH q=0
     ·exact zero h0 ⟨g,v⟩
     ·rcases g.2.2 with h | h | h
      ·lia
      ·exact bt.no rfl (by lia) (fun l hl k hk z=>h l hl k hk z.1) ⟨g,v⟩
      ·obtain⟨l,hl,v'⟩:=P3 G.g.tok h F.Bd.1 v
       exact pf l hl ⟨g.to hl,v'⟩
theorem RO(h:q∈ds)(F:Form ds dt):Form [q] dt :=
 ⟨fun q' h'=>by
  cases aad.mp h'
  exact⟨(F.ok q h).1,fun e=>by rw[e];rfl⟩,show 1≤2 by decide,F.Bd,F.tw,F.kind.imp_right fun f q' h'=>aad.mp h'▸f q h,F.short⟩
theorem Bz(h:2≤ds.length)(h0:dt≠[]):fE ds dt=1+(ds.map fun q=>fE [q] dt).sum:=by
 obtain _ | ⟨_,_ | ⟨_,_⟩⟩:=ds
 ·exact absurd h (by decide)
 ·exact absurd h (aa3 1)
 ·obtain _ | ⟨_,_ | ⟨_,_⟩⟩:=dt
  ·exact absurd rfl h0
  ·rfl
  ·rfl
theorem Rd.neI{a z:Int}{b:Bool}(h:(!(a == z))=b):Rd K (ae .NotEq (.int a) (.int z)) b:=h▸Rd.ne a z
theorem Oi(G:GM Γ)(d2:2≤ds.length)(b:Ty rows t dt)(F:Form ds dt)(ih:IH Γ (mu ds dt))(hd:σ.deep+mu ds dt≤51)(hl:σ.aq+(ds.map fun q=>fE [q] dt).sum≤L)(yb:L<20000)(hn:8*mu ds dt+13≤n) :
  ∀{vs:List Nat} {rm dn:cj} {aw:List PV} {τ:ey} {o3:Option PV},Sp Γ d rows σ (σ.aq+(dn.map fun q=>fE [q] dt).sum) aw τ→jr Γ aw τ.trail (mu ds dt-1)→pF aw vs rm→dn++rm=ds→(∀q∈dn,ej Γ.bd [q] dt) →
  Run (bp Γ aw τ) (gH (jG (Φ n)) (bi vs) [some (.ref Γ.h.rel),some (.int s),some (.int t),o3,none,none] jH) (An Γ d rows σ L fun r zz=>Γ.P r ds dt):=by
 have m2:((Γ.h.mode:Int) == 2)=false:=by rcases G.mode with h | h <;> rw[h] <;> rfl
 have n2:(!((Γ.h.mode:Int) == 2))=true:=by rw[m2];rfl
 intro vs
 induction vs with
 | nil =>
  intro rm dn aw τ o3 st tr hm he hf
  obtain rfl:rm=[]:=aaZ hm.len.symm
  rw[abF]at he
  subst he
  exact Run.eq (wn ..) (Run.rd fI (Run.rd (Rd.neI n2) (Run.ret ⟨st.less (e:=0) hl,(G.P _ _ _).mpr ⟨fun zz=>S1 hf,(fun z=>rr z)⟩⟩)))
 | cons v vs Uh =>
  intro rm dn aw τ o3 st tr hm he hf
  obtain _ | ⟨q,rm⟩:=rm
  ·exact hm.elim
  have hqd:q∈ds:=he▸aaJ _ (.head _)
  have ZR:=Wf (fun q=>fE [q] dt) he
  have hs:=NB (fun q=>fE [q] dt) dn q
  have hi:=st.hi
  have dp:=st.deep
  have Qt:=XJ (dt:=dt) hqd d2
  refine Run.eq (wm ..)<|Run.bh<|Run.bh<|Run.rd mD<|Run.an [] (ih [q] dt (RO hqd F) Qt (L:=σ.aq+((dn++[q]).map fun q=>fE [q] dt).sum) (by lia) st.ok (tr.less (adz Qt)) (show Ty aw v [q]from hm.1) (b.pre st.pre) (by lia) (by lia) (by lia)) fun{r _ _} rn pp=>Run.ret ?_
  have vx:=st.trans rn
  have pp:=(G.P _ _ _).mp pp.P9
  induction r with
  | false=>exact Run.no<|Run.rd (Rd.seq fI (Rd.neI n2))<|Run.yes<|Run.ret ⟨vx.less (e:=0) (by lia),(G.P _ _ _).mpr ⟨(fun z=>fS z),fun zz=>⟨(by rintro⟨g,v⟩;exact(pp.2 rfl).1 ⟨g.part hqd,P1 hqd v⟩),fun h=>by rw[h.1]at d2;exact aa3 1 d2⟩⟩⟩
  | true=>exact Run.yes<|Run.rd (Rd.seq fI (Rd.gL m2))<|Run.no (Uh vx (tr.step rn) (pF.pre rn.pre hm.2) (by rw[aaW];exact he) fun z hz=>(aa7.mp hz).elim (hf z) fun hz=>aad.mp hz▸pp.1 rfl)
theorem Lf(G:GM Γ)(W:Ok Γ d rows σ)(d2:2≤ds.length)(tr:jr Γ rows σ.trail (mu ds dt-1))(a:Ty rows s ds)(b:Ty rows t dt)(F:Form ds dt)
  (ih:IH Γ (mu ds dt)) (hd:σ.deep+mu ds dt≤51) (hl:σ.aq+fE ds dt≤L+1) (yb:L<20000) (hn:8*mu ds dt+14≤n) :
  Run (bp Γ rows σ) (Φ n (S "from_union") [.ref Γ.h.rel,.int s,.int t]) (An Γ d rows σ L fun r zz=>Γ.P r ds dt):=by
 obtain⟨m,rfl⟩:∃m,n=m+13+1:=⟨n-14,by lia⟩
 obtain⟨ts,a1,pe⟩:=lW (c:=Γ.c) (bs:=Γ.bs) W.rw a
 have cs:=Bz (dt:=dt) d2 F.Bd.1
 exact Run.eq (Fc ..)<|Run.rd (Rd.seq (Rd.seq (Rd.seq (Rd.seq iC jQ) (Rd.ret _)) (Rd.Wg (pe (m+12)))) (Rd.ret _))<|Run.rd (a:=(bi ts).length) (fun zz zz=>rfl)<|Run.eq (ch ..)<|Oi (dn:=[]) G d2 b F ih hd (by lia) yb (by lia) (Sp.refl W (aaX _)) tr a1 rfl (fun zz z=>zM z)
end Mine
namespace Mine
open PySem
variable{Γ:Ctx}{rows:List PV}{σ:ey}{α β:Type}{K:List ap}{Q:PV→List ap→Prop}{d L s t n k x y m:Nat}{q l ts:List Nat}{ds dt:cj}
theorem XW(G:GM Γ)(W:Ok Γ d rows σ)(p:kY k)(tr:jr Γ rows σ.trail (mu [[k]] [[x]]-1))(a:Th rows s k)(b:Th rows t x)(F:Form [[k]] [[x]])
  (ih:IH Γ (mu [[k]] [[x]])) (hd:σ.deep+mu [[k]] [[x]]≤51) (hl:σ.aq+cq [k] x≤L+1) (yb:L<20000) (hn:8*mu [[k]] [[x]]+14≤n) :
  Run (bp Γ rows σ) (Φ n (S "param_related") [.ref Γ.h.rel,.int s,.int t]) (An Γ d rows σ L fun r zz=>Γ.P r [[k]] [[x]]):=by
 have B:=G.g.tok
 obtain⟨m,rfl⟩:∃m,n=m+13+1:=⟨n-14,by lia⟩
 obtain⟨j,hj,hkj,er⟩:=HF p
 obtain⟨u,ty,u0,e⟩:=YY W hj
 rw[← hkj]at ty
 have Qt:=UH B p [[x]]
 have cb:=NZ B p x
 have hus:u≠s:=fun z=>by
  have:=Ty.fn W.rw.base ty (show Ty rows u [[k]]from z▸a)
  have hx:=B.low k p [k] (this▸.head _) k (.head _)
  have:=p.2
  lia
 have hb2:(Γ.bd k).length≤2:=by
  obtain rfl | rfl | rfl:k=5∨k=6∨k=7:=by unfold kY at p;lia
  ·exact B.two
  ·exact afP B.XT
  ·exact afP B.XU
 refine Run.eq (lj ..)<|Run.rd (Rd.seq iD (eZ (a.2.1.trans (congrArg some er))))<|Run.rd (a:=false) (fun zz zz=>rfl)<|Run.no<|Run.rd (Rd.seq (Rd.seq (Rd.seq iC jQ) (Rd.seq (Rd.seq (fun H zz=>Hd _ _ [] H (show 0<90 by decide)) (Rd.ret _)) (Rd.ret _))) (e (m+12)))<|Run.rd (Rd.seq (Rd.neI (b:=true) (by rw[fU (show(u:Int)≠s by lia)];rfl)) (Rd.ret _))<|Run.rd (a:=true) (fun zz zz=>rfl)<|Run.yes<|Run.rd mD<|Run.an [] (ih (Γ.bd k) [[x]] ⟨(B.ok k p).1,hb2,F.Bd,F.tw,.inl ⟨x,rfl⟩,F.short⟩ Qt (by lia) W (tr.less (adz Qt)) ty (show Ty rows t [[x]]from b) (by lia) (by lia) yb) fun st pp=>⟨st,(G.P _ _ _).mpr ⟨fun h C w s=>((G.P _ _ _).mp pp.P9).1 h C w (w.2 k p (fF.mp (bu.mp s))),fun zz=>⟨fun⟨g,_⟩=>?_,fun h=>?_⟩⟩⟩
 ·have:=p.1
  rcases g.1 [k] (.head _)with h | h <;> (have:=aad.mp h;lia)
 ·have:=p.1
  cases h.1
  lia
theorem YR(q:List Nat):vw [q]≠6:=by
 obtain _ | ⟨k,_ | ⟨_,_⟩⟩:=q
 ·exact show(1:Int)≠6 by decide
 ·exact(ku k).1
 ·exact show(7:Int)≠6 by decide
theorem S4{bd:kZ}(h:¬kY k)(hk:k<10):World bd (Cl [k]):=Bx (jo hk [k] (.head _)).1 (by show max (lv k) 0=0;rw[UB h];rfl)
theorem LI{bd:kZ}(hk:k<10)(qc:k≠x)(WH:¬(k=3∧x=2))(p:¬kY k):¬(Good bd [[k]] [[x]]∧ej bd [[k]] [[x]]):=(by rintro⟨_,v⟩;exact(
 (fF.mp (bu.mp (v _ (S4 p hk) (bu.mpr (lN _))))).elim (fun h=>qc (aad.mp h).symm) fun h=>WH ⟨(aad.mp h.2).symm,h.1⟩))
theorem fe{α:Type}{l:List α}:l≠[]→¬2≤l.length→∃a,l=[a] :=
 iX (P:=fun l=>l≠[]→¬2≤l.length→∃a,l=[a]) (fun h zz=>absurd rfl h) (fun a zz zz=>⟨a,rfl⟩) (fun zz zz zz zz h=>absurd (adV ..) h) l
theorem Zh(G:GM Γ)(h:¬(Good Γ.bd ds dt∧ej Γ.bd ds dt))(h2:¬(ds=[[3]]∧dt=[[2]])):Γ.P false ds dt:=(G.P _ _ _).mpr ⟨(fun z=>fS z),fun zz=>⟨h,h2⟩⟩
theorem Yz(G:GM Γ):Γ.P false [[]] dt:=Zh G ((by rintro⟨g,_⟩;exact(g.1 [] (.head _)).elim (fun z=>zM z) (fun z=>zM z))) fun h=>zC ac2 ((afH h.1).1) rfl
theorem vr{z a b:Int}(h:gr Γ rows σ (Φ (m+1) (S "rule_for") [.int a,.int b]) (.int z))(g:Run (bp Γ rows σ) (Φ (m+1) (S "by_rule") [.ref Γ.h.rel,.int z,.int s,.int t]) Q):Run (bp Γ rows σ) (jP (Φ (m+1)) (.ref Γ.h.rel) (.int s) (.int t) (.int a) (.int b)) Q:=Run.rd (Rd.seq (Rd.seq h (Rd.ret _)) (Rd.ret _)) g
theorem Q7(G:GM Γ)(W:Ok Γ d rows σ){z:Int}(a:Ty rows s ds)(hz:vw ds=z)(a7:(z == 7)=false)(a13:(z == 13)=false)(hdf:[10,14,15,16,17,18,19].contains z=false)(hx:x<10)(p:Γ.P false ds [[x]])(h:σ.aq≤L) :
  Run (bp Γ rows σ) (jP (Φ (m+3)) (.ref Γ.h.rel) (.int s) (.int t) (.int z) (.int (kd x))) (An Γ d rows σ L fun r zz=>Γ.P r ds [[x]]):=by
 have x7:(kd x == 7)=false:=beq_eq_false_iff_ne.mpr (ku x).2.1
 generalize xd:[10,14,15,16,17,18,19].contains (kd x)=zq;induction zq with
 | true=>exact vr (EQ a7 x7 (.inr xd)) (Run.imp (LG (n:=m) W G.mode a fun e=>by rw[← hz,e]at hdf;exact rr hdf) (by rintro _ _ ⟨e1,e2⟩;exact by rw[e1];rw[e2];exact⟨Sp.refl W h,p⟩))
 | false =>
  obtain⟨r,hr,e⟩:=ES a7 x7 a13 hdf xd
  exact vr (e _ _) (Run.of _ (AX (by lia) (by lia)).det ⟨Sp.refl W h,p⟩)
theorem KH(F:Form ds dt)(h0:ds≠[]):1≤fE ds dt:=by
 by_cases d2:2≤ds.length
 ·exact Bz d2 F.Bd.1▸acR ..
 ·obtain⟨q,rfl⟩:=fe h0 d2
  by_cases t2:2≤dt.length
  ·obtain _ | ⟨_,_ | ⟨_,_⟩⟩:=dt
   ·exact absurd t2 (by decide)
   ·exact absurd t2 (aa3 1)
   ·exact aaH (fH q)
  ·obtain⟨l,rfl⟩:=fe F.Bd.1 t2
   show 1≤ci q l
   by_cases l2:2≤l.length
   ·exact(show ci q l=1+(l.map (cq q)).sum from if_neg (by lia))▸acR ..
   ·obtain⟨x,rfl⟩:=fe (F.Bd.2.1 l (.head _)) l2
    rw[vB]
    exact N1 q x
theorem Km(G:GM Γ)(W:Ok Γ (d+50) rows σ)(tr:jr Γ rows σ.trail (mu ds dt-1))(a:Ty rows s ds)(b:Ty rows t dt)(F:Form ds dt)(h0:ds≠[])
  (hs:∀k x,ds=[[k]]→dt=[[x]]→k≠x∧¬(k=3∧x=2)) (ih:IH Γ (mu ds dt)) (hd:σ.deep+mu ds dt≤51) (hl:σ.aq+fE ds dt≤L+1) (yb:L<20000) (hn:8*mu ds dt+18≤n) :
  Run (bp Γ rows σ) (Φ n (S "structured") [.ref Γ.h.rel,.int s,.int t]) (An Γ d rows σ L fun r zz=>Γ.P r ds dt):=by
 have hsl:σ.aq≤L:=agW (aa4 (adW (KH F h0) _) hl)
 obtain⟨m,rfl⟩:∃m,n=m+17+1:=⟨n-18,by lia⟩
 obtain⟨ls,es,NG,zz⟩:=a.row W.rw.base
 obtain⟨lt,et,IE,zz⟩:=b.row W.rw.base
 refine Run.eq (Fi ..)<|Run.rd iD<|Run.rd (Rd.seq (eZ es) (Rd.k0 NG))<|Run.rd (Rd.seq (eZ et) (Rd.k0 IE)) ?_
 by_cases d2:2≤ds.length
 ·rw[tG d2]
  exact Run.rd (Rd.gL rfl)<|Run.yes<|Lf G W.less d2 tr a b F ih hd hl yb (by lia)
 ·obtain⟨q,rfl⟩:=fe h0 d2
  have ok:=(F.ok q (.head _)).1
  refine Run.rd (Rd.gL (beq_eq_false_iff_ne.mpr (YR q)))<|Run.no ?_
  by_cases t2:2≤dt.length
  ·rw[tG t2]
   have hL:lb q:=F.kind.elim ((by rintro⟨x,hx⟩;exact by rw[hx]at t2;exact absurd t2 (aa3 1))) fun h=>h q (.head _)
   exact Run.rd (Rd.gL rfl)<|Run.yes<|SX G W t2 tr a hL ok b F ih hd hl yb (by lia)
  ·obtain⟨l,rfl⟩:=fe F.Bd.1 t2
   have YV:=(F.Bd.2.2 l (.head _)).1
   refine Run.rd (Rd.gL (beq_eq_false_iff_ne.mpr (YR l)))<|Run.no ?_
   by_cases l2:2≤l.length
   ·have hL:lb q:=F.kind.elim ((by rintro⟨x,hx⟩;exact by cases hx;exact absurd l2 (aa3 1))) fun h=>h q (.head _)
    have ec:fE [q] [l]=1+(l.map (cq q)).sum:=if_neg (by lia)
    exact vr (HV (.inr (gT l2)))<|Ii<|rL W.rw b<|by
     rw[if_pos (gT l2)]
     exact aeI G W.less tr a hL ok b l2 YV F ih hd (by lia) yb (by lia)
   ·obtain⟨x,rfl⟩:=fe (F.Bd.2.1 l (.head _)) l2
    have bx:Th rows t x:=b
    rw[sU]at hl
    by_cases q2:2≤q.length
    ·exact vr (HV (.inl (gT q2)))<|Ii<|rL W.rw b<|by
      rewrite[if_neg (show vw [[x]]≠7 from(ku x).2.1),if_neg (show vw [[x]]≠6 from(ku x).1)]
      exact T8 G W tr a q2 ok bx F ih hd hl yb (by lia)
    ·by_cases q0:q=[]
     ·subst q0
      exact Q7 G W.less a rfl rfl rfl rfl bx.1 (Yz G) (by lia)
     ·obtain⟨k,rfl⟩:=fe q0 q2
      have ak:Th rows s k:=a
      obtain⟨qc,WH⟩:=hs k x rfl rfl
      have Un:=IJ k ak.1
      by_cases pk:5≤k∧k<8
      ·rw[decide_eq_true pk]at Un
       exact vr (EQ (beq_eq_false_iff_ne.mpr (ku k).2.1) (beq_eq_false_iff_ne.mpr (ku x).2.1) (.inl Un))<|oi<|yo G.mode<|XW G W.less pk tr ak bx F ih hd hl yb (by lia)
      ·rw[decide_eq_false pk]at Un
       exact Q7 G W.less a rfl (beq_eq_false_iff_ne.mpr (ku k).2.1) (beq_eq_false_iff_ne.mpr fun e=>by rw[show kd k=13 from e]at Un;exact absurd (show kd k=13 from e) (by unfold kd;split <;> decide)) Un bx.1 (Zh G (LI ak.1 qc WH pk) fun h=>WH ⟨by cases h.1;rfl,by cases h.2;rfl⟩) (by lia)
theorem B8(h:2≤ds.length∨∃q,ds=[q]∧2≤q.length):[6,7,10,14,15,16,17,18,19].contains (vw ds)=true:=by
 rcases h with h | ⟨q,rfl,h⟩
 ·rw[tG h];rfl
 ·rw[gT h];rfl
theorem lL(W:Rw rows)(hm:Γ.h.mode=1∨Γ.h.mode=4)(jd:s≠t)(a:Ty rows s ds)(b:Ty rows t dt){v:Int}(sr:gr Γ rows σ (Φ (m+4) (S "simple_related") [.ref Γ.h.rel,.int s,.int t]) (.int v))
  (h:Run (bp Γ rows σ) (if v=1 then ret (.bool true)else if v=0 then ret (.bool false)else Φ (m+4) (S "relbase_kept") [.ref Γ.h.rel,.int s,.int t]) Q) (hv:v=1∨v=0∨v=-1):Run (bp Γ rows σ) (Φ (m+6) (S "Rel.ask") [.ref Γ.h.rel,.int s,.int t]) Q:=by
 have q0:((s:Int) == t)=false:=fU (by lia)
 have m3:((Γ.h.mode:Int) == 3)=false:=by rcases hm with h | h <;> rw[h] <;> rfl
 have m2:((Γ.h.mode:Int) == 2)=false:=by rcases hm with h | h <;> rw[h] <;> rfl
 refine Run.eq (lO ..)<|Run.eq (m:=Φ (m+5) (S "ask_kinds") [.ref Γ.h.rel,.int s,.int t]) (jc ..)<|Run.rd (Rd.gL q0)<|Run.no<|Run.rd (Rd.seq (Rd.seq iC (Rd.ret _)) (pT (n:=m) W a))<|Run.rd (Rd.seq (Rd.seq iC (Rd.ret _)) (pT (n:=m) W b))<|Run.rd (Rd.gL q0)<|Run.no<|Run.rd (Rd.seq fI (Rd.gL m3))<|Run.no<|Run.rd sr ?_
 rcases hv with rfl | rfl | rfl
 ·exact Run.rd (Rd.UR (Rd.gL rfl))<|Run.yes h
 ·rw[if_neg (by decide),if_pos rfl]at h
  exact Run.rd (Rd.tN (Rd.gL rfl) (Rd.tf (Rd.oa (Rd.seq fI (Rd.gL m2)))))<|Run.no<|Run.rd (a:=.bool false) (fun zz zz=>rfl)<|Run.rd (a:=false) (fun zz zz=>rfl)<|Run.no h
 ·exact Run.rd (Rd.tN (Rd.gL rfl) (Rd.tf (Rd.oa (Rd.seq fI (Rd.gL m2)))))<|Run.no<|Run.rd (a:=.bool true) (fun zz zz=>rfl)<|Run.rd (a:=true) (fun zz zz=>rfl)<|Run.yes h
theorem AT.rq(p:Γ.P false [[k]] dt):AT Γ [[k]] dt σ s t false σ:=⟨p,fun zz=>rfl,(by rintro _ _ ⟨q,h,h2⟩;exact by cases h;exact absurd h2 (aa3 1))⟩
noncomputable abbrev WI(Γ:Ctx)(d:Nat)(rows:List PV)(σ:ey)(L s t m:Nat)(ds dt:cj):Prop:=Run (bp Γ rows σ) (Φ (m+15+6) (S "Rel.ask") [.ref Γ.h.rel,.int s,.int t]) (An Γ d rows σ L (AT Γ ds dt σ s t))
noncomputable abbrev Tm(Γ:Ctx)(d:Nat)(rows:List PV)(σ:ey)(L s t m:Nat)(ds dt:cj):Prop:=Run (bp Γ rows σ) (Φ (m+15+4) (S "relbase_kept") [.ref Γ.h.rel,.int s,.int t]) (An Γ d rows σ L (AT Γ ds dt σ s t))
theorem Tr(G:GM Γ)(F:Form ds dt)(ih:IH Γ (mu ds dt))(hn:8*mu ds dt+21≤m+21)(W:Ok Γ d rows σ)(tr:jr Γ rows σ.trail (mu ds dt))(a:Ty rows s ds)(b:Ty rows t dt)(hd:σ.deep+mu ds dt≤50)(hl:σ.aq+fE ds dt≤L)(yb:L<20000)
  (h0:ds≠[]) (hs:∀k x,ds=[[k]]→dt=[[x]]→k≠x∧¬(k=3∧x=2)):Tm Γ d rows σ L s t m ds dt:=by
 have hc:=KH F h0
 have mup:1≤mu ds dt:=adV ..
 refine Run.an [] (Uo (n:=m+17) G.g W (fun kh=>?_) a b (by lia) (aa4 (acR ..) hl) yb fun Ie=>Run.rd (Rd.seq fI (Rd.gL (by rcases G.mode with h | h <;> rw[h] <;> rfl)))<|Run.no<|Km G Ie (fun x hx=>?_) a b F h0 hs ih (by show σ.deep+1+_≤51;lia) (by show σ.aq+1+_≤L+1;lia) yb (by lia)) fun st kt=>⟨st,kt.P9,kt.no,fun h zz zz=>kt.root h⟩
 ·obtain⟨ds',dt',a',b',pp⟩:=tr _ kh
  rw[← a.fn W.rw.base a',← b.fn W.rw.base b']at pp
  exact pp.resolve_right (aeM _)
 ·rcases aa7.mp hx with hx | hx
  ·exact(tr.less (Nat.sub_le _ _)) x hx
  ·exact aad.mp hx▸⟨ds,dt,a,b,.inr (by lia)⟩
theorem Ts(G:GM Γ)(W:Ok Γ d rows σ)(hl:σ.aq≤L)(a:Ty rows s ds)(b:Ty rows s dt):WI Γ d rows σ L s s m ds dt:=by
 obtain rfl:=Ty.fn W.rw.base a b
 exact Run.eq (lO ..)<|Run.eq (m:=Φ (m+20) (S "ask_kinds") [.ref Γ.h.rel,.int s,.int s]) (jc ..)<|Run.rd (Rd.gL (beq_self_eq_true _))<|Run.yes<|Run.ret ⟨Sp.refl W hl,(G.P _ _ _).mpr ⟨fun zz C w s=>s,(fun z=>rr z)⟩,(fun z=>rr z),fun zz h=>absurd rfl h⟩
theorem WR(G:GM Γ)(W:Ok Γ d rows σ)(hl:σ.aq≤L)(jd:s≠t)(a:Ty rows s [])(b:Ty rows t dt):WI Γ d rows σ L s t m [] dt:=by
 obtain rfl:s=2:=a
 have a:Ty rows 2 []:=rfl
 exact lL (v:=1) W.rw G.mode jd a b (Kl (n:=m+17) b.A1) (Run.ret ⟨Sp.refl W hl,(G.P _ _ _).mpr ⟨(by rintro _ C w ⟨q,h,_⟩;exact(zM h)),(fun z=>rr z)⟩,(fun z=>rr z),(by rintro _ _ ⟨q,h,_⟩;exact(zC ac2 h rfl))⟩) (.inl rfl)
theorem WT(G:GM Γ)(W:Ok Γ d rows σ)(hl:σ.aq≤L)(jd:1≠t)(b:Th rows t x)(kp:Tm Γ d rows σ L 1 t m [[]] [[x]]):WI Γ d rows σ L 1 t m [[]] [[x]]:=by
 have a:Ty rows 1 [[]]:=rfl
 have b':Ty rows t [[x]]:=b
 have su:=EX (σ:=σ) (n:=m+15) W.rw G.mode b
 by_cases px:5≤x∧x<8
 ·rw[if_pos px]at su
  exact lL W.rw G.mode jd a b' su kp (.inr (.inr rfl))
 ·rw[if_neg px]at su
  exact lL W.rw G.mode jd a b' su (Run.ret ⟨Sp.refl W hl,Yz G,fun zz=>rfl,(by rintro _ _ ⟨q,h,h2⟩;exact by cases h;cases h2)⟩) (.inr (.inl rfl))
theorem ace{P:Prop}{k x:Nat}(Xq:(2≤ds.length∨∃q,ds=[q]∧2≤q.length)∨(2≤dt.length∨∃q,dt=[q]∧2≤q.length))(hk:ds=[[k]])(hx:dt=[[x]]):P:=by
 subst hk hx
 rcases Xq with (h | ⟨q,h,h2⟩) | (h | ⟨q,h,h2⟩)
 ·exact absurd h (aa3 1)
 ·cases h;exact absurd h2 (aa3 1)
 ·exact absurd h (aa3 1)
 ·cases h;exact absurd h2 (aa3 1)
theorem WS(G:GM Γ)(W:Ok Γ d rows σ)(hl:σ.aq≤L)(jd:s≠t)(ak:Th rows s k)(bx:Th rows t x)(h1:s≠1)(s2:s≠2)(t1:t≠1)(t2:t≠2)(kp:k≠x∧¬(k=3∧x=2)→Tm Γ d rows σ L s t m [[k]] [[x]]):WI Γ d rows σ L s t m [[k]] [[x]]:=by
 have a:Ty rows s [[k]]:=ak
 have b:Ty rows t [[x]]:=bx
 have qc:k≠x:=fun h=>jd (Th.inj W.rw.sL (h▸ak) bx)
 by_cases hp:(5≤k∧k<8)∨(5≤x∧x<8)
 ·exact lL W.rw G.mode jd a b (kG (n:=m+17) W.rw a b h1 s2 t1 t2 (hp.imp (fun h=>(pN k ak.1).trans (decide_eq_true h)) fun h=>(pN x bx.1).trans (decide_eq_true h))) (kp ⟨qc,by lia⟩) (.inr (.inr rfl))
 rw[not_or]at hp
 have st:=He (σ:=σ) (n:=m+15) W.rw G.mode ak bx qc hp.1 hp.2
 by_cases hx:x=2∨x=3∨x=4
 ·rw[if_pos hx]at st
  by_cases WH:k=3∧x=2
  ·rw[if_pos WH]at st
   obtain⟨rfl,rfl⟩:=WH
   exact lL W.rw G.mode jd a b st (Run.ret ⟨Sp.refl W hl,(G.P _ _ _).mpr ⟨fun zz C w s=>bu.mpr (fF.mpr (w.1.1 (fF.mp (bu.mp s)))),(fun z=>rr z)⟩,(fun z=>rr z),(by rintro _ _ ⟨q,h,h2⟩;exact by cases h;exact absurd h2 (aa3 1))⟩) (.inl rfl)
  ·rw[if_neg WH]at st
   exact lL W.rw G.mode jd a b st (Run.ret ⟨Sp.refl W hl,AT.rq (Zh G (LI ak.1 qc WH hp.1) fun h=>WH ⟨by cases h.1;rfl,by cases h.2;rfl⟩)⟩) (.inr (.inl rfl))
 ·rw[if_neg hx]at st
  exact lL W.rw G.mode jd a b st (kp ⟨qc,by lia⟩) (.inr (.inr rfl))
theorem Tt(G:GM Γ)(F:Form ds dt)(ih:IH Γ (mu ds dt)):Zd Γ ds dt:=by
 intro d rows σ s t n L hn W tr a b hd hl yb
 obtain⟨m,rfl⟩:∃m,n=m+15+6:=⟨n-21,by lia⟩
 have Ll:=aa4 (acR ..) hl
 have th:=F.Bd.high b
 by_cases jd:s=t
 ·exact jd▸Ts G W Ll a (jd▸b)
 have kp:=Tr (m:=m) G F ih hn W tr a b hd hl yb
 by_cases h0:ds=[]
 ·have z:=WR (m:=m) G W Ll jd (h0▸a) b
  rwa [← h0]at z
 have s2:s≠2:=fun h=>h0 (Ty.fn W.rw.base a (show Ty rows s []from h))
 have ex:(¬2≤dt.length)→(¬ ∃q,dt=[q]∧2≤q.length)→∃x,dt=[[x]]:=fun p3 p4=>by
  obtain⟨l,e⟩:=fe F.Bd.1 p3
  obtain⟨x,e2⟩:=fe (F.Bd.2.1 l (e▸.head _)) fun h=>p4 ⟨l,e,h⟩
  exact⟨x,e.trans (congrArg (fun l=>[l]) e2)⟩
 by_cases h1:s=1
 ·have e:ds=[[]]:=Ty.fn W.rw.base a (h1▸(show Ty rows 1 [[]]from rfl))
  obtain⟨x,e2⟩:=F.kind.resolve_right fun h=>(h [] (e▸.head _)).elim (fun z=>zM z) (fun z=>zM z)
  have k1:=kp h0 fun k x h=>by rw[e]at h;cases h
  rw[e,e2,h1]at k1
  have z:=WT (m:=m) G W Ll (h1▸jd) (show Ty rows t [[x]]from e2▸b) k1
  rwa [← e,← e2,← h1]at z
 by_cases Xq:(2≤ds.length∨∃q,ds=[q]∧2≤q.length)∨(2≤dt.length∨∃q,dt=[q]∧2≤q.length)
 ·exact lL W.rw G.mode jd a b (kG (n:=m+17) W.rw a b h1 s2 (by lia) (by lia) (Xq.imp B8 B8)) (kp h0 fun k x hk hx=>ace Xq hk hx) (.inr (.inr rfl))
 rw[not_or,not_or,not_or]at Xq
 obtain⟨x,e2⟩:=ex Xq.2.1 Xq.2.2
 obtain⟨q,e⟩:=fe h0 Xq.1.1
 obtain⟨k,e1⟩:=fe (fun h:q=[]=>h1 (show Ty rows s [[]]from(e.trans (congrArg (fun l=>[l]) h))▸a)) fun h=>Xq.1.2 ⟨q,e,h⟩
 have e:=e.trans (congrArg (fun l=>[l]) e1)
 have z:=WS (m:=m) G W Ll jd (show Ty rows s [[k]]from e▸a) (show Ty rows t [[x]]from e2▸b) h1 s2 (by lia) (by lia) fun h=>by
  have z:=kp h0 fun k' x' hk hx=>by
   rw[e]at hk;rw[e2]at hx;cases hk;cases hx;exact h
  rwa [e,e2]at z
 rwa [← e,← e2]at z
theorem sO(G:GM Γ):∀m ds dt,Form ds dt→mu ds dt<m→Zd Γ ds dt
 | 0,_,_,_,h=>absurd h (aff _)
 | m+1,ds,dt,F,h=>Tt G F fun ds' dt' F' h'=>sO G m ds' dt' F' (by lia)
end Mine
namespace Mine
open PySem
variable{Γ:Ctx}{rows:List PV}{σ:ey}{α β:Type}{K:List ap}{Q:PV→List ap→Prop}{d L s t n k x y m:Nat}{q l ss ts:List Nat}{ds dt:cj}
noncomputable def Eqv(ds dt:cj):Prop:=∃q l,ds=[q]∧dt=[l]∧∀x,x∈q↔x∈l
structure GT(Γ:Ctx):Prop where
 g:GOk Γ
 mode:Γ.h.mode=3
 P:∀r ds dt,Γ.P r ds dt↔(r=true↔Eqv ds dt)
theorem tj:Eqv [q] [l]↔∀x,x∈q↔x∈l :=
 ⟨(by rintro⟨q',l',h1,h2,h⟩;exact by cases h1;cases h2;exact h),fun h=>⟨q,l,rfl,rfl,h⟩⟩
theorem lP:Eqv [[k]] [[x]]↔k=x:=tj.trans ⟨fun h=>aad.mp ((h k).mp (.head _)),fun h=>h▸fun zz=>Iff.rfl⟩
theorem ZT(k:Int):Rd K (ae .In (.int k) (.tup [.int 6,.int 7])) (([6,7]:List Int).contains k):=fun H zz=>kj H k [6,7]
theorem Wb{kk kt:Int}{ls lt:List PV}(e:rows[s]?=some (.tup (.int kk::ls)))(f:rows[t]?=some (.tup (.int kt::lt)))(h:Run (bp Γ rows σ) (pz (Φ n) (.ref Γ.h.rel) (.int s) (.int t) (.tup (.int kk::ls)) (.tup (.int kt::lt))) Q):Run (bp Γ rows σ) (Φ (n+1) (S "same_kind") [.ref Γ.h.rel,.int s,.int t]) Q :=
 Run.eq (Iw ..)<|Run.rd iD<|Run.rd (eZ e)<|Run.rd (eZ f) h
theorem Nv(W:Rw rows)(a:Ty rows s ds)(b:Ty rows t dt)(h:vw ds≠vw dt)(h7:vw ds=7)(q:Q (.bool false) (bp Γ rows σ)):Run (bp Γ rows σ) (Φ (n+1) (S "same_kind") [.ref Γ.h.rel,.int s,.int t]) Q:=by
 obtain⟨ls,es,NG,zz⟩:=a.row W.base
 obtain⟨lt,et,IE,zz⟩:=b.row W.base
 exact Wb es et<|Run.rd (Rd.oa (Rd.seq (Rd.k0 NG) (Rd.seq (Rd.k0 IE) (Rd.gL (beq_eq_false_iff_ne.mpr h)))))<|Run.no<|Run.rd (Rd.UR (Rd.seq (Rd.k0 NG) (by rw[h7];exact ZT 7)))<|Run.yes<|Run.ret q
theorem YQ:∀k,k<10→(kd k == 6)=false∧(kd k == 7)=false∧(kd k == 13)=false∧([6,7]:List Int).contains (kd k)=false:=by decide +kernel
theorem AS(G:GT Γ)(a:Th rows s k)(b:Th rows t x)(q:Q (.bool false) (bp Γ rows σ)):Run (bp Γ rows σ) (Φ (n+3) (S "same_kind") [.ref Γ.h.rel,.int s,.int t]) Q:=by
 obtain⟨ls,es,NG⟩:=a.row
 obtain⟨lt,et,IE⟩:=b.row
 obtain⟨k6,k7,k13,k67⟩:=YQ k a.1
 obtain⟨x6,x7,x13,x67⟩:=YQ x b.1
 have first:gr Γ rows σ (aa (aa (getItem (.tup (.int (kd k)::ls)) (.int 0)) fun x6=>aa (getItem (.tup (.int (kd x)::lt)) (.int 0)) fun x7=>ae .Eq x6 x7) fun b8=>af b8 (aa (aa (aa (getItem (.tup (.int (kd k)::ls)) (.int 0)) fun x9=>ae .Eq x9 (.int 6)) fun b10=>af b10 (ret true) (aa (aa (getItem (.tup (.int (kd k)::ls)) (.int 0)) fun Tg=>ae .Eq Tg (.int 7)) fun Tu=>af Tu (ret true) (ret false))) fun b13=>af b13 (ret true) (ret false)) (ret false)) false:=by
  refine Rd.seq (Rd.seq (Rd.k0 NG) (Rd.seq (Rd.k0 IE) (Rd.eq _ _))) ?_
  cases kd k == kd x with
  | true=>exact Rd.yes (Rd.tf (Rd.tN (Rd.seq (Rd.k0 NG) (Rd.gL k6)) (Rd.tf (Rd.seq (Rd.k0 NG) (Rd.gL k7)))))
  | false=>exact Rd.no (Rd.ret _)
 refine Wb es et<|Run.rd first<|Run.no<|Run.rd (Rd.tN (Rd.seq (Rd.k0 NG) (k67▸ZT _)) (Rd.tf (Rd.seq (Rd.k0 IE) (x67▸ZT _))))<|Run.no ?_
 have go:∀{z:Int},gr Γ rows σ (Φ (n+2) (S "rule_for") [.int (kd k),.int (kd x)]) (.int z)→Run (bp Γ rows σ) (Φ (n+2) (S "by_rule") [.ref Γ.h.rel,.int z,.int s,.int t]) Q→Run (bp Γ rows σ) (rh (Φ (n+2)) (.ref Γ.h.rel) (.int s) (.int t) (.tup (.int (kd k)::ls)) (.tup (.int (kd x)::lt))) Q:=fun h g =>
  Run.rd (Rd.seq (Rd.seq (Rd.seq (Rd.seq (Rd.k0 NG) (Rd.seq (Rd.seq (Rd.k0 IE) (Rd.ret _)) (Rd.ret _))) h) (Rd.ret _)) (Rd.ret _)) g
 by_cases hd:[10,14,15,16,17,18,19].contains (kd k)=true∨[10,14,15,16,17,18,19].contains (kd x)=true
 ·exact go (EQ k7 x7 hd)<|oi<|Run.eq (jt ..)<|Run.rd (Rd.seq fI (Rd.seq (Rd.neI (b:=false) (by rw[G.mode];rfl)) (Rd.ret _)))<|Run.rd (a:=false) (fun zz zz=>rfl)<|Run.no<|Run.ret q
 ·rw[not_or,afU,afU]at hd
  obtain⟨z,hz,e⟩:=ES k7 x7 k13 hd.1 hd.2
  exact go (e _ _) (Run.of _ (AX (by lia) (by lia)).det q)
noncomputable def WF(Γ:Ctx)(rows:List PV)(tr:List (Nat×Nat)):Prop:=∀p∈tr,Told Γ rows true p∨∃q,Ty rows p.1 [q]∧2≤q.length
theorem WF.step{ah:List PV}{dr:ey}(s:Sp Γ d rows σ L ah dr)(t:WF Γ rows σ.trail):WF Γ ah dr.trail:=fun x hx=>by
 obtain⟨new,e,hn⟩:=s.tr
 rw[e]at hx
 exact(aa7.mp hx).elim (fun hx=>(t x hx).imp (fun h=>h.pre s.pre) (by rintro⟨q,h1,h2⟩;exact⟨q,h1.pre s.pre,h2⟩)) fun hx=>.inl (hn x hx)
theorem WF.rq(B:Bs rows){tr:List (Nat×Nat)}(h:WF Γ rows tr)(a:Th rows s k)(b:Th rows t x)(kh:(s,t)∈tr):Γ.P true [[k]] [[x]]:=by
 rcases h _ kh with ⟨ds,dt,h1,h2,h3⟩ | ⟨q,h1,h2⟩
 ·cases Ty.fn B h1 (show Ty rows s [[k]]from a)
  cases Ty.fn B h2 (show Ty rows t [[x]]from b)
  exact h3
 ·cases Ty.fn B h1 (show Ty rows s [[k]]from a)
  exact absurd h2 (aa3 1)
noncomputable def TT(ds dt:cj)(r:Bool)(_:ey):Prop:=r=true↔Eqv ds dt
theorem ND(G:GT Γ)(W:Ok Γ d rows σ)(a:Ty rows s ds)(b:Ty rows t dt)(hr:ds=dt→Eqv ds dt)(tr:(s,t)∈σ.trail→Γ.P true ds dt)(hd:σ.deep<60)(hk:σ.aq≤L)(hL:L<20000)
  (hv:[1,2,3,4,5].contains (vw ds)=true∨[1,2,3,4,5].contains (vw dt)=true→s≠t→¬Eqv ds dt)
  (hs:s≠t→Ok Γ (d+50) rows (NJ σ (s,t))→Run (bp Γ rows (NJ σ (s,t))) (Φ (n+3) (S "same_kind") [.ref Γ.h.rel,.int s,.int t]) (An Γ d rows (NJ σ (s,t)) L (TT ds dt))) :
  Run (bp Γ rows σ) (Φ (n+6) (S "Rel.ask") [.ref Γ.h.rel,.int s,.int t]) (An Γ d rows σ L (TT ds dt)):=by
 have m3:((Γ.h.mode:Int) == 3)=true:=by rw[G.mode];rfl
 refine Run.eq (lO ..)<|Run.eq (m:=Φ (n+5) (S "ask_kinds") [.ref Γ.h.rel,.int s,.int t]) (jc ..) ?_
 by_cases jd:s=t
 ·subst jd
  exact Run.rd (Rd.gL (beq_self_eq_true _))<|Run.yes<|Run.ret ⟨Sp.refl W hk,fun zz=>hr (Ty.fn W.rw.base a b),fun zz=>rfl⟩
 have q0:((s:Int) == t)=false:=fU (by lia)
 obtain⟨ls,es,NG,zz⟩:=a.row W.rw.base
 obtain⟨lt,et,IE,zz⟩:=b.row W.rw.base
 have rs:=Rd.seq (eZ (Γ:=Γ) (σ:=σ) es) (f:=fun x=>getItem x (.int 0)) (Rd.k0 NG)
 have rt:=Rd.seq (eZ (Γ:=Γ) (σ:=σ) et) (f:=fun x=>getItem x (.int 0)) (Rd.k0 IE)
 refine Run.rd (Rd.gL q0)<|Run.no<|Run.rd (Rd.seq (Rd.seq iC (Rd.ret _)) (pT (n:=n) W.rw a))<|Run.rd (Rd.seq (Rd.seq iC (Rd.ret _)) (pT (n:=n) W.rw b))<|Run.rd (Rd.gL q0)<|Run.no<|Run.rd (Rd.seq fI (Rd.gL m3))<|Run.yes<|Run.rd iD<|Run.rd (Rd.tN (a.A1.e (z:=13) (by simp)) (Rd.tf (b.A1.e (z:=13) (by simp))))<|Run.no ?_
 generalize z:([1,2,3,4,5]:List Int).contains (vw ds)=zq;induction zq with
 | true=>exact Run.rd (Rd.UR (Rd.seq rs (Rd.pL jX z)))<|Run.yes<|Run.ret ⟨Sp.refl W hk,(fun z=>fS z),fun h=>absurd h (hv (.inl z) jd)⟩
 | false =>
  generalize z2:([1,2,3,4,5]:List Int).contains (vw dt)=zq;induction zq with
  | true=>exact Run.rd (Rd.tN (Rd.seq rs (Rd.pL jX z)) (Rd.tf (Rd.seq rt (Rd.pL jX z2))))<|Run.yes<|Run.ret ⟨Sp.refl W hk,(fun z=>fS z),fun h=>absurd h (hv (.inr z2) jd)⟩
  | false=>exact Run.rd (Rd.tN (Rd.seq rs (Rd.pL jX z)) (Rd.tf (Rd.seq rt (Rd.pL jX z2))))<|Run.no<|Run.an [] (Uo (n:=n+2) G.g W tr a b hd hk hL fun Ie=>Run.rd (Rd.seq fI (Rd.gL m3))<|Run.yes<|Run.an [] (hs jd Ie) fun st pp=>⟨st,(G.P _ _ _).mpr pp⟩) fun st kt=>⟨st,(G.P _ _ _).mp kt.P9⟩
theorem NE(G:GT Γ)(W:Ok Γ d rows σ)(a:Th rows s k)(b:Th rows t x)(tr:WF Γ rows σ.trail)(hd:σ.deep<60)(hk:σ.aq+1≤L)(hL:L<20000):Run (bp Γ rows σ) (Φ (n+6) (S "Rel.ask") [.ref Γ.h.rel,.int s,.int t]) (An Γ d rows σ L (TT [[k]] [[x]])):=by
 have ne:s≠t→¬Eqv [[k]] [[x]]:=fun jd e=>by
  cases lP.mp e
  exact jd (a.inj W.rw.sL b)
 exact ND G W (show Ty rows s [[k]]from a) (show Ty rows t [[x]]from b) (fun e=>by cases e;exact lP.mpr rfl) (tr.rq W.rw.base a b) hd (by lia) hL (fun zz h=>ne h) fun jd Ie=>AS G a b ⟨Sp.refl Ie.less hk,(fun z=>fS z),fun e=>absurd e (ne jd)⟩
theorem SY(G:GT Γ){wa:PV}(a:Th rows s k)(hd:σ.deep<60)(hl:σ.aq+l.length≤L)(yb:L<20000) :
  ∀{vs rm dn:List Nat} {aw:List PV} {τ:ey} {o4 o5:Option PV},Sp Γ d rows σ (σ.aq+dn.length) aw τ→WF Γ aw τ.trail→iH aw vs rm→dn++rm=l→k∉dn →
  Run (bp Γ aw τ) (gH (gZ (Φ (n+6))) (bi vs) [some (.ref Γ.h.rel),some (.int s),some wa,some .none,o4,o5,none,none] (hA (Φ (n+6)))) (An Γ d rows σ L fun r zz=>r=true↔k∈l):=by
 intro vs
 induction vs with
 | nil =>
  intro rm dn aw τ o4 o5 st tr hm he hf
  obtain rfl:rm=[]:=aaZ hm.len.symm
  rw[abF]at he
  subst he
  exact Run.eq (lF ..) (Run.rd (a:=true) (fun zz zz=>rfl) (Run.yes (Run.ret ⟨st.less (e:=0) hl,(fun z=>fS z),fun h=>absurd h hf⟩)))
 | cons v vs Uh =>
  intro rm dn aw τ o4 o5 st tr hm he hf
  obtain _ | ⟨x,rm⟩:=rm
  ·exact hm.elim
  have hlen:=congrArg af4 he
  rw[aaA,aaK]at hlen
  have hs:(dn++[x]).length=dn.length+1:=aaA
  have hi:=st.hi
  have dp:=st.deep
  refine Run.eq (lE ..)<|Run.rd (Rd.seq Bb (Ke (n+5)))<|Run.bh<|Run.bh<|Run.rd mD<|Run.an [] (NE (n:=n) (L:=σ.aq+(dn++[x]).length) G st.ok (a.pre st.pre) hm.1 tr (by lia) (by lia) (by lia)) fun{r _ _} rn pp=>Run.ret ?_
  have vx:=st.trans rn
  induction r with
  | true=>exact Run.yes<|Run.rd (a:=true) (Rd.seq (Rd.seq (Rd.seq (Rd.seq pS HR) (Rd.ret _)) Kb) fun zz zz=>rfl)<|Run.yes<|Run.ret ⟨vx.less (e:=0) (by lia),fun zz=>lP.mp (pp.mp rfl)▸he▸aaJ _ (.head _),fun zz=>rfl⟩
  | false=>exact Run.no (Uh vx (tr.step rn) (iH.pre rn.pre hm.2) (by rw[aaW];exact he) fun h=>(aa7.mp h).elim hf fun h=>by have:=pp.mpr (lP.mpr (aad.mp h));exact fS this)
theorem RG(G:GT Γ){wa:PV}(b:iH rows ts l)(hl:l.length≤10)(hq:q.length≤10)(hd:σ.deep<60)(yb:σ.aq+100≤L)(hL:L<20000) :
  ∀{vs rm dn:List Nat} {aw:List PV} {τ:ey} {o3:Option PV},Sp Γ d rows σ (σ.aq+dn.length*l.length) aw τ→WF Γ aw τ.trail→iH aw vs rm→dn++rm=q→(∀k∈dn,k∈l) →
  Run (bp Γ aw τ) (gH (oR (Φ (n+7))) (bi vs) [some (.ref Γ.h.rel),some wa,some (.tup (bi ts)),o3,none] oS) (An Γ d rows σ L fun r zz=>r=true↔∀k∈q,k∈l):=by
 intro vs
 induction vs with
 | nil =>
  intro rm dn aw τ o3 st tr hm he hf
  obtain rfl:rm=[]:=aaZ hm.len.symm
  rw[abF]at he
  subst he
  have:dn.length*l.length≤10*10:=afM hq hl
  exact Run.eq (FO ..) (Run.ret ⟨st.less (e:=0) (by lia),fun zz=>hf,fun zz=>rfl⟩)
 | cons v vs Uh =>
  intro rm dn aw τ o3 st tr hm he hf
  obtain _ | ⟨k,rm⟩:=rm
  ·exact hm.elim
  have hlen:=congrArg af4 he
  rw[aaA,aaK]at hlen
  have hp:(dn.length+1)*l.length≤10*10:=afM (by lia) hl
  have hs:(dn++[k]).length*l.length=dn.length*l.length+l.length:=by rw[aaA];rw[abf];rw[agA];rw[afn];rfl
  rw[agA,afn]at hp
  have hi:=st.hi
  have dp:=st.deep
  generalize dn.length*l.length=z at hp hs hi
  refine Run.eq (FN ..)<|Run.bh<|Run.bh<|Run.bh<|Run.eq (te ..)<|Run.xR (T:=fun t' n'=>jO (Φ (n+6)) (.ref Γ.h.rel) (.int v) (.tup (bi ts)) t' n') rfl<|Run.an [] (SY (l:=l) (dn:=[]) (L:=σ.aq+(dn++[k]).length*l.length) (n:=n) G hm.1 (by lia) (by lia) (by lia) (Sp.refl st.ok (aaX _)) tr (b.pre st.pre) rfl (fun z=>zM z)) fun{r _ _} rn pp=>Run.ret (Run.ret ?_)
  have vx:=st.trans rn
  induction r with
  | false=>exact Run.yes<|Run.ret ⟨vx.less (e:=0) (by lia),(fun z=>fS z),fun h=>by have:=pp.mpr (h k (he▸aaJ _ (.head _)));exact fS this⟩
  | true=>exact Run.no (Uh vx (tr.step rn) (iH.pre rn.pre hm.2) (by rw[aaW];exact he) fun z hz=>(aa7.mp hz).elim (hf z) fun hz=>aad.mp hz▸pp.mp rfl)
theorem H1(G:GT Γ)(W:Ok Γ d rows σ)(a:iH rows ss q)(b:iH rows ts l)(hq:q.length≤10)(hl:l.length≤10)(tr:WF Γ rows σ.trail)(hd:σ.deep<60)(yb:σ.aq+100≤L)(hL:L<20000):Run (bp Γ rows σ) (Φ (n+8) (S "each_in") [.ref Γ.h.rel,.tup (bi ss),.tup (bi ts)]) (An Γ d rows σ L fun r zz=>r=true↔∀k∈q,k∈l) :=
 Run.eq (N7 ..)<|Run.xR (T:=fun t' n'=>yq (Φ (n+7)) (.ref Γ.h.rel) (.tup (bi ss)) (.tup (bi ts)) t' n') rfl<|RG (dn:=[]) (n:=n) G b hl hq hd yb hL (Sp.refl W (acR ..)) tr a rfl (fun zz z=>zM z)
theorem Kg{k:Int}{v:PV}:Rd K (getItem (.tup [.int k,v]) (.int 1)) v:=fun H zz=>Hd _ _ [] H (show 0<90 by decide)
theorem aaD(G:GT Γ)(W:Ok Γ d rows σ)(a:Mt rows s q)(q2:2≤q.length)(ok:ew q)(b:Ty rows t dt)(g:YA dt)(h0:σ.trail=[])(hd:σ.deep<50)(yb:σ.aq+201≤L)(hL:L<20000):Run (bp Γ rows σ) (Φ (n+12) (S "Rel.ask") [.ref Γ.h.rel,.int s,.int t]) (An Γ d rows σ L (TT [q] dt)):=by
 have len:∀{l:List Nat},(∀x,x∈q↔x∈l)→2≤l.length:=fun h=>aa4 q2 (ok.1.length_le_of_subset fun x hx=>(h x).mp hx)
 refine ND (n:=n+6) G W (show Ty rows s [q]from a) b (fun e=>⟨q,q,rfl,e.symm,fun zz=>Iff.rfl⟩) (by rw[h0];exact(fun z=>zM z)) (by lia) (by lia) hL (fun hv jd ⟨q',l,h1,h2,h⟩=>?_) fun jd Ie=>?_
 ·cases h1
  rw[gT q2,h2,gT (len h)]at hv
  exact hv.elim (fun h=>fS h) fun h=>fS h
 ·by_cases hl:∃l,dt=[l]∧2≤l.length
  ·obtain⟨l,rfl,l2⟩:=hl
   have YV:=(g.2.2 l (.head _)).1
   have Y8:WF Γ rows (NJ σ (s,t)).trail:=fun p hp=>by
    rw[show(NJ σ (s,t)).trail=σ.trail++[(s,t)]from rfl,h0]at hp
    cases aad.mp hp
    exact .inr ⟨q,a,q2⟩
   have abR:=lz ok.1 ok.2.1
   have abN:=lz YV.1 YV.2.1
   obtain⟨ss,a1,es⟩:=a.inter q2
   obtain⟨ts,b1,et⟩:=(show Mt rows t l from b).inter l2
   have hd1:(NJ σ (s,t)).deep=σ.deep+1:=rfl
   have hk1:(NJ σ (s,t)).aq=σ.aq+1:=rfl
   refine Wb es et<|Run.rd (Rd.Rx (Rd.seq (Rd.k0 (show 1<90 by decide)) (Rd.seq (Rd.k0 (show 1<90 by decide)) (Rd.eq 7 7))) (Rd.tf (Rd.tN (Rd.seq (Rd.k0 (show 1<90 by decide)) (Rd.eq 7 6)) (Rd.tf (Rd.seq (Rd.k0 (show 1<90 by decide)) (Rd.eq 7 7))))))<|Run.yes<|Run.bh<|Run.rd (Rd.seq (Rd.seq Kg (Rd.seq (Rd.seq Kg (Rd.ret _)) (Rd.ret _))) (Rd.ret _))<|Run.an [] (H1 (n:=n) (L:=σ.aq+101) G Ie a1 b1 abR abN Y8 (by lia) (by lia) (by lia)) fun{r _ _} st pp=>?_
   induction r with
   | false=>exact Run.rd (a:=false) (fun zz zz=>rfl)<|Run.no<|Run.ret ⟨st.less (by lia),(fun z=>fS z),fun h=>by have:=pp.mpr fun k hk=>(tj.mp h k).mp hk;exact fS this⟩
   | true =>
    have hi:=st.hi
    have d2:=st.deep
    exact Run.rd (a:=true) (fun zz zz=>rfl)<|Run.yes<|Run.rd (Rd.seq (Rd.seq Kg (Rd.seq (Rd.seq Kg (Rd.ret _)) (Rd.ret _))) (Rd.ret _))<|Run.an [] (H1 (n:=n) G st.ok (b1.pre st.pre) (a1.pre st.pre) abN abR (Y8.step st) (by lia) (by lia) hL) fun vx pp3=>⟨(st.trans vx).less (aaX _),fun h=>tj.mpr fun x=>⟨pp.mp rfl x,pp3.mp h x⟩,fun h=>pp3.mpr fun x hx=>(tj.mp h x).mpr hx⟩
  ·have hkd:vw [q]≠vw dt:=by
    rw[gT q2]
    by_cases t2:2≤dt.length
    ·rw[tG t2];decide
    ·obtain⟨l,rfl⟩:=fe g.1 t2
     obtain⟨x,rfl⟩:=fe (g.2.1 l (.head _)) fun h=>hl ⟨l,rfl,h⟩
     exact fun h=>(ku x).2.1 h.symm
   exact Nv Ie.rw (show Ty rows s [q]from a) b hkd (gT q2) ⟨Sp.refl Ie.less (by show σ.aq+1≤L;lia),(fun z=>fS z),(by rintro⟨q',l,h1,h2,h⟩;exact by cases h1;exact absurd ⟨l,h2,len h⟩ hl)⟩
end Mine
namespace Mine
open PySem
variable{Γ:Ctx}{rows:List PV}{σ:ey}{α β:Type}{K:List ap}{Q:PV→List ap→Prop}{d L s t n k x y m:Nat}{q l ss ts:List Nat}{ds dt:cj}{cl:Str→List PV→CM PV}
theorem gP.fld(j:Nat){i:Nat}{c a:Str}{fs:List (Str×PV)}{v:PV}(e:K[j]?=some (i,.inst c fs))(hf:ai.field a=true)(m:afh (fs.length+2) ax=true):gP K (ee ai.field (.ref i) a v) () (K.set j (i,.inst c (vL a v fs))):=gP.cell (fun zz e h=>Q5 e hf (acT m) h) j e
theorem Run.fld(j:Nat){i:Nat}{c a:Str}{fs:List (Str×PV)}{v:PV}{f:Unit→CM β}{Q:β→List ap→Prop}(e:K[j]?=some (i,.inst c fs))(hf:ai.field a=true)(m:afh (fs.length+2) ax=true)(g:Run (K.set j (i,.inst c (vL a v fs))) (f ()) Q):Run K (aa (ee ai.field (.ref i) a v) f) Q:=Run.det (gP.fld j e hf m) g
theorem Run.make{c k:Str}{vs:List PV}{Q:PV→List ap→Prop}(h:∀i,Run ((i,.inst c [])::K) (cl k (.ref i::vs)) fun v K'=>v=.none∧Q (.ref i) K'):Run K (jz cl c vs (some (some k))) Q :=
 Run.eq (m':=aa (Mine.new (.inst c [])) fun o=>aa (cl k (o::vs)) fun r=>(match r with | .none=>Mine.ret o | _=>bc)) rfl (Run.new fun i=>(h i).seq (by rintro _ _ ⟨e,q⟩;exact by rw[e];exact Run.ret q))
theorem Run.to{K':List ap}{m:CM β}{Q:β→List ap→Prop}(e:K=K')(h:Run K' m Q):Run K m Q:=e▸h
noncomputable def PI(ho:Nat)(md:Int)(rel rules sP yU jW road A7 sM:Nat):List ap:=[(sM,.list []),(A7,.inst (S "Notes") [(S "rows",.ref sM)]),(road,.list []),(jW,.list []),(yU,.dict []),(sP,.dict []),(rules,.dict []),
 (rel,.inst (S "Rel") [(S "host",.ref ho),(S "mode",.int md),(S "rules",.ref rules),(S "assumed",.ref sP),(S "known",.ref yU),(S "trail",.ref jW),(S "road",.ref road),(S "deep",.int 0),(S "looks",.int 0),(S "notes",.ref A7),(S "telling",.bool true),(S "twin",.none),(S "missing",.str (S "")),(S "at",.int 0)])]
theorem Nn{ho:Nat}{md:Int}(g:∀rel rules sP yU jW road A7 sM,Q (.ref rel) (PI ho md rel rules sP yU jW road A7 sM++K)):Run K (jz (Φ (n+2)) (S "Rel") [.ref ho,.int md] (some (some (S "Rel.__init__")))) Q:=by
 refine Run.make fun rel=>Run.eq (E8 ..)<|Run.fld 0 rfl (by kernel_rfl!) (by kernel_rfl!)<|Run.fld 0 rfl (by kernel_rfl!) (by kernel_rfl!)<|Run.new fun rules=>Run.fld 1 rfl (by kernel_rfl!) (by kernel_rfl!)<|Run.new fun sP=>Run.fld 2 rfl (by kernel_rfl!) (by kernel_rfl!)<|Run.new fun yU=>Run.fld 3 rfl (by kernel_rfl!) (by kernel_rfl!)<|Run.new fun jW=>Run.fld 4 rfl (by kernel_rfl!) (by kernel_rfl!)<|Run.new fun road=>Run.fld 5 rfl (by kernel_rfl!) (by kernel_rfl!)<|Run.fld 5 rfl (by kernel_rfl!) (by kernel_rfl!)<|Run.fld 5 rfl (by kernel_rfl!) (by kernel_rfl!)<|Run.bh<|Run.make fun A7=>Run.eq (yJ ..)<|Run.new fun sM=>Run.fld 1 rfl (by kernel_rfl!) (by kernel_rfl!)<|Run.ret ⟨rfl,Run.fld 7 rfl (by kernel_rfl!) (by kernel_rfl!)<|Run.fld 7 rfl (by kernel_rfl!) (by kernel_rfl!)<|Run.fld 7 rfl (by kernel_rfl!) (by kernel_rfl!)<|Run.fld 7 rfl (by kernel_rfl!) (by kernel_rfl!)<|Run.fld 7 rfl (by kernel_rfl!) (by kernel_rfl!)<|Run.to (K':=PI ho md rel rules sP yU jW road A7 sM++K) (by kernel_rfl!)<|Run.ret ⟨rfl,g rel rules sP yU jW road A7 sM⟩⟩
noncomputable def Hf(Γ:Ctx)(h2:pY)(R:Nat):Ctx:={ c:=Γ.c,h:=h2,bs:=Γ.bs,bd:=Γ.bd,R:=R,P:=fun r ds dt=>(r=true↔Eqv ds dt) }
noncomputable def SI(h:pY)(σ:ey):List ap:=[(h.rel,pC h σ),(h.sP,.dict (σ.ic.map rJ)),(h.yU,.dict σ.known),(σ.jW,.list (σ.trail.map cg))]
noncomputable def SL(Γ:Ctx):List ap:=[(Γ.h.host,tA Γ.c),(Γ.h.rules,.dict [(.int 1,.ref Γ.h.r1),(.int 2,.ref Γ.h.r2)]),(Γ.h.r1,.inst (S "RelateMeetRule") []),(Γ.h.r2,.inst (S "ParamRule") [])]
noncomputable def SK(h:pY):List ap:=[(h.A7,.inst (S "Notes") [(S "rows",.ref h.sM)]),(h.sM,.list [])]
noncomputable abbrev lK:=Option (pY×ey)
noncomputable def Wo:lK→List ap
 | none=>[]
 | some (h,σ)=>SI h σ++SK h
structure Zi(Γ:Ctx)(L:Nat)(rows:List PV)(σ:ey)(h2:pY)(nU:ey):Prop where
 tw:σ.tw=.ref h2.rel
 ok:∀R,rows.length≤R+50*nU.aq→Ok (Hf Γ h2 R) 0 rows nU
 mode:h2.mode=3
 sh:∀R,SL (Hf Γ h2 R)=SL Γ
 nil:nU.trail=[]
 dp:nU.deep=0
 lk:nU.aq≤L
noncomputable def TwS(Γ:Ctx)(L:Nat)(rows:List PV)(σ:ey):lK→Prop
 | none=>σ.tw=.none
 | some (h2,nU)=>Zi Γ L rows σ h2 nU
theorem Ok.reR{h2:pY}{R R':Nat}(o:Ok (Hf Γ h2 R) 0 rows σ)(h:rows.length≤R'+50*σ.aq):Ok (Hf Γ h2 R') 0 rows σ:=⟨o.rw,o.S8,h,o.ea,o.nd,o.kk,o.tk,o.len,o.Tc⟩
theorem TwS.grow{ah:List PV}{dr:ey}{tw:lK}(t:TwS Γ L rows σ tw)(R:Rw ah)(p:rows <+: ah)(e:dr.tw=σ.tw):TwS Γ L ah dr tw:=by
 obtain _ | ⟨h2,nU⟩:=tw
 ·exact e.trans t
 ·have o:=t.ok rows.length (acR ..)
  exact⟨e.trans t.tw,fun R' h=>⟨R,o.S8.pre p,h,o.ea,o.nd,o.kk,o.tk,o.len,fun p' v e=>(o.Tc p' v e).imp fun zz h=>⟨h.1,Told.pre p h.2⟩⟩,t.mode,t.sh,t.nil,t.dp,t.lk⟩
theorem XY(a b c e f g:List ap):((a++b)++((c++(e++f))++g)).Perm ((c++f)++((a++(e++b))++g)):=by
 classical
 rewrite[af2]
 intro x
 rw[ac4];rw[ac4];rw[ac4];rw[ac4];rw[ac4];rw[ac4];rw[ac4];rw[ac4];rw[ac4];rw[ac4]
 lia
theorem Wp{tw:lK}(W:Ok Γ d rows σ)(T:TwS Γ L rows σ tw)(hm:Γ.h.mode≠3)(g:∀h2 nU,Zi Γ L rows { σ with tw:=.ref h2.rel } h2 nU→Q (.ref h2.rel) (Wo (some (h2,nU))++bp Γ rows { σ with tw:=.ref h2.rel })):Run (Wo tw++bp Γ rows σ) (Φ (n+4) (S "twin_of") [.ref Γ.h.rel]) Q:=by
 have m3:((Γ.h.mode:Int) == 3)=false:=fU (by lia)
 have up:∀{α:Type} {C:List ap} {m:CM α} {a:α} {σ:ey},gr Γ rows σ m a→Rd (C++bp Γ rows σ) m a:=fun h H r=>h H (r.sub (ab7 ..))
 refine Run.eq (Ob ..)<|Run.rd (up (Rd.seq fI (Rd.gL m3)))<|Run.no ?_
 obtain _ | ⟨h2,nU⟩:=tw
 ·have hn:σ.tw=.none:=T
  refine Run.rd (a:=true) (up (Rd.seq Kh (by rw[hn];exact fun zz zz=>rfl)))<|Run.yes<|Run.bh<|Run.eq (BL ..)<|Run.bh<|Run.rd (up (Rd.seq iC (Rd.ret _)))<|Nn fun rel rules sP yU jW road A7 sM=>?_
  let h2:pY:=⟨rel,Γ.h.host,Γ.h.rules,sP,yU,road,A7,sM,Γ.h.r1,Γ.h.r2,3,false⟩
  let nU:ey:=⟨jW,0,0,.none,[],[],[]⟩
  let dr:ey:={ σ with tw:=.ref rel }
  refine Run.rd (up vn)<|Run.fld 7 rfl (by kernel_rfl!) (by kernel_rfl!)<|Run.fld 7 rfl (by kernel_rfl!) (by kernel_rfl!)<|Run.ret<|Run.to (K':=[(sM,.list []),(A7,.inst (S "Notes") [(S "rows",.ref sM)]),(road,.list []),(jW,.list []),(yU,.dict []),(sP,.dict []),(rules,.dict []),(rel,pC h2 nU)]++bp Γ rows σ) (by kernel_rfl!)<|Run.fld 8 (fs:=Nl Γ.h σ) rfl (by kernel_rfl!) (by kernel_rfl!)<|Run.to (K':=[(sM,.list []),(A7,.inst (S "Notes") [(S "rows",.ref sM)]),(road,.list []),(jW,.list []),(yU,.dict []),(sP,.dict []),(rules,.dict []),(rel,pC h2 nU)]++bp Γ rows dr) (by kernel_rfl!)<|Run.sub (.cons₂ _ (.cons₂ _ (.cons _ (.cons₂ _ (.cons₂ _ (.cons₂ _ (.cons _ (.refl _))))))))<|Run.perm (K':=Wo (some (h2,nU))++bp Γ rows dr) ((List.reverse_perm [(sM,.list []),(A7,.inst (S "Notes") [(S "rows",.ref sM)]),(jW,.list []),(yU,.dict []),(sP,.dict []),(rel,pC h2 nU)]).symm.append_right _)<|Run.of _ (up Kh).det (g h2 nU ⟨rfl,fun R h=>⟨W.rw,W.S8,h,rfl,.nil,(fun zz z=>zM z),(fun zz z=>zM z),aaX _,(fun zz zz z=>du z)⟩,rfl,fun zz=>rfl,rfl,rfl,acV _⟩)
 ·have T:Zi Γ L rows σ h2 nU:=T
  have e:({ σ with tw:=.ref h2.rel }:ey)=σ:=by rewrite[← T.tw];rfl
  have g:=g h2 nU
  rw[e]at g
  exact Run.rd (a:=false) (up (Rd.seq Kh (by rw[T.tw];exact fun zz zz=>rfl)))<|Run.no<|Run.of _ (up (T.tw▸Kh)).det (g T)
structure Lw(Γ:Ctx)(d L:Nat)(rows:List PV)(σ:ey)(tw:lK):Prop where
 ok:Ok Γ d rows σ
 tw:TwS Γ L rows σ tw
 nil:σ.trail=[]
 dp:σ.deep=0
noncomputable abbrev eb(Γ:Ctx)(rows:List PV)(σ:ey)(tw:lK):List ap:=Wo tw++bp Γ rows σ
theorem Run.out{m:CM PV}(h:Run K m fun v K'=>∃Tl,K'.Perm Tl∧Q v Tl):Run K m Q:=fun F H r l=>by
 obtain⟨v,K',H',e,r',l',Tl,p,q⟩:=h F H r l
 exact⟨v,Tl,H',e,r'.perm (p.append_right F),l',q⟩
theorem QP{h2:pY}{R:Nat}(sh:SL (Hf Γ h2 R)=SL Γ)(dr nU:ey):(Wo (some (h2,nU))++bp Γ rows dr).Perm ((SI Γ.h dr++SK Γ.h)++bp (Hf Γ h2 R) rows nU):=by
 have p:=XY (SI h2 nU) (SK h2) (SI Γ.h dr) (SL Γ) (SK Γ.h) (cf Γ.c Γ.bs rows)
 have e:bp (Hf Γ h2 R) rows nU=(SI h2 nU++(SL Γ++SK h2))++cf Γ.c Γ.bs rows:=by rewrite[← sh];rfl
 rw[e]
 exact p
theorem aas(a b:Nat):a-b=0∨a-b+b=a:=(Nat.le_total a b).imp Nat.sub_eq_zero_of_le afJ
theorem aan{tw:lK}(G:GM Γ)(l:Lw Γ (d+10050) L rows σ tw)(a:Mt rows s q)(q2:2≤q.length)(ok:ew q)(b:Ty rows t dt)(gt:YA dt)(hL:L+201<9000)(hR:Γ.R=1000000)(hd:d≤500000)(hk:σ.aq<20000)
  (g:∀{r ah dr NK},Lw Γ d (L+201) ah dr NK→rows <+: ah→dr.aq=σ.aq→dr.known=σ.known→(r=true↔Eqv [q] dt)→Q (.bool r) (eb Γ ah dr NK)):Run (eb Γ rows σ tw) (Φ (n+14) (S "Rel.same") [.ref Γ.h.rel,.int s,.int t]) Q:=by
 have hm:Γ.h.mode≠3:=by rcases G.mode with h | h <;> rw[h] <;> decide
 refine Run.eq (KU ..)<|Run.rd (Rd.seq (Rd.eq _ _) (Rd.ret _))<|Run.rd (a:=((s:Int) == t)) (fun zz zz=>rfl) ?_
 by_cases jd:s=t
 ·subst jd
  have e:=Ty.fn l.ok.rw.base (show Ty rows s [q]from a) b
  rw[beq_self_eq_true]
  refine Run.yes<|Run.ret<|g ⟨l.ok.less,?_,l.nil,l.dp⟩ (abg _) rfl rfl ⟨fun zz=>⟨q,q,rfl,e.symm,fun zz=>Iff.rfl⟩,fun zz=>rfl⟩
  obtain _ | ⟨h2,nU⟩:=tw
  ·exact l.tw
  ·have t:=l.tw
   exact⟨t.tw,t.ok,t.mode,t.sh,t.nil,t.dp,acX t.lk⟩
 ·rw[fU (show(s:Int)≠t by lia)]
  refine Run.no<|Run.bh<|Wp (n:=n+9) l.ok l.tw hm fun h2 nU T=>?_
  have nm:=l.ok.num
  have lk:=T.lk
  have G2:GT (Hf Γ h2 (rows.length-50*nU.aq)):=⟨⟨G.g.tok,aa4 (Nat.sub_le ..) (by lia)⟩,T.mode,fun zz zz zz=>Iff.rfl⟩
  have W2:=T.ok (rows.length-50*nU.aq) (by lia)
  have up:Rd ((SI Γ.h { σ with tw:=.ref h2.rel }++SK Γ.h)++bp (Hf Γ h2 (rows.length-50*nU.aq)) rows nU) (au ai (.ref h2.rel) (S "ask")) (.fn (S "Rel.ask")):=fun H r=>mD (Γ:=Hf Γ h2 (rows.length-50*nU.aq)) H (r.sub (ab7 ..))
  refine Run.perm (QP (T.sh _) _ _)<|Run.out<|Run.rd up<|Run.an _ (aaD (n:=n+1) (L:=nU.aq+201) G2 W2 a q2 ok b gt T.nil (by rw[T.dp];decide) (aaX _) (by lia)) fun{r ah τ} st pp=>⟨_,(QP (T.sh _) _ _).symm,g (NK:=some (h2,τ)) (dr:={ σ with tw:=.ref h2.rel }) ⟨?_,?_,l.nil,l.dp⟩ st.pre rfl rfl pp⟩
  ·have o:=l.ok
   have n2:=st.ok.num
   have hi:=st.hi
   have n2:ah.length≤rows.length-50*nU.aq+50*τ.aq:=n2
   have n3:=aas rows.length (50*nU.aq)
   have n4:ah.length+d≤Γ.R+50*σ.aq:=by generalize rows.length-50*nU.aq=z at n2 n3;lia
   exact⟨st.ok.rw,o.S8.pre st.pre,n4,o.ea,o.nd,o.kk,o.tk,o.len,fun p v e=>(o.Tc p v e).imp fun zz h=>⟨h.1,h.2.pre st.pre⟩⟩
  ·exact⟨rfl,fun R h=>st.ok.reR h,T.mode,T.sh,st.tr0 T.nil,st.deep.trans T.dp,by have:=st.hi;lia⟩
end Mine
namespace Mine
open PySem
variable{α β:Type}{K:List ap}{Q:PV→List ap→Prop}{d n m k x y dI nI at':Nat}{nums:List Int}{cl:Str→List PV→CM PV}
noncomputable def dC(dI nI at':Nat):ap:=(dI,.list [.int at',.ref nI])
theorem mul_int{a b:Int}(h1:a.natAbs<1000000)(h2:b.natAbs<1000000)(H:CH):binop .Mult (.int a) (.int b) H=some (.int (a*b),H):=by
 show fM (decide (a.natAbs<1000000)) (ret (PV.int (a*b))) H=_
 rw[decide_eq_true h1]
 rfl
theorem mod_int{a b:Int}(h:0<b)(H:CH):binop .Mod (.int a) (.int b) H=some (.int (a % b),H):=by
 show fM (decide (0<b)) (ret (PV.int (a % b))) H=_
 rw[decide_eq_true h]
 rfl
theorem jm{r n:Nat}{l:List PV}{v:PV}{H:CH}(h:H[r]?=some (.list l))(hn:n<l.length)(h2:2≤r):setItem (.ref r) (.int n) v H=some ((),H.set r (.list (l.set n v))):=by
 refine(dx h _).trans ?_
 show fM (ahk n l.length) (put r (.list (l.set n v))) H=_
 rewrite[show ahk n l.length=true from ad6 hn]
 exact rP h2
theorem XI(z:Int)(hm:0<m):∃r:Nat,r<m∧z % (m:Int)=r:=by
 have h1:=Int.emod_nonneg z (show(m:Int)≠0 by lia)
 have h2:=Int.emod_lt_of_pos z (show(0:Int)<m by lia)
 exact⟨(z % (m:Int)).toNat,by lia,by lia⟩
theorem mF(hn:(nI,CO.list (nums.map .int))∈K)(hm:0<m)(ha:at'<90000)(g:∀r:Nat,r<m→Q (.int r) (dC dI nI (at'+1)::K)):Run (dC dI nI at'::K) (Φ (n+1) (S "_law_take") [.ref dI,.int m]) Q:=by
 have Xp:(nI,CO.list (nums.map .int))∈dC dI nI (at'+1)::K:=.tail _ hn
 have g1:Rd (dC dI nI (at'+1)::K) (getItem (.ref dI) (.int (1:Nat))) (.ref nI):=Rd.item (.head _) rfl
 have fin:∀z:Int,Run (dC dI nI (at'+1)::K) (uh (.int m) (.int z)) Q:=fun z=>by
  obtain⟨r,hr,e⟩:=XI z hm
  exact Run.of _ (Rd.det fun H zz=>mod_int (show(0:Int)<m by lia) H) (e▸g r hr)
 refine Run.eq (K0 ..)<|Run.rd (Rd.item (i:=0) (.head _) rfl)<|Run.rd (a:=.int ((at'+1:Nat):Int)) (fun zz zz=>rfl)<|Run.det (gP.cell (o':=.list [.int ((at'+1:Nat):Int),.ref nI]) (fun zz e h=>jm (n:=0) (l:=[.int at',.ref nI]) e (show 0<2 by decide) h) 0 rfl) ?_
 by_cases IE:at'<nums.length
 ·have q:decide ((at':Int)<((nums.map PV.int).length:Int))=true:=decide_eq_true (by rw[aaY];lia)
  exact Run.rd (Rd.seq (Rd.seq (Rd.seq (Rd.seq g1 (Rd.ret _)) (Rd.len Xp)) fun zz zz=>(lt_int ..).trans (by rw[q];rfl)) (Rd.yes (Rd.seq g1 (Rd.item (v:=.int nums[at']) Xp (by rw[adf];rw[aa8 IE];rfl))))) (fin nums[at'])
 ·have q:decide ((at':Int)<((nums.map PV.int).length:Int))=false:=decide_eq_false (by rw[aaY];lia)
  exact Run.rd (a:=.int ((at':Int)*11+3)) (Rd.seq (Rd.seq (Rd.seq (Rd.seq g1 (Rd.ret _)) (Rd.len Xp)) fun zz zz=>(lt_int ..).trans (by rw[q];rfl)) (Rd.no (Rd.seq (fun H zz=>mul_int (by lia) (by lia) H) (fun zz zz=>rfl)))) (fin ((at':Int)*11+3))
noncomputable def ff(l:List Nat):Prop:=¬(4∈l∧(2∈l∨3∈l))
structure Kz(c OG lw:Nat)(l:List Nat):Prop where
 nd:l.Nodup
 lt:∀k∈l,k<c
 nc:ff l
 len:l.length≤lw+OG-1
noncomputable def yS(l:List Nat)(x:Nat):Bool:=!decide (x∈l)&&((!decide (x∈[2,3]) || !decide (4∈l))&&(!decide (x=4) || (!decide (2∈l)&&!decide (3∈l))))
theorem Rd.orB{m x:CM Bool}{a b:Bool}(h:Rd K m a)(g:Rd K x b):Rd K (aa m fun b=>af b (Mine.ret true) x) (a || b):=Rd.seq h (by cases a;exact g;exact Rd.ret _)
theorem Rd.NR{m x:CM Bool}{a b:Bool}(h:Rd K m a)(g:Rd K x b):Rd K (aa m fun b=>af b x (Mine.ret false)) (a&&b):=Rd.seq h (by cases a;exact Rd.ret _;exact g)
theorem Xi{l:List Nat}(nc:ff l)(h:yS l x=true):ff (l++[x]):=by
 unfold yS at h
 rw[ade,ade,aeE,aeE,ade,acQ,acQ,acQ,acQ,acQ,acQ,decide_eq_false_iff_not,decide_eq_false_iff_not,decide_eq_false_iff_not,decide_eq_false_iff_not,decide_eq_false_iff_not,decide_eq_false_iff_not]at h
 obtain⟨zz,h2,h3⟩:=h
 rintro⟨a,b⟩
 rw[aa7,aad]at a
 rw[aa7,aad,aa7,aad]at b
 rcases a with a | rfl
 ·rcases h2 with h2 | h2
  ·rcases b with (b | b) | (b | b)
   ·exact nc ⟨a,.inl b⟩
   ·exact h2 (b▸.head _)
   ·exact nc ⟨a,.inr b⟩
   ·exact h2 (b▸.tail _ (.head _))
  ·exact h2 a
 ·have h3:=h3.resolve_left fun h=>h rfl
  rcases b with (b | b) | (b | b)
  ·exact h3.1 b
  ·cases b
  ·exact h3.2 b
  ·cases b
theorem PM(hn:(nI,CO.list (nums.map .int))∈K){c OG lw r:Nat}(hc:0<c){pm pl:PV}(hN:m+k<100)(g:∀l at',at'≤x+m+k→l.Nodup→(∀y∈l,y<c)→ff l→l.length≤m+k→(1≤m+k→l≠[])→Q (.ref r) ((r,.list (bi l))::dC dI nI at'::K)) :
  ∀{j i at':Nat} {l:List Nat} {o5 o6:Option PV},i+j=m+k→at'=x+i→at'+j<90000→l.Nodup→(∀y∈l,y<c)→ff l→l.length≤i→(1≤i→l≠[]) →
  Run ((r,.list (bi l))::dC dI nI at'::K) (gH (jf (Φ (n+1))) (bi (adR i j)) [some (.ref dI),some (.int c),some pm,some pl,some (.ref r),o5,o6,none,none] jg) Q:=by
 intro j
 induction j with
 | zero=>exact fun ZN ha zz nd lt nc hl ne=>Run.eq (DO ..) (Run.ret (g _ _ (by lia) nd lt nc (by lia) fun h=>ne (by lia)))
 | succ j ih =>
  intro i at' l o5 o6 ZN ha hb nd lt nc hl ne
  refine Run.eq (DN ..)<|Run.bh<|Run.imp (Run.up (c:=(r,.list (bi l))) (mF (n:=n) (Q:=fun v K'=>∃o:Nat,o<c∧v=.int o∧K'=dC dI nI (at'+1)::K) hn hc (by lia) fun o ho=>⟨o,ho,rfl,rfl⟩)) ?_
  rintro _ _ ⟨_,rfl,o,ho,rfl,rfl⟩
  have nl:=fun t:Nat=>Rd.Fn (K:=(r,.list (bi l))::dC dI nI (at'+1)::K) (t:=t) (ts:=l) (.head _)
  have e4:((o:Int) == 4)=decide (o=4):=by rewrite[acr,beq_iff_eq];rw[decide_eq_true_eq];lia
  have n23:Rd ((r,.list (bi l))::dC dI nI (at'+1)::K) (ae .NotIn (.int o) (.tup [.int 2,.int 3])) (!decide (o∈[2,3])):=Rd.seq (m:=contains (.int o) (.tup (bi [2,3]))) (f:=fun b=>ret (!b)) (fun H zz=>BS H o [2,3]) (Rd.ret _)
  have n2:Rd ((r,.list (bi l))::dC dI nI (at'+1)::K) (ae .NotIn (.int 2) (.ref r)) (!decide (2∈l)):=nl 2
  have n3:Rd ((r,.list (bi l))::dC dI nI (at'+1)::K) (ae .NotIn (.int 3) (.ref r)) (!decide (3∈l)):=nl 3
  have n4:Rd ((r,.list (bi l))::dC dI nI (at'+1)::K) (ae .NotIn (.int 4) (.ref r)) (!decide (4∈l)):=nl 4
  refine Run.rd (a:=yS l o) (Rd.NR (nl o) (Rd.NR (Rd.orB n23 (Rd.tf n4)) (Rd.tf (Rd.orB (Rd.neI (b:=!decide (o=4)) (by rw[e4];rfl)) (Rd.tf (Rd.NR n2 (Rd.tf n3))))))) ?_
  generalize hf:yS l o=zq;induction zq with
  | false =>
   refine Run.no (ih (by lia) (by lia) (by lia) nd lt nc (by lia) fun zz e=>?_)
   subst e
   unfold yS at hf
   simp at hf
  | true =>
   have h1:o∉l:=by unfold yS at hf;rw[ade,acQ,decide_eq_false_iff_not]at hf;exact hf.1
   refine Run.yes<|Run.det (gP.to (jB 0 rfl (by rw[bm];unfold ax;lia)) (NP:=(r,.list (bi (l++[o])))::dC dI nI (at'+1)::K) (by rw[eI];rfl))<|Run.gC<|ih (by lia) (by lia) (by lia) (acL.mpr ⟨nd,acS _ o,fun a ha b hb e=>h1 (aad.mp hb▸e▸ha)⟩) (fun y hy=>(aa7.mp hy).elim (lt y) fun hy=>aad.mp hy▸ho) (Xi nc hf) (by rw[aaA];rw[abf];lia) fun zz e=>by cases l <;> cases e
theorem PL(hn:(nI,CO.list (nums.map .int))∈K){c OG lw:Nat}(hc:0<c)(hm:0<OG)(ha:at'<80000)(hw:lw+OG<90)(g:∀r l at2,at2≤at'+lw+OG→Kz c OG lw l→(1≤lw→l≠[])→Q (.ref r) ((r,.list (bi l))::dC dI nI at2::K)) :
  Run (dC dI nI at'::K) (Φ (n+2) (S "_law_some") [.ref dI,.int c,.int OG,.int lw]) Q:=by
 refine Run.eq (KZ ..)<|Run.new fun r=>Run.bh<|Run.bh<|Run.bh<|Run.imp (Run.up (c:=(r,.list [])) (mF (n:=n) (Q:=fun v K'=>∃o:Nat,o<OG∧v=.int o∧K'=dC dI nI (at'+1)::K) hn hm (by lia) fun o ho=>⟨o,ho,rfl,rfl⟩)) ?_
 rintro _ _ ⟨_,rfl,o,ho,rfl,rfl⟩
 refine Run.of (binop .Add (.int lw) (.int o)) (v:=.int ((lw+o:Nat):Int)) (Rd.det fun zz zz=>rfl)<|Run.of _ (Rd.det fun H zz=>fJ (by lia) H)<|Run.rd (a:=lw+o) (fun zz zz=>by rw[bz];rw[bm];rw[ac5];rfl) ?_
 have e:=ch (jf (Φ (n+1))) (bi (adR 0 (lw+o))) [some (.ref dI),some (.int c),some (.int OG),some (.int lw),some (.ref r),none,none,none,none] jg
 rw[bm,ac5]at e
 exact Run.eq e (PM (x:=at'+1) (l:=[]) hn (OG:=OG) (lw:=lw) hc (by lia) (fun l a2 h1 nd lt nc hl ne=>g r l a2 (by lia) ⟨nd,lt,nc,by lia⟩ fun h=>ne (by lia)) (ad4 _) rfl (by lia) .nil (fun zz z=>zM z) (fun h=>(afs h.1).elim) (aaX _) fun h=>(aff _ h).elim)
end Mine
namespace Mine
open PySem
variable{c:eN}{rows bs:List PV}{α β:Type}{K I:List ap}{Q:PV→List ap→Prop}{n m k x y:Nat}{cl:Str→List PV→CM PV}
noncomputable def az(rs:List Nat):List PV:=rs.map fun i:Nat=>.ref i
noncomputable def As(K:List ap)(rs:List Nat)(ls:cj):Prop:=Sim.ay (fun r l=>(r,CO.list (bi l))∈K) rs ls
theorem As.sub{K K':List ap}(h:∀x∈K,x∈K'){rs:List Nat}{ls:cj}(a:As K rs ls):As K' rs ls:=Sim.ay.imp (fun zz zz a=>h _ a) a
theorem As.len{rs:List Nat}{ls:cj}(a:As K rs ls):rs.length=ls.length:=(Sim.ay.len a).symm
noncomputable def pZ(r:Nat)(l:List PV)(turn:PV→CM (List PV))(rest:List PV):CM (List PV):=av (.live r) turn rest.length (l.length-rest.length)
section
variable{turn:PV→CM (List PV)}{R:List PV→List ap→Prop}{r:Nat}{l rest:List PV}{x:PV}
theorem Run.KE(h:(r,CO.list l)∈K)(q:R [] K):Run K (pZ r l turn []) R:=by
 unfold pZ av
 exact Run.rd (Rd.mem (fun zz=>jx) h) (Run.ret q)
theorem Run.xV(h:(r,CO.list l)∈K)(s:x::rest <:+ l)(g:Run K (turn x) fun y K'=>Run K' (pZ r l turn rest) fun t Tl=>R (y++t) Tl):Run K (pZ r l turn (x::rest)) R:=by
 obtain⟨p,rfl⟩:=s
 have e:(p++x::rest).length-(rest.length+1)=p.length:=by rw[aaA];rw[aaK];lia
 have e2:(p++x::rest).length-rest.length=p.length+1:=by rw[aaA];rw[aaK];lia
 unfold pZ at g ⊢
 rw[aaK];rw[e]
 rw[e2]at g
 dsimp only[av]
 exact Run.rd (Rd.mem (fun zz z=>pM z (by rw[abE (aaX _)];rw[ads];rfl)) h) (Run.bh (g.imp fun zz zz h=>Run.bh (h.imp fun zz zz h=>Run.ret h)))
theorem Run.Ik(h:(r,CO.list l)∈K){T:List PV→CM PV}{Q:PV→List ap→Prop}(g:Run K (pZ r l turn l) fun v K'=>Run K' (T v) Q):Run K (aa (da (.ref r)) fun t=>aa (bj t) fun n=>aa (av t turn n 0) T) Q:=by
 unfold pZ at g
 rw[ads]at g
 exact Run.rd (Rd.mem (fun zz=>dh) h) (Run.rd (Rd.mem (fun zz=>cu) h) (Run.bh g))
end
theorem Run.rt(I:List ap){m:CM β}{R:β→List ap→Prop}(h:Run K m R):Run (K++I) m fun v K'=>∃gf,K'=gf++I∧R v gf:=fun F H r l=>by
 rw[aaW]at r
 obtain⟨v,K',H',e,r',l',q⟩:=h (I++F) H r l
 exact⟨v,K'++I,H',e,by rw[aaW];exact r',l',K',rfl,q⟩
theorem Lb{τ:Nat→Nat}{g:PV→List PV}(hg:∀t:Nat,g (.int t)=[.int (τ t)]):∀ss:List Nat,(bi ss).flatMap g=bi (ss.map τ)
 | []=>rfl
 | t::ss=>by rw[jv];rw[adQ];rw[hg];rw[Lb hg ss];rfl
theorem Rd.Qe{turn:PV→CM (List PV)}{r:Nat}{ss:List Nat}{τ:Nat→Nat}(h:(r,CO.list (bi ss))∈K)(ht:∀t∈ss,Rd K (turn (.int t)) [.int (τ t)]):Rd K (av (.live r) turn (bi ss).length 0) (bi (ss.map τ)):=by
 let g:PV→List PV:=fun | .int t=>[.int (τ t.toNat)] | _=>[]
 exact Lb (g:=g) (fun zz=>rfl) ss▸Rd.TC g h fun x hx=>by
  obtain⟨t,h1,rfl⟩:=abi.mp hx
  exact ht t h1
noncomputable def NM(m k:Nat):Prop:=k<10∧(k<5∨8≤k∨k<5+m)
noncomputable def KL(rows kl:List PV)(m:Nat)(τ:Nat→Nat):Prop:=∀k,NM m k→kl[k]?=some (.int (τ k))∧Th rows (τ k) k
structure GP(m:Nat)(l:List Nat):Prop where
 ne:l≠[]
 nd:l.Nodup
 df:∀k∈l,NM m k
 nc:ff l
structure Nm(p q:List Nat):Prop where
 ok:ew q
 ne:q≠[]
 yC:∀C,WW C→(ry q C↔ry p C)
 sub:∀x∈q,x∈p
theorem Zv{p:List Nat}(h:ff p):WW (Cl p):=by
 refine⟨fun c=>c.elim (fun c=>.inr ⟨rfl,c⟩) (by rintro⟨c,_⟩;exact(zC id c rfl)),?_⟩
 rintro⟨a | ⟨_,a⟩,b | ⟨b,_⟩⟩
 ·exact h ⟨b,.inl a⟩
 ·cases b
 ·exact h ⟨b,.inr a⟩
 ·cases b
theorem GP.len{l:List Nat}(g:GP m l):l.length≤10:=lz g.nd fun k hk=>(g.df k hk).1
theorem OL:∀l:List Nat,pr (l.map fun k=>[[k]])=1
 | []=>rfl
 | k::r=>(afn _).trans (OL r)
theorem Wq{τ:Nat→Nat}:∀{l:List Nat},(∀k∈l,Th rows (τ k) k)→KA rows (l.map τ) (l.map fun k=>[[k]])
 | [],_=>trivial
 | k::l,h=>⟨h k (.head _),Wq fun x hx=>h x (.tail _ hx)⟩
theorem US(R:Rw rows)(hm:rows.length+100<ax){r:Nat}{l:List Nat}{τ:Nat→Nat}(a:∀k∈l,Th rows (τ k) k)(g:GP m l) :
  Run ((r,.list (bi (l.map τ)))::cf c bs rows) (Φ (n+8) (S "inter") [.ref c.tab,.ref r]) (TQ c bs rows 50 fun ah v=>∃q,Mt ah v q∧Nm l q):=by
 have hl:=g.len
 have tl:(l.map τ).length=l.length:=aaY _
 refine Run.imp (Qv (n:=n) R (by lia) (Wq a) (fun e he=>?_) (by rw[OL];decide) (by lia)) fun zz zz q=>q.more (k':=50) (abg _) (by lia) fun{ah v} _ _ ⟨d,ty,ix⟩=>?_
 ·obtain⟨k,hk,rfl⟩:=abi.mp he
  exact⟨jo (g.df k hk).1,(fun z=>zC ac2 z rfl)⟩
 have aao:∀C,WW C→(Kx d C↔ry l C):=fun C w=>(ix.yC C w).trans ⟨fun h k hk=>fF.mp (bu.mp (h [[k]] (abi.mpr ⟨k,hk,rfl⟩))),fun h e he=>by
  obtain⟨k,hk,rfl⟩:=abi.mp he
  exact bu.mpr (fF.mpr (h k hk))⟩
 obtain⟨q,hq,zz⟩:=(aao (Cl l) (Zv g.nc)).mpr (lN l)
 have num:=ix.len
 rw[OL]at num
 obtain _ | ⟨q',_ | ⟨_,_⟩⟩:=d
 ·cases hq
 ·refine⟨q',ty,(ix.ok q' (.head _)).1,fun h=>?_,fun C w=>bu.symm.trans (aao C w),fun x hx=>?_⟩
  ·obtain⟨x,hx⟩:=ad7 l g.ne
   exact(aao (fun zz=>False) ⟨id,fun h=>h.1⟩).mp ⟨q',.head _,by rw[h];exact(fun zz z=>zM z)⟩ x hx
  ·obtain⟨e1,h1,l1,h2,h3⟩:=ix.sub q' (.head _) x hx
   obtain⟨k,hk,rfl⟩:=abi.mp h1
   cases aad.mp h2
   cases aad.mp h3
   exact hk
 ·exact absurd num (by rw[aaK];rw[aaK];exact fun h=>by cases h with | step h=>cases h)
noncomputable def WP(ps qs:cj):Prop:=Sim.ay Nm ps qs
theorem WP.mem{ps qs:cj}(h:WP ps qs){q:List Nat}(hq:q∈qs):∃p∈ps,Nm p q:=Sim.ay.mem h hq
theorem WP.oE{ps qs:cj}(h:WP ps qs){p:List Nat}(hp:p∈ps):∃q∈qs,Nm p q:=Sim.ay.oE h hp
theorem WP.len{ps qs:cj}(h:WP ps qs):ps.length=qs.length:=(Sim.ay.len h).symm
structure GK(goal d:cj):Prop where
 ok:P7 d
 ne:∀l∈d,l≠[]
 yC:∀C,WW C→(Kx d C↔∃p∈goal,ry p C)
 num:d.length≤goal.length
 qs:∃qs,WP goal qs∧(∀l∈d,l∈qs)∧∀q∈qs,q∈d∨(q=[3]∧[2]∈d)
theorem abD(R:Rw rows){goal qs d:cj}{us:List Nat}(hm:pF rows us qs)(hn:WP goal qs)(u:UnD rows us d):GK goal d:=by
 have dq:∀l∈d,l∈qs:=fun l hl=>by
  obtain⟨t,h1,h2⟩:=u.src l hl
  obtain⟨q,h3,h4⟩:=hm.oE h1
  exact h2.fn R.base h4▸h3
 have qd:∀q∈qs,q∈d∨(q=[3]∧[2]∈d):=fun q hq=>by
  obtain⟨t,h1,h2⟩:=hm.mem hq
  exact u.all t h1 q h2
 refine⟨fun l hl=>?_,fun l hl=>?_,fun C w=>⟨?_,?_⟩,by rw[hn.len];rewrite[← hm.len];exact u.len,qs,hn,dq,qd⟩
 ·obtain⟨p,h1,h2⟩:=hn.mem (dq l hl)
  exact⟨h2.ok,fun h=>absurd h h2.ne⟩
 ·obtain⟨p,h1,h2⟩:=hn.mem (dq l hl)
  exact h2.ne
 ·rintro⟨l,hl,i⟩
  obtain⟨p,h1,h2⟩:=hn.mem (dq l hl)
  exact⟨p,h1,(h2.yC C w).mp i⟩
 ·rintro⟨p,hp,i⟩
  obtain⟨q,h1,h2⟩:=hn.oE hp
  have iq:=(h2.yC C w).mpr i
  rcases qd q h1 with h | ⟨rfl,h⟩
  ·exact⟨q,h,iq⟩
  ·exact⟨[2],h,fun x hx=>by cases aad.mp hx;exact w.1 (iq 3 (.head _))⟩
inductive KQ (c:eN) (bs rows:List PV) (I:List ap) (ps:cj):List PV→List ap→Prop
 | mk {ah:List PV} {us:List Nat} {qs:cj}:Rw ah→rows <+: ah→ah.length≤rows.length+50*ps.length→pF ah us qs→WP ps qs→KQ c bs rows I ps (bi us) (cf c bs ah++I)
theorem KL.pre{ah kl:List PV}{τ:Nat→Nat}(p:rows <+: ah)(h:KL rows kl m τ):KL ah kl m τ:=fun k hk=>⟨(h k hk).1,(h k hk).2.pre p⟩
theorem RW{κ gI:Nat}{kl l:List PV}{τ:Nat→Nat}(hk:(κ,CO.list kl)∈I)(hg:(gI,CO.list l)∈I):∀{vs:List Nat} {ps:cj} {rows:List PV},Rw rows→rows.length+50*ps.length+100<ax→KL rows kl m τ→az vs <:+ l→As I vs ps→(∀p∈ps,GP m p) →
  Run (cf c bs rows++I) (pZ gI l (ug (Φ (n+8)) (.ref c.tab) (.ref κ)) (az vs)) (KQ c bs rows I ps):=by
 intro vs
 induction vs with
 | nil =>
  intro ps rows R hm K hs ha gp
  obtain rfl:ps=[]:=aaZ ha.len.symm
  exact Run.KE (aaJ _ hg) (KQ.mk (us:=[]) (qs:=[]) R (abg _) (aaX _) trivial trivial)
 | cons v vs ih =>
  intro ps rows R hm K hs ha gp
  obtain _ | ⟨p,ps⟩:=ps
  ·exact ha.elim
  rw[aaK]at hm
  have ZL:=gp p (.head _)
  have hl:=ZL.len
  refine Run.xV (aaJ _ hg) hs<|Run.bh<|Run.bh<|Run.bh<|Run.bh<|Run.rd (Rd.mem (fun zz=>dh) (aaJ _ ha.1))<|Run.rd (Rd.mem (fun zz=>cu) (aaJ _ ha.1))<|Run.rd (Rd.Qe (τ:=τ) (aaJ _ ha.1) fun k h=>Rd.seq (Rd.item (aaJ _ hk) (K k (ZL.df k h)).1) (Rd.ret _))<|Run.mk (by rw[bm];rw[aaY];unfold ax;lia) fun i=>Run.ret<|Run.ret<|((US (n:=n) R (by lia) (fun k h=>(K k (ZL.df k h)).2) ZL).rt I).imp fun zz zz hh=>?_
  obtain⟨zz,e,q⟩:=hh
  induction q with
  | mk R' pr hn h =>
   obtain⟨q,hq,nm⟩:=h
   subst e
   refine Run.ret (Run.imp (ih R' (by lia) (K.pre pr) ((abT ..).trans hs) ha.2 fun x hx=>gp x (.tail _ hx)) fun t Tl kq=>?_)
   induction kq with
   | mk R2 p2 n2 h1 h2=>exact KQ.mk (us:=_::_) (qs:=q::_) R2 (pr.trans p2) (by rw[aaK];lia) ⟨hq.pre p2,h1⟩ ⟨nm,h2⟩
theorem Ut(R:Rw rows)(hm:rows.length+300<ax){κ gI:Nat}{kl:List PV}{rs:List Nat}{goal:cj}{τ:Nat→Nat}(hk:(κ,CO.list kl)∈I)(K:KL rows kl m τ)(hg:(gI,CO.list (az rs))∈I)(ha:As I rs goal)(gp:∀p∈goal,GP m p)(gl:goal.length≤2)
  (g:∀{ah v d},Rw ah→rows <+: ah→ah.length≤rows.length+110→Ty ah v d→GK goal d→Q (.int (v:Nat)) (cf c bs ah++I)):Run (cf c bs rows++I) (Φ (n+9) (S "_law_kind") [.ref c.tab,.ref κ,.ref gI]) Q:=by
 refine Run.eq (KY ..)<|Run.bh<|Run.bh<|Run.bh<|Run.Ik (aaJ _ hg)<|(RW (n:=n) hk hg R (by lia) K (acf _) ha gp).imp fun zz zz kq=>?_
 induction kq with
 | @mk aw us qs R1 p1 n1 h1 h2 =>
  have hus:us.length=goal.length:=h1.len.trans h2.len.symm
  refine Run.mk (by rw[bm];unfold ax;lia) fun i=>Run.ret<|Run.ret<|((Ri (n:=n+5) R1 (by lia) (fun t ht=>?_) (by lia)).rt I).imp fun _ _ ⟨_,e,q⟩=>?_
  ·obtain⟨q,h3,h4⟩:=h1.oE ht
   obtain⟨p,h5,h6⟩:=h2.mem h3
   exact⟨q,h4,h6.ne⟩
  ·induction q with
   | mk R2 p2 n2 h =>
    obtain⟨d,ty,u⟩:=h
    exact e▸g R2 (p1.trans p2) (by lia) ty (abD R1 h1 h2 u)
end Mine
namespace Mine
open PySem
variable{c:eN}{rows bs:List PV}{α β:Type}{K I:List ap}{Q:PV→List ap→Prop}{n m k x y r:Nat}{cl:Str→List PV→CM PV}{l:List Nat}
theorem Ld{τ:Nat→PV}{g:PV→List PV}(hg:∀t:Nat,g (.int t)=[τ t]):∀ss:List Nat,(bi ss).flatMap g=ss.map τ
 | []=>rfl
 | t::ss=>by rw[jv];rw[adQ];rw[hg];rw[Ld hg ss];rfl
theorem Rd.abm{turn:PV→CM (List PV)}{ss:List Nat}{τ:Nat→PV}(h:(r,CO.list (bi ss))∈K)(ht:∀t∈ss,Rd K (turn (.int t)) [τ t]):Rd K (av (.live r) turn (bi ss).length 0) (ss.map τ):=by
 let g:PV→List PV:=fun | .int t=>[τ t.toNat] | _=>[]
 exact Ld (g:=g) (fun zz=>rfl) ss▸Rd.TC g h fun x hx=>by
  obtain⟨t,h1,rfl⟩:=abi.mp hx
  exact ht t h1
theorem vz{α:Type}(f:α→Bool):∀l:List α,bools (l.map fun x=>.bool (f x))=some (l.map f)
 | []=>rfl
 | x::l=>by
  show(match bools (l.map fun x=>.bool (f x))with | some l=>some (f x::l) | none=>none)=_
  rw[vz f l];rfl
theorem all_map(f:Nat→Bool)(l:List Nat):(l.map f).all id=l.all f:=ag1
theorem Run.adY{turn:PV→CM (List PV)}{l:List PV}{Q:List PV→List ap→Prop}{f:List Nat→PV}(hg:(r,CO.list l)∈K){P:List Nat→Prop}(ht:∀v p {R:List PV→List ap→Prop},P p→(v,CO.list (bi p))∈K→R [f p] K→Run K (turn (.ref v)) R):∀{vs:List Nat} {ps:cj},As K vs ps→az vs <:+ l→(∀p∈ps,P p)→Q (ps.map f) K→Run K (pZ r l turn (az vs)) Q:=by
 intro vs
 induction vs generalizing Q with
 | nil =>
  intro ps a s hP q
  obtain rfl:ps=[]:=aaZ a.len.symm
  exact Run.KE hg q
 | cons v vs ih =>
  intro ps a s hP q
  obtain _ | ⟨p,ps⟩:=ps
  ·exact a.elim
  exact Run.xV hg s (ht v p (hP p (.head _)) a.1 (ih a.2 ((abT ..).trans s) (fun x hx=>hP x (.tail _ hx)) q))
noncomputable def mM(cs goal:cj):Bool:=cs.all fun c=>goal.any fun p=>p.all fun k=>decide (k∈c)
theorem RS{cI gI:Nat}{l:List PV}{gs:List Nat}{goal:cj}(hc:(cI,CO.list l)∈K)(hg:(gI,CO.list (az gs))∈K)(ag:As K gs goal)(gl:goal.length<1000)(pl:∀p∈goal,p.length<1000):∀{vs:List Nat} {cs:cj} {o2:Option PV},As K vs cs→az vs <:+ l→Q (.bool (mM cs goal)) K →
  Run K (iY cI l mz (az vs) [some (.ref cI),some (.ref gI),o2,none] mB) Q:=by
 intro vs
 induction vs with
 | nil =>
  intro cs o2 a s q
  obtain rfl:cs=[]:=aaZ a.len.symm
  exact Run.Ce hc (Run.eq (DM ..) (Run.ret q))
 | cons v vs ih =>
  intro cs o2 a s q
  obtain _ | ⟨c,cs⟩:=cs
  ·exact a.elim
  refine Run.yh hc s<|Run.eq (DL ..)<|Run.bh<|Run.bh<|Run.bh<|Run.bh<|Run.bh<|Run.Ik hg<|Run.adY (f:=fun p=>.bool (p.all fun k=>decide (k∈c))) hg (fun v' p R hP hp q=>?_) ag (acf _) pl<|Run.mk (by rw[aaY];unfold ax;lia) fun i=>Run.ret<|Run.ofL [_] (Rd.mem (fun zz h=>Bo h (vz (fun p:List Nat=>p.all fun k=>decide (k∈c)) goal)) (.head _)).det<|Run.ret<|Run.ret ?_
  ·have lu:Rd K (av (.live v') (ue (.ref v)) (bi p).length 0) (p.map fun k=>.bool (decide (k∈c))):=Rd.abm hp fun k hk=>Rd.seq (Rd.seq (Rd.inL a.1) (Rd.ret _)) (Rd.ret _)
   refine Run.bh<|Run.bh<|Run.bh<|Run.rd (Rd.mem (fun zz=>dh) hp)<|Run.rd (Rd.mem (fun zz=>cu) hp)<|Run.rd lu<|Run.mk (by rw[aaY];unfold ax;lia) fun i=>Run.ret<|Run.ofL [_] (Rd.all (.head _) (vz (fun k=>decide (k∈c)) p)).det<|Run.ret ?_
   rw[all_map]
   exact q
  ·have e:(goal.map fun p=>p.all fun k=>decide (k∈c)).any id=goal.any fun p=>p.all fun k=>decide (k∈c):=List.any_map
   rw[e]
   generalize h:(goal.any fun p=>p.all fun k=>decide (k∈c))=zq;induction zq with
   | true=>exact Run.no (ih a.2 ((abT ..).trans s) (by unfold mM at q;rw[afd,h,age]at q;exact q))
   | false=>exact Run.yes (Run.ret (by unfold mM at q;rw[afd,h,Bool.false_and]at q;exact q))
theorem ZK{cI gI:Nat}{rs gs:List Nat}{cs goal:cj}(hc:(cI,CO.list (az rs))∈K)(ac:As K rs cs)(hg:(gI,CO.list (az gs))∈K)(ag:As K gs goal)(gl:goal.length<1000)(pl:∀p∈goal,p.length<1000)(q:Q (.bool (mM cs goal)) K):Run K (Φ (n+1) (S "_law_goes") [.ref cI,.ref gI]) Q :=
 Run.eq (KX ..)<|Run.Lv (T:=fun t n'=>uf (.ref cI) (.ref gI) t n') hc rfl (RS hc hg ag gl pl ac (acf _) q)
theorem BX(a:Int):∀{l:List Int},l.Pairwise (·≤·)→(jw a l).Pairwise (·≤·)∧∀x∈jw a l,x=a∨x∈l
 | [],_=>⟨acS _ _,fun x h=>.inl (aad.mp h)⟩
 | b::r,h=>by
  dsimp only[jw]
  rw[adZ]at h
  obtain⟨i1,i2⟩:=BX a h.2
  by_cases q:a≤b
  ·rw[decide_eq_true q]
   exact⟨adZ.mpr ⟨fun x hx=>(aa2.mp hx).elim (fun e=>e▸q) fun hx=>Int.le_trans q (h.1 x hx),adZ.mpr h⟩,fun x hx=>aa2.mp hx⟩
  ·rw[decide_eq_false q]
   exact⟨adZ.mpr ⟨fun x hx=>(i2 x hx).elim (fun e=>e▸ag8 (Int.lt_of_not_ge q)) (h.1 x),i1⟩,fun x hx=>(aa2.mp hx).elim (fun e=>.inr (e▸.head _)) fun hx=>(i2 x hx).imp_right (.tail _)⟩
theorem yD:∀l:List Int,(hM l).Pairwise (·≤·)
 | []=>.nil
 | a::r=>(BX a (yD r)).1
noncomputable def pf(l:List Nat):List Nat:=l.filter fun x=>!decide (x=2) || !decide (3∈l)
structure WE(l us:List Nat):Prop where
 perm:us.Perm (pf l)
 srt:us.Pairwise (·≤·)
theorem WE.eq{a b us ws:List Nat}(ha:a.Nodup)(hb:b.Nodup)(h1:WE a us)(h2:WE b ws):us=ws↔∀x,x∈pf a↔x∈pf b:=by
 constructor
 ·rintro rfl x
  rw[← h1.perm.mem_iff,h2.perm.mem_iff]
 ·intro h
  exact List.Perm.eq_of_pairwise (le:=(·≤·)) (fun x y zz zz h1 h2=>agz h1 h2) h1.srt h2.srt ((h1.perm.trans ((agB (afN _ ha) (afN _ hb)).mpr h)).trans h2.perm.symm)
theorem Nz{gs:List Nat}(hl:gs.length<64):∃us:List Nat,us.Perm gs∧us.Pairwise (·≤·)∧∀(r:Nat) (H:CH),H[r]?=some (.list (bi gs))→blt .sorted [.ref r] H=some (.ref H.length,H++[.list (bi us)]):=by
 obtain⟨us,e,p⟩:=pE gs
 refine⟨us,p,?_,fun r H h=>?_⟩
 ·have:=yD (gs.map fun t:Nat=>(t:Int))
  rw[e,afO]at this
  exact this.imp fun h=>Int.ofNat_le.mp h
 ·unfold blt iQ
  dsimp only
  rewrite[dx h]
  dsimp only
  rw[iN];rw[js];rewrite[QN rfl]
  rewrite[decide_eq_true (by rw[aaY];exact hl)];rw[e];rewrite[← iN]
  rfl
theorem Run.abv{m:CM PV}(h:Run K m fun v K'=>∃a b gf,K'=a::b::gf∧Q v (a::gf)):Run K m Q:=fun F H r l=>by
 obtain⟨v,K',H',e,r',l',a,b,gf,rfl,q⟩:=h F H r l
 exact⟨v,a::gf,H',e,r'.sub ((aev ..).cons_cons _),l',q⟩
theorem Run.Ih{m:CM PV}{o o':CO}(h:∀H:CH,H[r]?=some o→m H=some (.ref H.length,H++[o']))(e:(r,o)∈K)(g:∀i,Q (.ref i) ((i,o')::K)):Run K m Q:=fun F H rp l =>
 ⟨_,_,_,h H (rp.2.2 _ (aap F e)).2,rp.new l _,by rw[aaA];exact acX l,g H.length⟩
theorem A9(h:(r,CO.list (bi l))∈K)(hl:l.length<60)(q:∀i us,WE l us→Q (.ref i) ((i,.list (bi us))::K)):Run K (Φ (n+1) (S "_law_plain") [.ref r]) Q:=by
 have hpl:(pf l).length≤l.length:=ada _ _
 obtain⟨us,s1,s2,s3⟩:=Nz (gs:=pf l) (by lia)
 refine Run.eq (Ir ..)<|Run.bh<|Run.bh<|Run.rd (Rd.mem (fun zz=>dh) h)<|Run.rd (Rd.mem (fun zz=>cu) h)<|Run.rd (Rd.Ho (p:=fun x=>!decide (x=2) || !decide (3∈l)) h fun t ht=>?_)<|Run.mk (by show(bi (pf l)).length<ax;rw[bm];unfold ax;lia) fun j=>Run.ret<|Run.abv<|Run.Ih (s3 j) (.head _) fun i=>⟨_,_,_,rfl,q i us ⟨s1,s2⟩⟩
 have e2:((t:Int) == 2)=decide (t=2):=by rewrite[acr,beq_iff_eq];rw[decide_eq_true_eq];lia
 refine Rd.seq (Rd.tf (Rd.orB (Rd.neI (b:=!decide (t=2)) (by rw[e2];rfl)) (Rd.tf (Rd.Fn (t:=3) h)))) ?_
 cases (!decide (t=2) || !decide (3∈l)) <;> exact Rd.ret _
end Mine
namespace Mine
open PySem
variable{α β:Type}{K I:List ap}{Q:PV→List ap→Prop}{n m k x y r g:Nat}{cl:Str→List PV→CM PV}
theorem add_list{i j:Nat}{l m:List PV}{H:CH}(h1:H[i]?=some (.list l))(h2:H[j]?=some (.list m))(hm:l.length+m.length<ax):binop .Add (.ref i) (.ref j) H=some (.ref H.length,H++[.list (l++m)]):=by
 refine(eL h1 _).trans ((eL h2 _).trans ?_)
 rw[decide_eq_true hm]
 rfl
theorem Run.WQ{i j:Nat}{l m:List PV}(h1:(i,CO.list l)∈K)(h2:(j,CO.list m)∈K)(hm:l.length+m.length<ax)(g:∀r,Q (.ref r) ((r,.list (l++m))::K)):Run K (binop .Add (.ref i) (.ref j)) Q:=fun F H rp l2 =>
 ⟨_,_,_,add_list (rp.2.2 _ (aap F h1)).2 (rp.2.2 _ (aap F h2)).2 hm,rp.new l2 _,by rw[aaA];exact acX l2,g H.length⟩
noncomputable def ext(cs b:List Nat):List Nat:=cs++b.filter fun x=>!decide (x∈cs)
theorem HT(rs:List Nat)(i:Nat):az (rs++[i])=az rs++[.ref i]:=adi
theorem As.snoc{i:Nat}{l:List Nat}(h:(i,CO.list (bi l))∈K){rs:List Nat}{ls:cj}(a:As K rs ls):As K (rs++[i]) (ls++[l]):=Sim.ay.append a (show As K [i] [l]from⟨h,trivial⟩)
theorem Run.push{i:Nat}{rs:List Nat}(hm:rs.length+1<ax)(q:Q .none ((g,.list (az (rs++[i])))::K)):Run ((g,.list (az rs))::K) (aj cl .append (.ref g) [.ref i]) Q :=
 Run.of _ (gP.cell (o':=.list (az (rs++[i]))) (fun zz e h=>by rw[HT];exact iM e (by unfold az;rw[aaY];exact hm) h) 0 rfl) q
theorem T3{bk ci:Nat}{l:List PV}{cs:List Nat}{pb pt y2 v4:PV}{k13:bg→CM PV}(hc:cs.length≤40):∀{vs:List Nat} {ps outs:cj} {K:List ap} {os:List Nat} {o6:Option PV},(bk,CO.list l)∈K→az vs <:+ l→As K vs ps→(∀b∈ps,b.length≤10)→(ci,CO.list (bi cs))∈K→As K os outs→os.length+vs.length<1000 →
  (∀{K' yn o6},K⊆K'→As K' yn (outs++ps.map (ext cs))→Run ((g,.list (az yn))::K') (k13 [some pb,some pt,some y2,some v4,some (.ref g),some (.ref ci),o6]) Q) →
  Run ((g,.list (az os))::K) (iY bk l (kQ (Φ n)) (az vs) [some pb,some pt,some y2,some v4,some (.ref g),some (.ref ci),o6] (kR k13)) Q:=by
 intro vs
 induction vs with
 | nil =>
  intro ps outs K os o6 hb hs a bl hci ao hn h
  obtain rfl:ps=[]:=aaZ a.len.symm
  rw[agY,abF]at h
  exact Run.Ce (.tail _ hb) (Run.eq (Ac ..) (h (aeC _) ao))
 | cons v vs ih =>
  intro ps outs K os o6 hb hs a bl hci ao hn h
  obtain _ | ⟨b,ps⟩:=ps
  ·exact a.elim
  rw[aaK]at hn
  have YK:=bl b (.head _)
  have hf:(b.filter fun x=>!decide (x∈cs)).length≤b.length:=ada _ _
  refine Run.yh (.tail _ hb) hs<|Run.eq (Ab ..)<|Run.bh<|Run.rd (Rd.mem (fun zz=>ez) (.head _))<|Run.bh<|Run.bh<|Run.bh<|Run.rd (Rd.mem (fun zz=>dh) (.tail _ a.1))<|Run.rd (Rd.mem (fun zz=>cu) (.tail _ a.1))<|Run.rd (Rd.Ho (p:=fun x=>!decide (x∈cs)) (.tail _ a.1) fun t ht=>Rd.seq (Rd.tf (Rd.Fn (.tail _ hci))) (by cases (!decide (t∈cs)) <;> exact Rd.ret _))<|Run.mk (by rw[bm];unfold ax;lia) fun j=>Run.WQ (.tail _ (.tail _ hci)) (.head _) (by rw[bm];rw[bm];unfold ax;lia) fun i=>Run.ret<|Run.BE<|Run.perm (.swap ..)<|Run.push (by unfold ax;lia)<|Run.gC ?_
  have e:bi cs++bi (b.filter fun x=>!decide (x∈cs))=bi (ext cs b):=(eI ..).symm
  rw[e]
  refine ih (ps:=ps) (outs:=outs++[ext cs b]) (K:=(i,.list (bi (ext cs b)))::K) (.tail _ hb) ((abT ..).trans hs) (As.sub (fun zz h=>.tail _ h) a.2) (fun x hx=>bl x (.tail _ hx)) (.tail _ hci) ((ao.sub fun zz h=>.tail _ h).snoc (.head _)) (by rw[aaA];rw[abf];lia) fun{K' yn o6} s a'=>h (fun x hx=>s (.tail _ hx)) (by rw[aaW]at a';exact a')
theorem S3{i j:Nat}{rs:List Nat}{H:CH}(h1:H[i]?=some (.list (az rs)))(h2:H[j]?=some (.list []))(qc:i≠j):H4 H (.ref i) (.ref j)=some rs.isEmpty:=by
 refine(EM h1 h2 (ado.mpr fun h=>qc (abX h))).trans ?_
 cases rs <;> rfl
theorem Rd.neE{e gk:Nat}{rs:List Nat}(h:(gk,CO.list (az rs))∈K):Rd ((e,.list [])::K) (ae .NotEq (.ref gk) (.ref e)) (!rs.isEmpty):=fun H rp=>by
 have hn:=(abU.mp rp.2.1).1
 exact be (f:=fun r=>Mine.ret (!r)) (yy (f:=fun H=>H4 H (.ref gk) (.ref e)) (S3 (rp.2.2 _ (.tail _ h)).2 (rp.2.2 _ (.head _)).2 fun z=>hn (abi.mpr ⟨_,h,z⟩)))
noncomputable def stepK(bk:cj)(k:Nat)(out:cj):cj:=out.flatMap fun cs=>if 5+k∈cs∧bk≠[]then bk.map (ext cs)else[cs]
theorem HZ{bk:cj}{c:List Nat}{cs:cj}(h:5+k∈c∧bk≠[]):stepK bk k (c::cs)=bk.map (ext c)++stepK bk k cs:=by
 unfold stepK
 rw[adQ];rw[if_pos h];rfl
theorem NA{bk:cj}{c:List Nat}{cs:cj}(h:¬(5+k∈c∧bk≠[])):stepK bk k (c::cs)=[c]++stepK bk k cs:=by
 unfold stepK
 rw[adQ];rw[if_neg h];rfl
theorem SS{bI gk oI:Nat}{l:List PV}{gs rk:List Nat}{bk:cj}{pt:PV}{k6:bg→CM PV}(hgk:gs[k]?=some gk)(h2:bk.length≤2)(YK:∀b∈bk,b.length≤10):∀{vs:List Nat} {cs outs:cj} {K:List ap} {os:List Nat} {o5 o6:Option PV},(bI,CO.list (az gs))∈K→(gk,CO.list (az rk))∈K→As K rk bk→(oI,CO.list l)∈K→az vs <:+ l→As K vs cs→(∀c∈cs,c.length≤40)→As K os outs→os.length+3*vs.length<900 →
  (∀{K' yn o5 o6},K⊆K'→As K' yn (outs++stepK bk k cs)→Run ((g,.list (az yn))::K') (k6 [some (.ref bI),some pt,some (.ref g),some (.int k),some (.ref g),o5,o6]) Q) →
  Run ((g,.list (az os))::K) (iY oI l (gX (Φ n)) (az vs) [some (.ref bI),some pt,some (.ref oI),some (.int k),some (.ref g),o5,o6] (gY k6)) Q:=by
 intro vs
 induction vs with
 | nil =>
  intro cs outs K os o5 o6 hb hg ab ho hs a cl' ao hn h
  obtain rfl:cs=[]:=aaZ a.len.symm
  rw[show stepK bk k []=[]from rfl,abF]at h
  exact Run.Ce (.tail _ ho) (Run.eq (wD ..) (h (aeC _) ao))
 | cons v vs ih =>
  intro cs outs K os o5 o6 hb hg ab ho hs a cl' ao hn h
  obtain _ | ⟨c,cs⟩:=cs
  ·exact a.elim
  rw[aaK]at hn
  have keep:∀{o5 o6:Option PV},¬(5+k∈c∧bk≠[])→Run ((g,.list (az os))::K) (oY (Φ n) (.ref g) o6 (.ref v) fun z5 z6=>iY oI l (gX (Φ n)) (az vs) [some (.ref bI),some pt,some (.ref oI),some (.int k),some (.ref g),z5,z6] (gY k6)) Q:=fun hno =>
   Run.bh<|Run.rd (Rd.mem (fun zz=>ez) (.head _))<|Run.push (by unfold ax;lia)<|Run.gC<|ih hb hg ab ho ((abT ..).trans hs) a.2 (fun x hx=>cl' x (.tail _ hx)) (ao.snoc a.1) (by rw[aaA];rw[abf];lia) fun s a'=>h s (by rw[NA hno];rw[aaW]at a';exact a')
  refine Run.yh (.tail _ ho) hs<|Run.eq (wC ..)<|Run.bh<|Run.rd (a:=decide (5+k∈c)) (Rd.seq (a:=.int ((5+k:Nat):Int)) (fun zz zz=>rfl) (Rd.inL (.tail _ a.1))) ?_
  by_cases kh:5+k∈c
  ·rw[decide_eq_true kh]
   have gi:Rd ((g,.list (az os))::K) (getItem (.ref bI) (.int k)) (.ref gk):=Rd.item (.tail _ hb) (by unfold az;rw[adf];rw[hgk];rfl)
   refine Run.yes<|Run.bh<|Run.rd gi<|Run.new fun e=>Run.of _ (Rd.neE (.tail _ hg)).det<|Run.drop ?_
   generalize hrk:rk.isEmpty=zq;induction zq with
   | true =>
    have hb0:bk=[]:=by
     obtain rfl:=afS.mp hrk
     exact aaZ ab.len.symm
    exact Run.no<|Run.ret<|Run.no<|keep (o5:=o5) fun h=>h.2 hb0
   | false =>
    have aeo:5+k∈c∧bk≠[]:=⟨kh,fun e=>by
     subst e
     obtain rfl:rk=[]:=aaZ ab.len
     exact rr hrk⟩
    have hrl:rk.length=bk.length:=ab.len
    refine Run.yes<|Run.ret<|Run.yes<|Run.rd (Rd.seq gi (Rd.mem (fun zz=>dh) (.tail _ hg)))<|Run.rd (Rd.mem (fun zz=>cu) (.tail _ hg))<|Run.YS (.tail _ hg) rfl<|T3 (n:=n) (cl' c (.head _)) hg (acf _) ab YK a.1 ao (by lia) fun{K' yn o6'} s a'=>?_
    have ln:=a'.len
    rw[aaA,aaY,← ao.len]at ln
    exact ih (s hb) (s hg) (ab.sub s) (s ho) ((abT ..).trans hs) (As.sub s a.2) (fun x hx=>cl' x (.tail _ hx)) a' (by lia) fun s' a2=>h (fun zz h=>s' (s h)) (by rw[HZ aeo];rw[aaW]at a2;exact a2)
  ·rw[decide_eq_false kh]
   exact Run.no<|Run.ret<|Run.no<|keep (o5:=o5) fun h=>kh h.1
end Mine
namespace Mine
open PySem
variable{α β:Type}{K I:List ap}{Q:PV→List ap→Prop}{R:List PV→List ap→Prop}{n m k x y r g:Nat}{cl:Str→List PV→CM PV}
theorem pV(bk:cj)(k:Nat)(h2:bk.length≤2):∀out:cj,(stepK bk k out).length≤2*out.length
 | []=>aaX _
 | c::out=>by
  have ih:=pV bk k h2 out
  by_cases h:5+k∈c∧bk≠[]
  ·rw[HZ h];rw[aaA];rw[aaY];rw[aaK];lia
  ·rw[NA h];rw[aaA];rw[abf];rw[aaK];lia
theorem Xe(cs b:List Nat):(ext cs b).length≤cs.length+b.length:=by
 unfold ext
 rw[aaA]
 exact adW (ada _ _) _
theorem jp{bk:cj}(k:Nat){n m:Nat}(hb:∀b∈bk,b.length≤m){out:cj}(h:∀cs∈out,cs.length≤n):∀cs∈stepK bk k out,cs.length≤n+m:=fun cs hcs=>by
 obtain⟨c,hc,hx⟩:=aen.mp hcs
 have hl:=h c hc
 split at hx
 ·obtain⟨b,h1,rfl⟩:=abi.mp hx
  have:=Xe c b
  have:=hb b h1
  lia
 ·rw[aad.mp hx];lia
theorem PX{bI gk oI:Nat}{gs rk os:List Nat}{bk outs:cj}{pt:PV}{k6:bg→CM PV}{o3 o4 o5 o6:Option PV}(hgk:gs[k]?=some gk)(h2:bk.length≤2)(YK:∀b∈bk,b.length≤10)(hb:(bI,CO.list (az gs))∈K)(hg:(gk,CO.list (az rk))∈K)(ab:As K rk bk)(ho:(oI,CO.list (az os))∈K)(a:As K os outs)(hc:∀c∈outs,c.length≤40)(hn:outs.length<200)
  (h:∀{K' g' yn o5 o6},K⊆K'→(g',CO.list (az yn))∈K'→As K' yn (stepK bk k outs)→Run K' (k6 [some (.ref bI),some pt,some (.ref g'),some (.int k),some (.ref g'),o5,o6]) Q) :
  Run K (jI (Φ n) (.int k) [some (.ref bI),some pt,some (.ref oI),o3,o4,o5,o6] k6) Q:=by
 have ln:=a.len
 exact Run.eq (wE ..)<|Run.new fun g=>Run.Lv (T:=fun t n'=>oZ (Φ n) (.ref bI) pt (.ref oI) o5 o6 (.int k) k6 (.ref g) t n') (.tail _ ho) rfl<|SS (n:=n) (outs:=[]) (os:=[]) hgk h2 YK hb hg ab ho (acf _) a hc trivial (by rw[aez];lia) fun{K' yn o5 o6} s a'=>h (fun zz h=>.tail _ (s h)) (.head _) (a'.sub fun zz h=>.tail _ h)
noncomputable def jV(cs:List Nat):List Nat:=if 3∈cs∧2∉cs then cs++[2]else cs
theorem Tp{oI:Nat}{l:List PV}:∀{vs:List Nat} {cs:cj} {K:List ap} {R:List PV→List ap→Prop},(oI,CO.list l)∈K→az vs <:+ l→As K vs cs→(∀c∈cs,c.length≤100)→(∀{K' yn},K⊆K'→As K' yn (cs.map jV)→R (az yn) K')→Run K (pZ oI l jJ (az vs)) R:=by
 intro vs
 induction vs with
 | nil =>
  intro cs K R ho s a hc h
  obtain rfl:cs=[]:=aaZ a.len.symm
  exact Run.KE ho (h (yn:=[]) (aeC _) trivial)
 | cons v vs ih =>
  intro cs K R ho s a hc h
  obtain _ | ⟨c,cs⟩:=cs
  ·exact a.elim
  have S9:=hc c (.head _)
  have i3:Rd K (ae .In (.int 3) (.ref v)) (decide (3∈c)):=Rd.inL (t:=3) a.1
  have i2:Rd K (ae .NotIn (.int 2) (.ref v)) (!decide (2∈c)):=Rd.Fn (t:=2) a.1
  have next:∀{K' i},K⊆K'→(i,CO.list (bi (jV c)))∈K'→Run K' (pZ oI l jJ (az vs)) fun t Tl=>R ([.ref i]++t) Tl:=fun{K' i} s' hi =>
   ih (s' ho) ((abT ..).trans s) (As.sub s' a.2) (fun x hx=>hc x (.tail _ hx)) fun{K2 yn} s2 a2=>h (yn:=i::yn) (fun zz h=>s2 (s' h)) ⟨s2 hi,a2⟩
  refine Run.xV ho s<|Run.bh<|Run.rd (Rd.NR i3 (Rd.tf i2)) ?_
  by_cases hh:3∈c∧2∉c
  ·rw[decide_eq_true hh.1];rw[decide_eq_false hh.2]
   refine Run.yes<|Run.new fun j=>Run.WQ (.tail _ a.1) (.head _) (by rw[bm];rw[abf];unfold ax;lia) fun i=>Run.ret<|next (fun zz h=>.tail _ (.tail _ h)) ?_
   unfold jV
   rw[if_pos hh];rw[eI]
   exact .head _
  ·rewrite[show(decide (3∈c)&&!decide (2∈c))=false from ado.mpr fun e=>by rw[ade,acQ,decide_eq_true_eq,decide_eq_false_iff_not]at e;exact hh e]
   exact Run.no<|Run.ret<|Run.ret<|next (aeC _) (by unfold jV;rw[if_neg hh];exact a.1)
noncomputable def BN(cs:List Nat):Bool:=!decide (4∈cs) || !decide (2∈cs)
theorem T4{oI:Nat}{l:List PV}(ho:(oI,CO.list l)∈K):∀{vs:List Nat} {cs:cj} {R:List PV→List ap→Prop},az vs <:+ l→As K vs cs→(∀{yn},As K yn (cs.filter BN)→R (az yn) K)→Run K (pZ oI l pc (az vs)) R:=by
 intro vs
 induction vs with
 | nil =>
  intro cs R s a h
  obtain rfl:cs=[]:=aaZ a.len.symm
  exact Run.KE ho (h (yn:=[]) trivial)
 | cons v vs ih =>
  intro cs R s a h
  obtain _ | ⟨c,cs⟩:=cs
  ·exact a.elim
  have i4:Rd K (ae .NotIn (.int 4) (.ref v)) (!decide (4∈c)):=Rd.Fn (t:=4) a.1
  have i2:Rd K (ae .NotIn (.int 2) (.ref v)) (!decide (2∈c)):=Rd.Fn (t:=2) a.1
  refine Run.xV ho s<|Run.rd (Rd.tf (Rd.orB i4 (Rd.tf i2))) ?_
  generalize hf:(!decide (4∈c) || !decide (2∈c))=zq;induction zq with
  | true=>exact Run.yes<|Run.ret<|ih ((abT ..).trans s) a.2 fun{yn} a'=>h (yn:=v::yn) (by rw[aft];rewrite[show BN c=true from hf];exact⟨a.1,a'⟩)
  | false=>exact Run.no<|Run.ret<|ih ((abT ..).trans s) a.2 fun{yn} a'=>h (by rw[aft];rewrite[show BN c=false from hf];exact a')
noncomputable def dw(bl:Nat→cj)(things:List Nat):cj:=((stepK (bl 0) 0 (stepK (bl 1) 1 (stepK (bl 2) 2 [things]))).map jV).filter BN
structure A3(K:List ap)(gs:List Nat)(rk:Nat→List Nat)(bl:Nat→cj):Prop where
 at':∀k,k<3→∃g,gs[k]?=some g∧(g,CO.list (az (rk k)))∈K∧As K (rk k) (bl k)
theorem A3.sub{K K':List ap}{gs:List Nat}{rk:Nat→List Nat}{bl:Nat→cj}(h:K⊆K')(a:A3 K gs rk bl):A3 K' gs rk bl:=⟨fun k hk=>(a.at' k hk).imp fun zz z=>⟨z.1,h z.2.1,z.2.2.sub h⟩⟩
theorem W1{bI tI:Nat}{gs things:List Nat}{rk:Nat→List Nat}{bl:Nat→cj}(hb:(bI,CO.list (az gs))∈K)(a:A3 K gs rk bl)(ht:(tI,CO.list (bi things))∈K)(hn:∀k,k<3→(bl k).length≤2∧∀b∈bl k,b.length≤10)(hl:things.length≤10)
  (q:∀{K' r os},K⊆K'→(r,CO.list (az os))∈K'→As K' os (dw bl things)→Q (.ref r) K'):Run K (Φ (n+1) (S "_law_cases") [.ref bI,.ref tI]) Q:=by
 obtain⟨g2,e2,m2,a2⟩:=a.at' 2 (by decide)
 obtain⟨g1,e1,m1,a1⟩:=a.at' 1 (by decide)
 obtain⟨g0,e0,m0,a0⟩:=a.at' 0 (by decide)
 obtain⟨n2,l2⟩:=hn 2 (by decide)
 obtain⟨n1,l1⟩:=hn 1 (by decide)
 obtain⟨n0,l0⟩:=hn 0 (by decide)
 have c2:∀c∈[things],c.length≤10:=fun c h=>aad.mp h▸hl
 have c1:=jp 2 l2 c2
 have c0:=jp 1 l1 c1
 have cc:=jp 0 l0 c0
 have s2:=pV (bl 2) 2 n2 [things]
 have s1:=pV (bl 1) 1 n1 (stepK (bl 2) 2 [things])
 have s0:=pV (bl 0) 0 n0 (stepK (bl 1) 1 (stepK (bl 2) 2 [things]))
 rw[abf]at s2
 refine Run.eq (Iq ..)<|Run.new fun o=>Run.xR (T:=fun t n'=>pg (Φ n) (.ref bI) (.ref tI) (.ref o) t n') rfl<|PX (k:=2) (os:=[tI]) (outs:=[things]) e2 n2 l2 (.tail _ hb) (.tail _ m2) (a2.sub fun zz h=>.tail _ h) (.head _) ⟨.tail _ ht,trivial⟩ (fun c h=>aa4 (c2 c h) (by decide)) (show 1<200 by decide) fun{K1 g' os1 o5 o6} t1 h1 b1=>?_
 have t1':K⊆K1:=fun zz h=>t1 (.tail _ h)
 refine PX (k:=1) e1 n1 l1 (t1' hb) (t1' m1) (a1.sub t1') h1 b1 (fun c h=>aa4 (c1 c h) (by decide)) (by lia) fun{K2 g2 os2 o5 o6} t2 h2 b2=>?_
 have t2':K⊆K2:=fun zz h=>t2 (t1' h)
 refine PX (k:=0) e0 n0 l0 (t2' hb) (t2' m0) (a0.sub t2') h2 b2 (fun c h=>aa4 (c0 c h) (by decide)) (by lia) fun{K3 g3 os3 o5 o6} t3 h3 b3=>?_
 have t3':K⊆K3:=fun zz h=>t3 (t2' h)
 have ln:=b3.len
 refine Run.eq (wF ..)<|Run.bh<|Run.Ik h3<|Tp h3 (acf _) b3 (fun c h=>aa4 (cc c h) (by decide)) fun{K4 os4} t4 b4=>?_
 have ln4:=b4.len
 rw[aaY]at ln4
 refine Run.mk (by unfold az;rw[aaY];unfold ax;lia) fun r4=>Run.Ik (.head _)<|T4 (.head _) (acf _) (b4.sub fun zz h=>.tail _ h) fun{os5} b5=>?_
 have ln5:=b5.len
 have lf:=ada BN ((stepK (bl 0) 0 (stepK (bl 1) 1 (stepK (bl 2) 2 [things]))).map jV)
 rw[aaY]at lf
 exact Run.mk (by unfold az;rw[aaY];unfold ax;lia) fun r5=>q (fun zz h=>.tail _ (.tail _ (t4 (t3' h)))) (.head _) (b5.sub fun zz h=>.tail _ h)
end Mine
namespace Mine
open PySem
noncomputable def Ic(bl:Nat→List (List Nat))(C:Nat→Prop):Prop:=WW C∧∀k,k<3→C (5+k)→bl k≠[]→∃p∈bl k,ry p C
structure Kv(bl:Nat→List (List Nat)):Prop where
 gp:∀k,k<3→∀p∈bl k,GP k p
 two:∀k,k<3→∀p∈bl k,p.length≤2
 n0:(bl 0).length≤2
 n1:(bl 1).length≤1
 n2:(bl 2).length≤1
theorem pP{cs b:List Nat}{x:Nat}:x∈ext cs b↔x∈cs∨x∈b:=by
 unfold ext
 rewrite[aa7,acZ]
 constructor
 ·rintro(h | ⟨h,_⟩)
  ·exact .inl h
  ·exact .inr h
 ·rintro(h | h)
  ·exact .inl h
  ·by_cases z:x∈cs
   ·exact .inl z
   ·exact .inr ⟨h,by simpa using z⟩
noncomputable def PK(bl:Nat→List (List Nat))(things:List Nat)(j:Nat)(out:List (List Nat)):Prop:=∀cs∈out,(∀x∈things,x∈cs)∧(∀x∈cs,NM 3 x)∧∀k,j≤k→k<3→5+k∈cs→bl k≠[]→∃p∈bl k,∀x∈p,x∈cs
theorem PK.step{bl:Nat→List (List Nat)}(B:Kv bl){things:List Nat}{k:Nat}(hk:k<3){out:List (List Nat)}(h:PK bl things (k+1) out):PK bl things k (stepK (bl k) k out):=by
 intro c hc
 unfold stepK at hc
 obtain⟨cs,h1,h2⟩:=aen.mp hc
 obtain⟨a1,a2,a3⟩:=h cs h1
 by_cases hh:5+k∈cs∧bl k≠[]
 ·rw[if_pos hh]at h2
  obtain⟨b,hb,rfl⟩:=abi.mp h2
  have hd:=(B.gp k hk b hb).df
  refine⟨fun x hx=>pP.mpr (.inl (a1 x hx)),fun x hx=>?_,fun k' h3 h4 h5 h6=>?_⟩
  ·rcases pP.mp hx with hx | hx
   ·exact a2 x hx
   ·have:=hd x hx
    unfold NM at this ⊢
    lia
  ·by_cases e:k'=k
   ·subst e
    exact⟨b,hb,fun x hx=>pP.mpr (.inr hx)⟩
   ·rcases pP.mp h5 with h5 | h5
    ·obtain⟨p,h7,h8⟩:=a3 k' (by lia) h4 h5 h6
     exact⟨p,h7,fun x hx=>pP.mpr (.inl (h8 x hx))⟩
    ·have:=(hd _ h5).2
     lia
 ·rw[if_neg hh]at h2
  cases aad.mp h2
  refine⟨a1,a2,fun k' h3 h4 h5 h6=>?_⟩
  by_cases e:k'=k
  ·subst e
   exact absurd ⟨h5,h6⟩ hh
  ·exact a3 k' (by lia) h4 h5 h6
theorem xU{bl:Nat→List (List Nat)}(B:Kv bl){things:List Nat}(hd:∀x∈things,NM 3 x):∀c∈dw bl things,(∀x∈things,x∈c)∧(∀x∈c,NM 3 x)∧Ic bl (fun x=>x∈c)∧ff c:=by
 intro c hc
 unfold dw at hc
 rw[acZ]at hc
 obtain⟨h1,h2⟩:=hc
 unfold BN at h2
 obtain⟨cs,h3,rfl⟩:=abi.mp h1
 have h0:PK bl things 3 [things]:=fun cs h=>by
  cases aad.mp h
  exact⟨fun zz h=>h,hd,fun k a b=>by lia⟩
 have key:=(((h0.step (k:=2) B (by decide)).step (k:=1) B (by decide)).step (k:=0) B (by decide)) cs h3
 obtain⟨a1,a2,a3⟩:=key
 have sub:∀x,x∈cs→x∈jV cs:=fun x hx=>by
  unfold jV
  split
  ·exact aap _ hx
  ·exact hx
 have sup:∀x,x∈jV cs→x∈cs∨(x=2∧3∈cs):=fun x hx=>by
  unfold jV at hx
  split at hx
  ·next hh =>
   rcases aa7.mp hx with hx | hx
   ·exact .inl hx
   ·exact .inr ⟨aad.mp hx,hh.1⟩
  ·exact .inl hx
 have w1:3∈jV cs→2∈jV cs:=fun h=>by
  rcases sup 3 h with h | h
  ·unfold jV
   by_cases z:2∈cs
   ·rewrite[if_neg (fun hh=>hh.2 z)];exact z
   ·rewrite[if_pos ⟨h,z⟩];exact aaJ _ (.head _)
  ·lia
 have w2:¬(2∈jV cs∧4∈jV cs):=(by rintro⟨x,y⟩;exact(by
  rw[decide_eq_true y,decide_eq_true x]at h2
  exact absurd h2 (by decide)))
 refine⟨fun x hx=>sub x (a1 x hx),fun x hx=>?_,⟨⟨w1,w2⟩,fun k hk h5 h6=>?_⟩,fun⟨h4,h⟩=>?_⟩
 ·rcases sup x hx with h | ⟨rfl,_⟩
  ·exact a2 x h
  ·unfold NM;lia
 ·rcases sup _ h5 with h | ⟨h,_⟩
  ·obtain⟨p,h7,h8⟩:=a3 k (acV _) hk h h6
   exact⟨p,h7,fun x hx=>sub x (h8 x hx)⟩
  ·lia
 ·rcases h with h | h
  ·exact w2 ⟨h,h4⟩
  ·exact w2 ⟨w1 h,h4⟩
theorem xO{bl:Nat→List (List Nat)}{C:Nat→Prop}(w:Ic bl C){k:Nat}(hk:k<3){out:List (List Nat)}(h:∃cs∈out,ry cs C):∃cs∈stepK (bl k) k out,ry cs C:=by
 obtain⟨cs,h1,h2⟩:=h
 unfold stepK
 by_cases hh:5+k∈cs∧bl k≠[]
 ·obtain⟨p,h3,h4⟩:=w.2 k hk (h2 _ hh.1) hh.2
  refine⟨ext cs p,aen.mpr ⟨cs,h1,?_⟩,fun x hx=>?_⟩
  ·rw[if_pos hh];exact ae4 h3
  ·rcases pP.mp hx with hx | hx
   ·exact h2 x hx
   ·exact h4 x hx
 ·refine⟨cs,aen.mpr ⟨cs,h1,?_⟩,h2⟩
  rw[if_neg hh];exact .head _
theorem Bv{bl:Nat→List (List Nat)}{things:List Nat}{C:Nat→Prop}(w:Ic bl C)(h:ry things C):∃c∈dw bl things,ry c C:=by
 obtain⟨cs,h1,h2⟩:=xO w (k:=0) (by decide) (xO w (k:=1) (by decide) (xO w (k:=2) (by decide) (out:=[things]) ⟨things,.head _,h⟩))
 have i2:ry (jV cs) C:=fun x hx=>by
  unfold jV at hx
  split at hx
  ·next hh =>
   rcases aa7.mp hx with hx | hx
   ·exact h2 x hx
   ·cases aad.mp hx
    exact w.1.1 (h2 3 hh.1)
  ·exact h2 x hx
 refine⟨jV cs,?_,i2⟩
 unfold dw
 rewrite[acZ]
 refine⟨ae4 h1,?_⟩
 unfold BN
 generalize q4:(decide (4∈jV cs))=zq;induction zq with
 | false=>rfl
 | true =>
  generalize q2:(decide (2∈jV cs))=zq;induction zq with
  | false=>rfl
  | true=>exact absurd ⟨i2 2 (of_decide_eq_true q2),i2 4 (of_decide_eq_true q4)⟩ w.1.2
noncomputable def Hg(bl:Nat→List (List Nat))(bd:kZ):Prop:=∀k,k<3→(bl k=[]→bd (5+k)=[[]])∧(bl k≠[]→GK (bl k) (bd (5+k)))
theorem H7{bl:Nat→List (List Nat)}{bd:kZ}(S:Hg bl bd)(C:Nat→Prop):World bd C↔Ic bl C:=by
 constructor
 ·rintro⟨w,h⟩
  refine⟨w,fun k hk c hb=>?_⟩
  exact((S k hk).2 hb).yC C w |>.mp (h (5+k) ⟨by lia,by lia⟩ c)
 ·rintro⟨w,h⟩
  refine⟨w,fun p hp c=>?_⟩
  obtain⟨h1,h2⟩:=hp
  obtain⟨k,rfl⟩:∃k,p=5+k:=⟨p-5,by lia⟩
  by_cases hb:bl k=[]
  ·rewrite[(S k (by lia)).1 hb]
   exact⟨[],.head _,fun zz h=>by cases h⟩
  ·exact((S k (by lia)).2 hb).yC C w |>.mpr (h k (by lia) c hb)
theorem GK.nonempty{goal d:List (List Nat)}(g:GK goal d)(h:goal≠[]):d≠[]:=by
 obtain⟨qs,h1,h2,h3⟩:=g.qs
 obtain⟨p,hp⟩:=ad7 goal h
 obtain⟨q,hq,zz⟩:=h1.oE hp
 rcases h3 q hq with h | ⟨_,h⟩
 ·exact agc h
 ·exact agc h
theorem GK.part{goal d:List (List Nat)}(g:GK goal d){l:List Nat}(h:l∈d):∃p∈goal,Nm p l:=by
 obtain⟨qs,h1,h2,h3⟩:=g.qs
 exact h1.mem (h2 l h)
theorem Cn{p q:List Nat}(h:Nm p q):q.length≤p.length:=h.1.1.length_le_of_subset h.sub
theorem WX{bl:Nat→List (List Nat)}{bd:kZ}(B:Kv bl)(S:Hg bl bd):ru bd:=by
 have num:∀k,k<3→(bd (5+k)).length≤max 1 (bl k).length:=fun k hk=>by
  by_cases hb:bl k=[]
  ·rewrite[(S k hk).1 hb];exact agy _ _
  ·have:=((S k hk).2 hb).num;lia
 have part:∀k,k<3→∀q∈bd (5+k),q=[]∨∃p∈bl k,Nm p q:=fun k hk q hq=>by
  by_cases hb:bl k=[]
  ·rw[(S k hk).1 hb]at hq
   exact .inl (aad.mp hq)
  ·exact .inr (((S k hk).2 hb).part hq)
 refine⟨fun p hp=>?_,fun p hp q hq x hx=>?_,?_,?_,?_,fun q hq=>?_⟩
 ·obtain⟨h1,h2⟩:=hp
  obtain⟨k,rfl⟩:∃k,p=5+k:=⟨p-5,by lia⟩
  by_cases hb:bl k=[]
  ·rewrite[(S k (by lia)).1 hb]
   exact⟨fun q h=>by cases aad.mp h;exact⟨⟨.nil,by simp,by simp,by simp⟩,fun zz=>rfl⟩,by simp⟩
  ·exact⟨((S k (by lia)).2 hb).ok,((S k (by lia)).2 hb).nonempty hb⟩
 ·obtain⟨h1,h2⟩:=hp
  obtain⟨k,rfl⟩:∃k,p=5+k:=⟨p-5,by lia⟩
  rcases part k (by lia) q hq with rfl | ⟨p,h3,h4⟩
  ·cases hx
  ·have:=((B.gp k (by lia) p h3).df x (h4.sub x hx)).2
   lia
 ·have:(bd 5).length≤max 1 (bl 0).length:=num 0 (by decide)
  have:=B.n0;lia
 ·have:(bd 6).length≤max 1 (bl 1).length:=num 1 (by decide)
  have:=B.n1;lia
 ·have:(bd 7).length≤max 1 (bl 2).length:=num 2 (by decide)
  have:=B.n2;lia
 ·rcases part 0 (by decide) q hq with rfl | ⟨p,h3,h4⟩
  ·exact acV _
  ·have:=Cn h4;have:=B.two 0 (by decide) p h3;lia
theorem UJ{bl:Nat→List (List Nat)}{bd:kZ}(B:Kv bl)(S:Hg bl bd){things q:List Nat}(hd:∀x∈things,NM 3 x)(nq:Nm things q){goal d:List (List Nat)}(g:GK goal d):mM (dw bl things) goal=true↔ej bd [q] d:=by
 have gb:mM (dw bl things) goal=true↔∀c∈dw bl things,∃p∈goal,∀k∈p,k∈c:=by
  unfold mM
  simp only[adM,afT,decide_eq_true_eq]
 rewrite[gb]
 constructor
 ·intro h C w s
  have i:=(nq.yC C w.1).mp (bu.mp s)
  obtain⟨c,h1,h2⟩:=Bv ((H7 S C).mp w) i
  obtain⟨p,h3,h4⟩:=h c h1
  exact(g.yC C w.1).mpr ⟨p,h3,fun k hk=>h2 k (h4 k hk)⟩
 ·intro v c hc
  obtain⟨a1,zz,a3,zz⟩:=xU B hd c hc
  have w:=(H7 S _).mpr a3
  have:=v _ w (bu.mpr ((nq.yC _ w.1).mpr fun x hx=>a1 x hx))
  exact(g.yC _ w.1).mp this
theorem yk{p q:List Nat}(h:Nm p q)(x:Nat):x∈q↔x∈pf p:=by
 obtain⟨ok,zz,yC,sub⟩:=h
 have ip:=(yC (Cl q) (Hn ok)).mp (lN q)
 unfold pf
 rewrite[acZ]
 constructor
 ·intro hx
  refine⟨sub x hx,?_⟩
  by_cases z:x=2∧3∈p
  ·exfalso
   obtain⟨rfl,h3⟩:=z
   rcases ip 3 h3 with h | ⟨h,_⟩
   ·exact ok.2.2.1 ⟨hx,h⟩
   ·lia
  ·by_cases z2:x=2
   ·rewrite[decide_eq_false (fun h=>z ⟨z2,h⟩)];simp
   ·rw[decide_eq_false z2];rfl
 ·rintro⟨hx,hf⟩
  rcases ip x hx with h | ⟨rfl,h⟩
  ·exact h
  ·have h3:=sub 3 h
   rw[decide_eq_true h3]at hf
   simp at hf
theorem V5{things q p:List Nat}{d:List (List Nat)}(nq:Nm things q)(g:GK [p] d)(tn:things.Nodup)(pn:p.Nodup){us ws:List Nat}(h1:WE p us)(h2:WE things ws):Eqv [q] d↔us=ws:=by
 obtain⟨qs,n1,n2,n3⟩:=g.qs
 obtain _ | ⟨q',_ | ⟨_,_⟩⟩:=qs
 ·exact n1.elim
 ·have n1:=n1.1
  have hd:d=[q']:=by
   have num:=g.num
   have hq:q'∈d:=by
    rcases n3 q' (.head _)with h | ⟨h,h'⟩
    ·exact h
    ·have:=aad.mp (n2 _ h')
     rw[h]at this
     cases this
   obtain⟨x,rfl⟩:=fe (agc hq) (aep.mpr num)
   cases aad.mp hq;rfl
  rw[hd];rewrite[tj,WE.eq pn tn h1 h2]
  constructor
  ·intro h x
   rewrite[← yk n1,← yk nq]
   exact(h x).symm
  ·intro h x
   rewrite[yk n1,yk nq]
   exact(h x).symm
 ·exact n1.2.elim
theorem V6{q p1 p2:List Nat}{d:List (List Nat)}(q2:2≤q.length)(ok:ew q)(g:GK [p1,p2] d)(pn1:p1.Nodup)(pn2:p2.Nodup)(qc:¬ ∀x,x∈pf p1↔x∈pf p2):¬Eqv [q] d:=by
 rintro⟨q',l,h1,h2,h⟩
 simp at h1
 subst h1 h2
 obtain⟨qs,n1,n2,n3⟩:=g.qs
 have l2:2≤l.length:=by
  have:=ok.1.length_le_of_subset (l₂:=l) fun x hx=>(h x).mp hx
  lia
 have one:∀q'∈qs,q'=l:=fun q' hq=>by
  rcases n3 q' hq with h | ⟨_,h⟩
  ·exact aad.mp h
  ·rw[← aad.mp h]at l2
   simp at l2
 obtain _ | ⟨a,_ | ⟨b,_ | ⟨_,_⟩⟩⟩:=qs
 ·exact n1.elim
 ·exact n1.2.elim
 ·obtain⟨m1,m2,zz⟩:=n1
  have ha:=one a (.head _)
  have hb:=one b (.tail _ (.head _))
  subst ha
  subst hb
  exact qc fun x=>by rw[← yk m1,← yk m2]
 ·exact n1.2.2.elim
end Mine
namespace Mine
open PySem
variable{Γ:Ctx}{rows:List PV}{σ:ey}{tw:lK}{K X:List ap}{Q:PV→List ap→Prop}{d L m n s t gI N:Nat}{q rs:List Nat}{goal dt:cj}{T:Bool→ey→Prop}{rv:PV}
structure lI(m:Nat)(goal:cj):Prop where
 gp:∀p∈goal,GP m p
 ne:goal≠[]
 two:goal.length≤2
 short:∀p∈goal,p.length≤3
theorem pJ(g:GK goal dt)(o:lI m goal)(ok:ew q)(hL:lb q):Form [q] dt∧∀l∈dt,l.length≤3:=by
 have hs:∀l∈dt,l.length≤3:=fun l hl=>by
  obtain⟨p,h1,h2⟩:=g.part hl
  exact aa4 (Cn h2) (o.short p h1)
 exact⟨⟨fun q' h=>by cases aad.mp h;exact⟨ok,fun e=>e▸rfl⟩,adb 1,⟨g.nonempty o.ne,g.ne,g.ok⟩,aa4 g.num o.two,.inr fun q' h=>by cases aad.mp h;exact hL,fun zz=>hs⟩,hs⟩
noncomputable def Bm(goal:cj):Prop:=∃x,goal=[[x]]
theorem xN{x:Nat}(g:GK [[x]] dt):dt=[[x]]:=by
 have qc:=g.nonempty (List.cons_ne_nil _ _)
 obtain⟨l,rfl⟩:=fe qc (aep.mpr g.num)
 obtain⟨p,hp,nm⟩:=g.part (.head _)
 cases aad.mp hp
 obtain⟨y,rfl⟩:=fe nm.ne (aep.mpr (Cn nm))
 rewrite[aad.mp (nm.sub y (.head _))];rfl
theorem Hh(hg:(gI,CO.list (az rs))∈K)(a:As K rs goal)(qc:goal≠[])(mA:Rd K (au ai rv (S "ask")) (.fn (S "Rel.ask")))(h1:Bm goal→Run K (Φ n (S "from_inter") [rv,.int s,.int t]) Q)(h2:¬Bm goal→Run K (Φ n (S "Rel.ask") [rv,.int s,.int t]) Q):Run K (Φ (n+1) (S "_law_asked") [rv,.int s,.int t,.ref gI]) Q:=by
 have hl:=a.len
 have A1:¬Bm goal→Run K (qV (Φ n) rv (.int s) (.int t) false) Q:=fun h=>Run.no<|Run.rd mA (h2 h)
 have ln:Rd K (aa (blt .len [.ref gI]) fun x1=>ae .Eq x1 (.int 1)) (((az rs).length:Int) == 1):=Rd.seq (Rd.len hg) (Rd.eq _ _)
 unfold az at ln
 rw[aaY,hl]at ln
 by_cases two:2≤goal.length
 ·rw[fU (show((goal.length:Nat):Int)≠1 by lia)]at ln
  exact Run.eq (sZ ..)<|Run.rd (Rd.oa ln)<|A1 (by rintro⟨x,h⟩;exact by rw[h]at two;exact absurd two (aa3 1))
 ·obtain⟨p,rfl⟩:=fe qc two
  obtain _ | ⟨v,vs⟩:=rs
  ·exact a.elim
  have lp:Rd K (aa (aa (aa (aa (getItem (.ref gI) (.int 0)) fun x3=>ret [x3]) fun l4=>blt .len l4) fun x5=>ae .Eq x5 (.int 1)) fun b6=>af b6 (ret true) (ret false)) ((p.length:Int) == 1) :=
   Rd.tf<|Rd.seq (Rd.seq (Rd.seq (Rd.item (i:=0) hg rfl) (Rd.ret _)) (Rd.len a.1)) (by rw[bm];exact Rd.eq _ _)
  refine Run.eq (sZ ..)<|Run.rd (Rd.Rx ln lp) ?_
  by_cases h:p.length=1
  ·rw[h]
   obtain⟨x,rfl⟩:=List.length_eq_one_iff.mp h
   exact Run.yes (h1 ⟨x,rfl⟩)
  ·rw[fU (show((p.length:Nat):Int)≠1 by lia)]
   exact A1 (by rintro⟨x,e⟩;exact h (by cases e;rfl))
theorem Lw.less{e:Nat}(l:Lw Γ (d+e) L rows σ tw):Lw Γ d L rows σ tw:=⟨l.ok.less,l.tw,l.nil,l.dp⟩
theorem Lw.step{ah:List PV}{dr:ey}{e:Nat}(l:Lw Γ e L rows σ tw)(s:Sp Γ d rows σ N ah dr):Lw Γ d L ah dr tw:=⟨s.ok,l.tw.grow s.ok.rw s.pre s.tw,s.tr0 l.nil,s.deep.trans l.dp⟩
theorem Run.lw{e:Nat}{c:CM PV}(l:Lw Γ e L rows σ tw)(h:Run (bp Γ rows σ) c (An Γ d rows σ N T))(g:∀{r ah dr},Lw Γ d L ah dr tw→Sp Γ d rows σ N ah dr→T r dr→Q (.bool r) (X++eb Γ ah dr tw)):Run (X++eb Γ rows σ tw) c Q:=by
 have r:=Run.an (X++Wo tw) h (Q:=Q) fun s t=>by rewrite[aaW X (Wo tw)];exact g (l.step s) s t
 rw[aaW X (Wo tw)]at r
 exact r
theorem Lw.tr{d e:Nat}(l:Lw Γ d L rows σ tw):jr Γ rows σ.trail e:=by rw[l.nil];exact fun p h=>zM h
theorem Yy(G:GM Γ){r r':Bool}{ds:cj}(g:Good Γ.bd ds dt)(h:Γ.P r ds dt)(h':Γ.P r' ds dt):r=r':=by
 rw[G.P]at h h'
 cases r <;> cases r'
 ·rfl
 ·exact absurd ⟨g,h'.1 rfl⟩ (h.2 rfl).1
 ·exact absurd ⟨g,h.1 rfl⟩ (h'.2 rfl).1
 ·rfl
theorem IM:Rd (X++eb Γ rows σ tw) (au ai (.ref Γ.h.rel) (S "ask")) (.fn (S "Rel.ask")):=fun H r=>mD (Γ:=Γ) (rows:=rows) (σ:=σ) H (r.sub ((ab7 ..).trans (ab7 ..)))
theorem Qn(G:GM Γ)(l:Lw Γ (d+50) L rows σ tw){x:Nat}(a:Mt rows s q)(q2:2≤q.length)(ok:ew q)(b:Th rows t x)(F:Form [q] [[x]])(hl:σ.aq+334<20000)(hn:140≤n)
  (g:∀{r ah dr},Lw Γ d L ah dr tw→Sp Γ d rows σ (σ.aq+(cq q x-1)) ah dr→Γ.P r [q] [[x]]→Q (.bool r) (X++eb Γ ah dr tw)):Run (X++eb Γ rows σ tw) (Φ n (S "from_inter") [.ref Γ.h.rel,.int s,.int t]) Q:=by
 have hc:cq q x≤335:=aa4 (sV ok x) (iJ (b:=3) (gE q) (by decide))
 have hm:=QI [q] [[x]]
 have dp:=l.dp
 exact Run.lw l (T8 G l.ok l.tr a q2 ok b F (fun ds dt F h=>sO G 15 ds dt F (by lia)) (by lia) (adW (adT (afJ (N1 q x)).symm) _) (by lia) (by lia)) g
theorem KG{bd:kZ}(B:ru bd){q:List Nat}{d dt:List (List Nat)}(W:AW bd q d)(hl:1≤fH q)(F:Form [q] dt)(hs:∀l∈dt,l.length≤3):fE d dt≤2149∧∀x,dt=[[x]]→fE d dt≤195:=by
 have hv:NI d≤2:=by have:=W.XF B hl;have:=gE q;lia
 have one:∀x,dt=[[x]]→fE d dt≤195:=fun x e=>by
  subst e
  exact AY W.ok W.num hv (by decide)
 refine⟨?_,one⟩
 by_cases t2:2≤dt.length
 ·exact sS t2 W.num hv (by decide)
 ·obtain⟨l,rfl⟩:=fe F.Bd.1 t2
  have hc:∀q'∈d,ci q' l≤292:=fun q' hq'=>by
   have h1:=TA (W.ok q' hq').1 (hs l (.head _))
   have h2:mN (fH q')≤97:=iJ (b:=2) (aa4 (tK hq') hv) (by decide)
   lia
  refine Rj (P:=fun d=>(∀q'∈d,ci q' l≤292)→fE d [l]≤2149) (fun zz=>acV _) (fun a hc=>?_) (fun a b hc=>?_) W.num hc
  ·have:=hc a (.head _);show ci a l≤_;lia
  ·have h1:=hc a (.head _)
   have h2:=hc b (.tail _ (.head _))
   show 1+(ci a l+(ci b l+0))≤_
   lia
theorem WV(G:GM Γ)(l:Lw Γ (d+50) L rows σ tw)(a:Mt rows s q)(q2:2≤q.length)(ok:ew q)(hp:1≤fH q)(b:Ty rows t dt)(F:Form [q] dt)(hs:∀l∈dt,l.length≤3)(hl:σ.aq+2149<20000)(hn:140≤n)
  (g:∀{r ah dr},Lw Γ d L ah dr tw→Sp Γ d rows σ (σ.aq+2149) ah dr→(∀x,dt=[[x]]→dr.aq≤σ.aq+195)→BT Γ q dt r→Q (.bool r) (X++eb Γ ah dr tw)):Run (X++eb Γ rows σ tw) (Φ n (S "by_bounds") [.ref Γ.h.rel,.int s,.int t]) Q:=by
 have hm:=QI [q] dt
 have dp:=l.dp
 have B:=G.g.tok
 have go:∀{N:Nat},(∀w,AW Γ.bd q w→σ.aq+fE w dt≤N)→N<20000→σ.aq≤N→Run (bp Γ rows σ) (Φ n (S "by_bounds") [.ref Γ.h.rel,.int s,.int t]) (An Γ d rows σ N fun r zz=>BT Γ q dt r):=fun h hN h0 =>
  sR G l.ok l.tr a q2 ok b F (fun ds dt F h=>sO G 15 ds dt F (by lia)) (by lia) h0 (fun w W zz=>h w W) hN (by lia)
 by_cases hx:∃x,dt=[[x]]
 ·obtain⟨x,rfl⟩:=hx
  exact Run.lw l (go (N:=σ.aq+195) (fun w W=>adW ((KG B W hp F hs).2 x rfl) _) (by lia) (acR ..)) fun l' st p=>g l' (st.less (e:=0) (by lia)) (fun zz zz=>st.hi) p
 ·exact Run.lw l (go (N:=σ.aq+2149) (fun w W=>adW (KG B W hp F hs).1 _) hl (acR ..)) fun l' st p=>g l' st (fun x e=>absurd ⟨x,e⟩ hx) p
theorem Rz(G:GM Γ)(l:Lw Γ (d+50) L rows σ tw)(hg:(gI,CO.list (az rs))∈X)(ha:As X rs goal)(o:lI m goal)(gk:GK goal dt)(a:Mt rows s q)(q2:2≤q.length)(ok:ew q)(hL:lb q)(b:Ty rows t dt)(hl:σ.aq+4162<20000)(hn:140≤n)
  (g:∀{r ah dr},Lw Γ d L ah dr tw→Sp Γ d rows σ (σ.aq+4162) ah dr→Γ.P r [q] dt→(∀x,goal=[[x]]→dr.aq≤σ.aq+(cq q x-1))→(¬Bm goal→s≠t→br (cg (s,t)) dr.known=some (.bool r))→Q (.bool r) (X++eb Γ ah dr tw)):Run (X++eb Γ rows σ tw) (Φ (n+1) (S "_law_asked") [.ref Γ.h.rel,.int s,.int t,.ref gI]) Q:=by
 obtain⟨F,hs⟩:=pJ gk o ok hL
 refine Hh (aap _ hg) (ha.sub fun zz h=>aap _ h) o.ne IM (fun⟨x,e⟩=>?_) fun Xs=>?_
 ·subst e
  obtain rfl:=xN gk
  have hc:cq q x≤335:=aa4 (sV ok x) (iJ (b:=3) (gE q) (by decide))
  exact Qn G l a q2 ok (show Th rows t x from b) F (by lia) hn fun l' st p=>g l' (st.less (e:=0) (by lia)) p (fun y e=>by cases e;exact st.hi) fun h=>absurd ⟨x,rfl⟩ h
 ·have hc:fE [q] dt≤4162:=by
   by_cases t2:2≤dt.length
   ·obtain _ | ⟨_,_ | ⟨_,_⟩⟩:=dt
    ·exact absurd t2 (by decide)
    ·exact absurd t2 (aa3 1)
    ·exact Rh (b:=3) (gE q) (by decide)
   ·obtain⟨l',rfl⟩:=fe F.Bd.1 t2
    have h1:=TA ok (hs l' (.head _))
    have h2:mN (fH q)≤335:=iJ (b:=3) (gE q) (by decide)
    show ci q l'≤_
    lia
  have hm:=QI [q] dt
  have dp:=l.dp
  exact Run.lw (N:=σ.aq+4162) l (sO G 15 [q] dt F (by lia) (by lia) l.less.ok l.tr (show Ty rows s [q]from a) b (by lia) (by lia) hl) fun l' st p=>g l' st p.P9 (fun x e=>absurd ⟨x,e⟩ Xs) fun zz jd=>p.root l.nil jd ⟨q,rfl,q2⟩
theorem Ry(G:GM Γ)(W:Ok Γ d rows σ)(a:Mt rows s q)(q2:2≤q.length)(b:Ty rows t dt)(tg:YA dt)(jd:s≠t){r:Bool}(hk:br (cg (s,t)) σ.known=some (.bool r))(g:Q (.bool r) (bp Γ rows σ)):Run (bp Γ rows σ) (Φ (n+21) (S "Rel.ask") [.ref Γ.h.rel,.int s,.int t]) Q:=by
 have th:=tg.high b
 have hs:=Mt.high a (by intro h;rw[h]at q2;cases q2)
 have ik:=Y1 (Γ:=Γ) (rows:=rows) W.kk (s,t)
 rw[hk]at ik
 exact lL (m:=n+15) W.rw G.mode jd (show Ty rows s [q]from a) b (kG (n:=n+17) W.rw (show Ty rows s [q]from a) b (by lia) (by lia) (by lia) (by lia) (.inl (B8 (.inr ⟨q,rfl,q2⟩)))) (Run.eq (mK ..)<|Run.rd ik<|Run.yes<|Run.rd Ni<|Run.of _ (Rd.cell (fun zz e=>lR e (kx (s,t) W.kk) hk) 2 rfl).det g) (.inr (.inr rfl))
theorem RA(G:GM Γ)(l:Lw Γ (d+50) L rows σ tw)(hg:(gI,CO.list (az rs))∈X)(ha:As X rs goal)(o:lI m goal)(gk:GK goal dt)(a:Mt rows s q)(q2:2≤q.length)(ok:ew q)(hL:lb q)(b:Ty rows t dt)(hl:σ.aq+400<20000)(hn:140≤n){r:Bool}(hr:Γ.P r [q] dt)(hk:¬Bm goal→s≠t→br (cg (s,t)) σ.known=some (.bool r))
  (g:∀{ah dr},Lw Γ d L ah dr tw→Sp Γ d rows σ (σ.aq+334) ah dr→(¬Bm goal→dr.aq=σ.aq)→(∀x,goal=[[x]]→dr.aq≤σ.aq+(cq q x-1))→Q (.bool r) (X++eb Γ ah dr tw)):Run (X++eb Γ rows σ tw) (Φ (n+1) (S "_law_asked") [.ref Γ.h.rel,.int s,.int t,.ref gI]) Q:=by
 obtain⟨F,hs⟩:=pJ gk o ok hL
 refine Hh (aap _ hg) (ha.sub fun zz h=>aap _ h) o.ne IM (fun⟨x,e⟩=>?_) fun Xs=>?_
 ·subst e
  obtain rfl:=xN gk
  have hc:cq q x≤335:=aa4 (sV ok x) (iJ (b:=3) (gE q) (by decide))
  refine Qn G l a q2 ok (show Th rows t x from b) F (by lia) hn fun l' st p=>?_
  cases Yy G (Good.rq fun q' h=>by cases aad.mp h;exact hL) hr p
  exact g l' (st.less (e:=0) (by lia)) (fun h=>absurd ⟨x,rfl⟩ h) fun y e=>by cases e;exact st.hi
 ·obtain⟨n,rfl⟩:∃k,n=k+21:=⟨n-21,by lia⟩
  have z:=g l.less (Sp.refl l.less.ok (acR ..)) (fun zz=>rfl) fun x e=>absurd ⟨x,e⟩ Xs
  by_cases jd:s=t
  ·subst jd
   obtain rfl:=Ty.fn l.ok.rw.base (show Ty rows s [q]from a) b
   obtain rfl:r=true:=Yy G ⟨fun q' h=>by cases aad.mp h;exact hL,fun l hl zz k hk zz q' h=>by cases aad.mp h;cases aad.mp hl;exact hk,.inl (aaX _)⟩ hr ((G.P _ _ _).mpr ⟨fun zz C w s=>s,(fun z=>rr z)⟩)
   exact Run.eq (lO ..)<|Run.eq (m:=Φ (n+20) (S "ask_kinds") [.ref Γ.h.rel,.int s,.int s]) (jc ..)<|Run.rd (Rd.gL (beq_self_eq_true _))<|Run.yes<|Run.ret z
  ·exact Run.lw (T:=fun r' dr=>r'=r∧dr=σ) (N:=σ.aq) l (Ry (d:=d) G l.less.ok a q2 b F.Bd jd (hk Xs jd) ⟨Sp.refl l.less.ok (aaX _),rfl,rfl⟩) fun l' st e=>by have e':=e.2;have e:=e.1;subst e e';exact g l' (st.less (e:=0) (acR ..)) (fun zz=>rfl) fun x e=>absurd ⟨x,e⟩ Xs
end Mine
namespace Mine
open PySem
variable{Γ:Ctx}{rows:List PV}{σ:ey}{tw:lK}{K X:List ap}{Q:PV→List ap→Prop}{d L m n s t gI N κ bI tI cI:Nat}{q things gs cr rs:List Nat}{goal dt:cj}{kl:List PV}{rk:Nat→List Nat}{bl:Nat→cj}{cl:Str→List PV→CM PV}
structure Bh(Γ:Ctx)(X:List ap)(κ bI tI cI:Nat)(kl:List PV)(gs:List Nat)(rk:Nat→List Nat)(bl:Nat→cj)(things cr q:List Nat):Prop where
 G:GM Γ
 kl:(κ,CO.list kl)∈X
 bI:(bI,CO.list (az gs))∈X
 ba:A3 X gs rk bl
 th:(tI,CO.list (bi things))∈X
 cI:(cI,CO.list (az cr))∈X
 cs:As X cr (dw bl things)
 B:Kv bl
 S:Hg bl Γ.bd
 td:∀x∈things,NM 3 x
 tn:things.Nodup
 tl:things.length≤4
 nq:Nm things q
 q2:2≤q.length
 hL:lb q
 hp:1≤fH q
theorem Bh.sub{X':List ap}(h:X⊆X')(C:Bh Γ X κ bI tI cI kl gs rk bl things cr q):Bh Γ X' κ bI tI cI kl gs rk bl things cr q:=⟨C.G,h C.kl,h C.bI,C.ba.sub h,h C.th,h C.cI,C.cs.sub h,C.B,C.S,C.td,C.tn,C.tl,C.nq,C.q2,C.hL,C.hp⟩
noncomputable def NN(goal:cj):Prop:=∀p1 p2,goal=[p1,p2]→¬ ∀x,x∈pf p1↔x∈pf p2
theorem Rk{a b:Nat}{us ws:List Nat}{H:CH}(h1:H[a]?=some (.list (bi us)))(h2:H[b]?=some (.list (bi ws)))(e:a≠b):H4 H (.ref a) (.ref b)=some (decide (us=ws)):=by
 refine(EM h1 h2 (ado.mpr fun z=>e (abX z))).trans ?_
 show ZZ (bi us) (bi ws)=_
 unfold ZZ Bt
 rw[iN];rw[iN];rw[js];rw[js]
 refine congrArg some (acr.mpr (beq_iff_eq.trans (Iff.trans ⟨fun h=>A5 (by rw[iN];rw[iN];rw[h];rfl),fun h=>by rw[h];rfl⟩ decide_eq_true_iff.symm)))
theorem Rd.TS{a b:Nat}{us ws:List Nat}(h:(a,CO.list (bi us))∈K):Rd ((b,.list (bi ws))::K) (ae .Eq (.ref a) (.ref b)) (decide (us=ws)):=fun H rp=>by
 have hn:=(abU.mp rp.2.1).1
 exact yy (f:=fun H=>H4 H (.ref a) (.ref b)) (Rk (rp.2.2 _ (.tail _ h)).2 (rp.2.2 _ (.head _)).2 fun z=>hn (abi.mpr ⟨_,h,z⟩))
theorem Rd.neB(a b:Bool):Rd K (ae .NotEq (.bool a) (.bool b)) (!(a == b)):=fun zz zz=>rfl
theorem QB:Rd (X++eb Γ rows σ tw) (au ai (.ref Γ.h.rel) (S "same")) (.fn (S "Rel.same")):=fun H r=>X8 (Γ:=Γ) (rows:=rows) (σ:=σ) H (r.sub ((ab7 ..).trans (ab7 ..)))
theorem Nu(G:GM Γ)(l:Lw Γ (d+10050) L rows σ tw)(a:Mt rows s q)(q2:2≤q.length)(ok:ew q)(b:Ty rows t dt)(gt:YA dt)(hL:L+201<9000)(hR:Γ.R=1000000)(hd:d≤500000)(hk:σ.aq<20000)
  (g:∀{r ah dr NK},Lw Γ d (L+201) ah dr NK→rows <+: ah→dr.aq=σ.aq→dr.known=σ.known→(r=true↔Eqv [q] dt)→Q (.bool r) (X++eb Γ ah dr NK)):Run (X++eb Γ rows σ tw) (Φ (n+14) (S "Rel.same") [.ref Γ.h.rel,.int s,.int t]) Q :=
 ((aan (Q:=fun v K'=>Q v (X++K')) G l a q2 ok b gt hL hR hd hk g).upL X).imp (by rintro _ _ ⟨_,e,q⟩;exact e▸q)
theorem aav(C:Bh Γ X κ bI tI cI kl gs rk bl things cr q)(l:Lw Γ (d+10100) L rows σ tw)(a:Mt rows s q)(hg:(gI,CO.list (az rs))∈X)(ha:As X rs goal)(o:lI 3 goal)(gk:GK goal dt)(hd:NN goal)(b:Ty rows t dt)(hL:L+201<9000)(hR:Γ.R=1000000)(RT:d≤400000)(hl:σ.aq+400<20000){r:Bool}(hr:Γ.P r [q] dt)(hk:¬Bm goal→s≠t→br (cg (s,t)) σ.known=some (.bool r)){kk:PV→Bool→CM PV}
  (g:∀{X' ah dr NK sb},X⊆X'→Lw Γ d (L+201) ah dr NK→rows <+: ah→dr.aq≤σ.aq+334→(¬Bm goal→dr.aq=σ.aq)→(∀x,goal=[[x]]→dr.aq≤σ.aq+(cq q x-1))→Run (X'++eb Γ ah dr NK) (kk sb false) Q) :
  Run (X++eb Γ rows σ tw) (aa (aa (aa (blt .len [.ref gI]) fun aaR=>aa (ae .Eq aaR (.int 1)) fun Zp=>ret (.bool Zp)) fun acJ=>aa (truth acJ) fun adL=>af adL (aa (aa (aa (getItem (.ref gI) (.int 0)) fun ae0=>ret [ae0]) fun aeB=>Φ (n+200) (S "_law_plain") aeB) fun ae1=>aa (aa (Φ (n+200) (S "_law_plain") [.ref tI]) fun ae2=>ae .Eq ae1 ae2) fun adK=>ret (.bool adK)) (ret acJ)) fun acK=>aa (aa (aa (aa (au ai (.ref Γ.h.rel) (S "same")) fun ZG=>aj (Φ (n+200)) ZG (.ref Γ.h.rel) (.int s::[.int t])) fun aaS=>ae .NotEq aaS acK) fun Zq=>af Zq (ret true) (aa (aa (Φ (n+200) (S "_law_asked") (.ref Γ.h.rel::(.int s::(.int t::[.ref gI])))) fun aaT=>ae .NotEq aaT (.bool r)) fun Zr=>af Zr (ret true) (ret false))) (kk acK)) Q:=by
 have ok:=C.nq.ok
 obtain⟨F,zz⟩:=pJ gk o ok C.hL
 have ln:Rd (X++eb Γ rows σ tw) (aa (blt .len [.ref gI]) fun aaR=>aa (ae .Eq aaR (.int 1)) fun Zp=>ret (PV.bool Zp)) (PV.bool ((goal.length:Int) == 1)):=Rd.seq (Rd.len (aap _ hg)) (Rd.seq (Rd.eq _ _) (by unfold az;rw[aaY];rw[ha.len];exact Rd.ret _))
 have rest:∀{X' sb},X⊆X'→(sb=true↔Eqv [q] dt)→Run (X'++eb Γ rows σ tw) (aa (aa (aa (aa (au ai (.ref Γ.h.rel) (S "same")) fun ZG=>aj (Φ (n+200)) ZG (.ref Γ.h.rel) (.int s::[.int t])) fun aaS=>ae .NotEq aaS (.bool sb)) fun Zq=>af Zq (ret true) (aa (aa (Φ (n+200) (S "_law_asked") (.ref Γ.h.rel::(.int s::(.int t::[.ref gI])))) fun aaT=>ae .NotEq aaT (.bool r)) fun Zr=>af Zr (ret true) (ret false))) (kk (.bool sb))) Q:=fun{X' sb} hs hq=>by
  refine Run.bh<|Run.bh<|Run.bh<|Run.rd QB<|Nu (n:=n+186) (d:=d+50) C.G l a C.q2 ok b F.Bd hL hR (by lia) (by lia) fun{z ah dr NK} l' p lk kn hz=>?_
  obtain rfl:z=sb:=acr.mpr (hz.trans hq.symm)
  refine Run.of _ (Rd.neB z z).det ?_
  rw[beq_self_eq_true]
  refine Run.no<|Run.bh<|Run.bh<|RA (n:=n+199) C.G l' (hs hg) (ha.sub hs) o gk (a.pre p) C.q2 ok C.hL (b.pre p) (by lia) (by lia) hr (by rw[kn];exact hk) fun{acs σ6} l6 st c1 c2=>Run.of _ (Rd.neB r r).det ?_
  rw[beq_self_eq_true]
  exact Run.no<|Run.ret<|g hs l6 (p.trans st.pre) (by have:=st.hi;lia) (fun h=>(c1 h).trans lk) fun x e=>by have:=c2 x e;lia
 refine Run.bh<|Run.rd ln<|Run.rd (a:=((goal.length:Int) == 1)) (fun zz zz=>rfl) ?_
 by_cases two:2≤goal.length
 ·rw[fU (show((goal.length:Nat):Int)≠1 by lia)]
  obtain _ | ⟨p1,_ | ⟨p2,_ | ⟨_,_⟩⟩⟩:=goal
  ·exact absurd rfl o.ne
  ·exact absurd two (aa3 1)
  ·exact Run.no<|Run.ret<|rest (aeC _) ⟨(fun z=>fS z),fun h=>absurd h (V6 C.q2 ok gk (o.gp p1 (.head _)).nd (o.gp p2 (.tail _ (.head _))).nd (hd p1 p2 rfl))⟩
  ·have:=o.two;simp only[aaK]at this;lia
 ·obtain⟨p,rfl⟩:=fe o.ne two
  obtain _ | ⟨v,vs⟩:=rs
  ·exact ha.elim
  have gp:=o.gp p (.head _)
  have pl:=gp.len
  have tl:=C.tl
  refine Run.yes<|Run.bh<|Run.bh<|Run.rd (Rd.item (i:=0) (aap _ hg) rfl)<|Run.ret<|A9 (n:=n+199) (aap _ ha.1) (by lia) fun i us h1=>Run.bh<|Run.bh<|A9 (n:=n+199) (.tail _ (aap _ C.th)) (by lia) fun j ws h2=>Run.of _ (Rd.TS (.head _)).det<|Run.ret<|rest (X':=(j,.list (bi ws))::(i,.list (bi us))::X) (fun zz h=>.tail _ (.tail _ h)) (decide_eq_true_iff.trans (V5 C.nq gk C.tn gp.nd h1 h2).symm)
end Mine
namespace Mine
open PySem
variable{Γ:Ctx}{rows:List PV}{σ:ey}{tw:lK}{K X:List ap}{Q:PV→List ap→Prop}{d L m n s t gI N κ bI tI cI:Nat}{q things gs cr rs:List Nat}{goal dt:cj}{kl:List PV}{rk:Nat→List Nat}{bl:Nat→cj}{cl:Str→List PV→CM PV}
noncomputable def fP(things p:List Nat):List Nat:=if 1<p.length then p.filter fun x=>decide (7<x)&&!decide (x∈things)else[]
noncomputable def jA(l:List Nat):List Nat:=l.filter fun x=>decide (4<x)&&decide (x<8)
theorem Hu{l:List PV}{turn:PV→CM (List PV)}{f:List Nat→List Nat}(hg:(gI,CO.list l)∈K)(ht:∀v p,(v,CO.list (bi p))∈K→Rd K (turn (.ref v)) (bi (f p))):∀{vs:List Nat} {ps:cj} {R:List PV→List ap→Prop},az vs <:+ l→As K vs ps→R (bi (ps.flatMap f)) K→Run K (pZ gI l turn (az vs)) R:=by
 intro vs
 induction vs with
 | nil =>
  intro ps R s a h
  obtain rfl:ps=[]:=aaZ a.len.symm
  exact Run.KE hg h
 | cons v vs ih =>
  intro ps R s a h
  obtain _ | ⟨p,ps⟩:=ps
  ·exact a.elim
  exact Run.xV hg s<|Run.of _ (ht v p a.1).det<|ih ((abT ..).trans s) a.2 (by rewrite[← eI];exact h)
theorem RV(v:Nat)(p:List Nat)(h:(v,CO.list (bi p))∈K):Rd K (ME (.ref v)) (bi (id p)) :=
 Rd.seq (Rd.mem (fun zz=>dh) h)<|Rd.seq (Rd.mem (fun zz=>cu) h)<|by
  have:=Rd.Qe (τ:=id) (turn:=MD) h fun t zz=>Rd.ret _
  rwa [List.map_id]at this
theorem Xb(a b:Nat):decide ((a:Int)<(b:Int))=decide (a<b):=by rewrite[acr];rw[decide_eq_true_eq];rw[decide_eq_true_eq];lia
theorem PQ(ht:(tI,CO.list (bi things))∈K)(v:Nat)(p:List Nat)(h:(v,CO.list (bi p))∈K):Rd K (MF (.ref tI) (.ref v)) (bi (fP things p)):=by
 have e:Rd K (aa (blt .len [.ref v]) fun aeW=>ae .Gt aeW (.int 1)) (decide (1<p.length)):=Rd.seq (Rd.len h) fun H zz=>by rw[bm];show some (decide ((1:Int)<_),H)=_;rewrite[← Xb];rfl
 refine Rd.seq (Rd.tf e) ?_
 unfold fP
 by_cases h1:1<p.length
 ·rw[if_pos h1];rw[decide_eq_true h1]
  refine Rd.yes<|Rd.seq (Rd.mem (fun zz=>dh) h)<|Rd.seq (Rd.mem (fun zz=>cu) h)<|Rd.Ho (p:=fun x=>decide (7<x)&&!decide (x∈things)) h fun t zz=>Rd.seq (Rd.tf (Rd.NR (a:=decide (7<t)) (fun H zz=>?_) (Rd.tf (Rd.Fn (t:=t) ht)))) ?_
  ·rewrite[← Xb];rfl
  ·cases (decide (7<t)&&!decide (t∈things)) <;> exact Rd.ret _
 ·rw[if_neg h1];rw[decide_eq_false h1]
  exact Rd.no (Rd.ret _)
theorem UK{l:List Nat}(v:Nat)(h:(v,CO.list (bi l))∈K):Rd K (av (.live v) MG (bi l).length 0) (bi (jA l)) :=
 Rd.Ho (p:=fun x=>decide (4<x)&&decide (x<8)) h fun t zz=>Rd.seq (Rd.tf (Rd.NR (a:=decide (4<t)) (b:=decide (t<8)) (fun H zz=>by rewrite[← Xb];rfl) (fun H zz=>by rewrite[← Xb];rfl))) (by cases (decide (4<t)&&decide (t<8)) <;> exact Rd.ret _)
theorem La{f:List Nat→List Nat}{n:Nat}:∀{ls:cj},(∀p∈ls,(f p).length≤n)→(ls.flatMap f).length≤ls.length*n
 | [],_=>acV _
 | p::r,h=>by
  have h1:=h p (.head _)
  have h2:=La (ls:=r) fun q hq=>h q (.tail _ hq)
  rw[adQ];rw[aaA];rw[aaK];rw[agA];rw[afn]
  lia
end Mine
namespace Mine
open PySem
variable{Γ:Ctx}{rows:List PV}{σ:ey}{tw:lK}{K X:List ap}{Q:PV→List ap→Prop}{d L m n s t gI N κ bI tI cI:Nat}{q things gs cr rs:List Nat}{goal dt:cj}{kl:List PV}{rk:Nat→List Nat}{bl:Nat→cj}{cl:Str→List PV→CM PV}
theorem UN(g:GK goal dt)(h:jA (goal.flatMap id)=[]):∀l∈dt,∀k∈l,¬kY k:=fun l hl k hk hp=>by
 obtain⟨p,hp2,nmp⟩:=g.part hl
 have:k∈jA (goal.flatMap id):=acZ.mpr ⟨aen.mpr ⟨p,hp2,nmp.sub k hk⟩,by rewrite[decide_eq_true (show 4<k from hp.1),decide_eq_true (show k<8 from hp.2)];rfl⟩
 rw[h]at this
 cases this
theorem Qr(C:Bh Γ X κ bI tI cI kl gs rk bl things cr q)(g:GK goal dt)(jd:goal.flatMap (fP things)=[])(hnm:jA (goal.flatMap id)=[]∨(bl 0).length<2):Good Γ.bd [q] dt:=by
 have ok:=C.nq.ok
 refine⟨fun q' h=>by cases aad.mp h;exact C.hL,fun l hl hl2 k hk h8 q' h=>?_,?_⟩
 ·cases aad.mp h
  obtain⟨p,hp,nmp⟩:=g.part hl
  have hkp:=nmp.sub k hk
  have hpl:=Cn nmp
  have hkt:k∈things:=Classical.byContradiction fun hn=>by
   have:k∈goal.flatMap (fP things):=aen.mpr ⟨p,hp,by
    unfold fP
    rewrite[if_pos (by lia),acZ];rw[decide_eq_true (show 7<k by lia)];rw[decide_eq_false hn]
    exact⟨hkp,rfl⟩⟩
   rw[jd]at this
   cases this
  exact((C.nq.yC (Cl q) (Hn ok)).mp (lN q) k hkt).resolve_right fun h=>by have:=h.1;lia
 ·rcases hnm with hnm | hnm
  ·exact .inr (.inl (UN g hnm))
  ·refine .inr (.inr fun p ⟨h1,h2⟩=>?_)
   have B:=C.G.g.tok
   obtain rfl | rfl | rfl:p=5∨p=6∨p=7:=by lia
   ·by_cases hb:bl 0=[]
    ·rewrite[(C.S 0 (by decide)).1 hb];exact aaX _
    ·have:(Γ.bd 5).length≤(bl 0).length:=((C.S 0 (by decide)).2 hb).num
     lia
   ·exact B.XT
   ·exact B.XU
end Mine
namespace Mine
open PySem
variable{Γ:Ctx}{rows:List PV}{σ:ey}{tw:lK}{K X:List ap}{Q:PV→List ap→Prop}{d L m n s t gI N κ bI tI cI:Nat}{q things gs cr rs:List Nat}{goal dt:cj}{kl:List PV}{rk:Nat→List Nat}{bl:Nat→cj}{cl:Str→List PV→CM PV}{τ:Nat→Nat}
theorem tP(X:List ap)(rows:List PV):(X++eb Γ rows σ tw).Perm (cf Γ.c Γ.bs rows++(X++(Wo tw++SJ Γ σ))):=by
 rewrite[show X++eb Γ rows σ tw=(X++(Wo tw++SJ Γ σ))++cf Γ.c Γ.bs rows from by rw[aaW];rw[aaW];rfl]
 exact afp
theorem Lq(l:Lw Γ (d+110) L rows σ tw)(hR:Γ.R=1000000)(hσ:σ.aq≤20000)(hk:(κ,CO.list kl)∈X)(KK:KL rows kl m τ)(hg:(gI,CO.list (az rs))∈X)(ha:As X rs goal)(gp:∀p∈goal,GP m p)(gl:goal.length≤2)
  (g:∀{ah v dt},Lw Γ d L ah σ tw→rows <+: ah→Ty ah v dt→GK goal dt→Q (.int (v:Nat)) (X++eb Γ ah σ tw)):Run (X++eb Γ rows σ tw) (Φ (n+9) (S "_law_kind") [.ref Γ.c.tab,.ref κ,.ref gI]) Q:=by
 have nm:=l.ok.num
 exact Run.perm (tP X rows)<|Run.out<|Ut l.ok.rw (by unfold ax;lia) (aap _ hk) KK (aap _ hg) (ha.sub fun zz h=>aap _ h) gp gl fun{ah v dt} R p len ty gk=>⟨_,(tP X ah).symm,g ⟨l.ok.tab R p len,l.tw.grow R p rfl,l.nil,l.dp⟩ p ty gk⟩
end Mine
namespace Mine
open PySem
variable{Γ:Ctx}{rows:List PV}{σ:ey}{tw:lK}{K X:List ap}{Q:PV→List ap→Prop}{d L m n s t gI N κ bI tI cI:Nat}{q things gs cr rs:List Nat}{goal dt:cj}{kl:List PV}{rk:Nat→List Nat}{bl:Nat→cj}{cl:Str→List PV→CM PV}{τ:Nat→Nat}
theorem Rd.tr(b:Bool):Rd K (truth (.bool b)) b:=fun zz zz=>rfl
theorem PW{a b c e:Nat}(ok:ew q)(q2:2≤q.length)(g:GK goal dt)(h1:b≤a+4162)(h1':∀x,goal=[[x]]→b≤a+(cq q x-1))(h2:c≤b+2149)(WG:∀x,dt=[[x]]→c≤b+195)(h3:e≤c+334)(h3':¬Bm goal→e=c)(ad5:∀x,goal=[[x]]→e≤c+(cq q x-1)):e≤a+6311∧∀x,goal=[[x]]→x∈q→e≤a+195:=by
 by_cases Xs:Bm goal
 ·obtain⟨x,rfl⟩:=Xs
  have c1:=h1' x rfl
  have c2:=WG x (xN g)
  have c3:=ad5 x rfl
  have hc:cq q x≤335:=aa4 (sV ok x) (iJ (b:=3) (gE q) (by decide))
  refine⟨by lia,fun y hy hyq=>?_⟩
  cases hy
  have:cq q x=1:=by
   unfold cq
   rewrite[if_neg (by lia)];rw[if_pos hyq];rfl
  lia
 ·have:=h3' Xs
  exact⟨by lia,fun x hx=>absurd ⟨x,hx⟩ Xs⟩
theorem NC(C:Bh Γ X κ bI tI cI kl gs rk bl things cr q)(l:Lw Γ (d+10400) L rows σ tw)(KK:KL rows kl 3 τ)(a:Mt rows s q)(hg:(gI,CO.list (az rs))∈X)(ha:As X rs goal)(o:lI 3 goal)(hd:NN goal)(hL:L+201<9000)(hR:Γ.R=1000000)(RT:d≤400000)(hl:σ.aq+6800<20000){o26:Option PV}{ck:Option PV→Option PV→Option PV→Option PV→Option PV→Option PV→Option PV→Option PV→Option PV→CM PV}
  (g:∀{X' ah dr NK b1 b2 b3 b4 b5 b6 b7 b8 b9},X⊆X'→Lw Γ d (L+201) ah dr NK→rows <+: ah→dr.aq≤σ.aq+6311→(∀x,goal=[[x]]→x∈q→dr.aq≤σ.aq+195)→Run (X'++eb Γ ah dr NK) (ck b1 b2 b3 b4 b5 b6 b7 b8 b9) Q) :
  Run (X++eb Γ rows σ tw) (MI (Φ (n+200)) (.ref Γ.c.tab) (.ref Γ.h.rel) (.ref κ) (.ref bI) (.ref tI) (.int s) (.ref cI) o26 (.ref gI) ck) Q:=by
 have ok:=C.nq.ok
 have two:=o.two
 refine Run.bh<|Lq (n:=n+191) (d:=d+10290) l hR (by lia) C.kl KK hg ha o.gp two fun{yB v dt} l1 p1 ty gk=>Run.bh<|ZK (n:=n+199) (aap _ C.cI) (C.cs.sub fun zz h=>aap _ h) (aap _ hg) (ha.sub fun zz h=>aap _ h) (by lia) (fun p hp=>by have:=o.short p hp;lia) ?_
 obtain⟨F,hs⟩:=pJ gk o ok C.hL
 have Z9:=UJ C.B C.S C.td C.nq gk
 refine Run.bh<|Rz (n:=n+199) (d:=d+10240) C.G l1 hg ha o gk (a.pre p1) C.q2 ok C.hL ty (by lia) (by lia) fun{r Y4 σ3} l3 vx pr lk3 kn3=>?_
 have hi3:=vx.hi
 refine Run.bh<|WV (n:=n+200) (d:=d+10190) C.G l3 ((a.pre p1).pre vx.pre) C.q2 ok C.hp (ty.pre vx.pre) F hs (by lia) (by lia) fun{w EP Yv} l4 st4 lk4 bt=>?_
 have hi4:=st4.hi
 have prr:=(C.G.P _ _ _).mp pr
 have p4:=p1.trans (vx.pre.trans st4.pre)
 have tail:=fun{X':List ap} (hs:X⊆X') {kk:PV→Bool→CM PV}=>aav (n:=n) (d:=d) (kk:=kk) (Q:=Q) (C.sub hs) (l4.less (d:=d+10100) (e:=90)) (a.pre p4) (hs hg) (ha.sub hs) o gk hd ((ty.pre vx.pre).pre st4.pre) hL hR (by lia) (by lia) pr fun h1 h2=>st4.mono _ _ (kn3 h1 h2)
 have fin:∀{X' ah dr NK b1 b2 b3 b4 b5 b6 b7 b8 b9},X⊆X'→Lw Γ d (L+201) ah dr NK→EP <+: ah→dr.aq≤Yv.aq+334→(¬Bm goal→dr.aq=Yv.aq)→(∀x,goal=[[x]]→dr.aq≤Yv.aq+(cq q x-1))→Run (X'++eb Γ ah dr NK) (ck b1 b2 b3 b4 b5 b6 b7 b8 b9) Q:=fun hs l p h1 h2 h3 =>
  have c:=PW ok C.q2 gk hi3 lk3 hi4 lk4 h1 h2 h3
  g hs l (p4.trans p) c.1 c.2
 have e65:((r || w)&&!mM (dw bl things) goal)=false:=by
  by_cases h:mM (dw bl things) goal=true
  ·rw[h];rw[adg];rw[agF];rfl
  ·rewrite[ado.mpr fun e=>h (Z9.mpr (prr.1 e)),ado.mpr fun e=>h (Z9.mpr (bt.yes e))];rfl
 refine Run.rd (Rd.NR (Rd.orB (Rd.tr r) (Rd.tf (Rd.tr w))) (Rd.tf (Rd.seq (Rd.tr _) (Rd.ret _)))) ?_
 rw[e65]
 have flat:∀f:List Nat→List Nat,(∀p,(f p).length≤p.length)→(bi (goal.flatMap f)).length<ax:=fun f hf=>by
  have h1:=La (f:=f) (n:=3) (ls:=goal) fun p hp=>aa4 (hf p) (o.short p hp)
  rw[bm];unfold ax;lia
 refine Run.no<|Run.bh<|Run.Ik (aap _ hg)<|Hu (f:=id) (aap _ hg) RV (acf _) (ha.sub fun zz h=>aap _ h)<|Run.mk (flat id fun zz=>aaX _) fun i=>Run.bh<|Run.Ik (.tail _ (aap _ hg))<|Hu (f:=fP things) (.tail _ (aap _ hg)) (PQ (.tail _ (aap _ C.th))) (acf _) (ha.sub fun zz h=>.tail _ (aap _ h))<|Run.mk (flat _ fun p=>by unfold fP;split;exact ada _ _;exact acV _) fun j=>Run.bh<|Run.bh<|Run.new fun e=>Run.of _ (Rd.TS (ws:=[]) (.head _)).det ?_
 have s3:X⊆(e,.list (bi []))::(j,.list (bi (goal.flatMap (fP things))))::(i,.list (bi (goal.flatMap id)))::X:=fun zz h=>.tail _ (.tail _ (.tail _ h))
 have A1:Run (((e,.list (bi []))::(j,.list (bi (goal.flatMap (fP things))))::(i,.list (bi (goal.flatMap id)))::X)++eb Γ EP Yv tw) (MH (Φ (n+200)) (.ref Γ.h.rel) (.ref bI) (.ref tI) (.int s) o26 (.ref gI) ck (.int v) (.bool (mM (dw bl things) goal)) (.bool r) (.bool w) (.ref i) (.ref j) false) Q:=Run.no<|tail s3 fun hs' l' p c1 c2 c3=>Run.no<|fin (fun zz h=>hs' (s3 h)) l' p c1 c2 c3
 by_cases jd:goal.flatMap (fP things)=[]
 ·rw[decide_eq_true jd]
  refine Run.yes<|Run.of _ (Rd.tf (Rd.tr (mM (dw bl things) goal))).det ?_
  generalize hm:mM (dw bl things) goal=zq;induction zq with
  | false=>rw[hm]at A1;exact A1
  | true =>
   have val:=Z9.mp hm
   refine Run.yes<|Run.bh<|Run.rd (Rd.mem (fun zz=>dh) (.tail _ (.tail _ (.head _))))<|Run.rd (Rd.mem (fun zz=>cu) (.tail _ (.tail _ (.head _))))<|Run.rd (UK i (.tail _ (.tail _ (.head _))))<|Run.mk ?_ fun f=>?_
   ·have h1:=flat id fun zz=>aaX _
    have h2:=ada (fun x=>decide (4<x)&&decide (x<8)) (goal.flatMap id)
    rw[bm]at h1 ⊢
    exact ac6 h2 h1
   have acA:r=false→jA (goal.flatMap id)=[]∨(bl 0).length<2→False:=fun hr hn=>(prr.2 hr).1 ⟨Qr C gk jd hn,val⟩
   have acH:w=false→jA (goal.flatMap id)=[]→False:=fun hw hn=>bt.no hw C.hp (fun l hl k hk z=>UN gk hn l hl k hk z.1) ⟨Qr C gk jd (.inl hn),val⟩
   have Y6:∀{X':List ap},X⊆X'→Run (X'++eb Γ EP Yv tw) (Dt (Φ (n+200)) (.ref Γ.h.rel) (.ref tI) (.int s) (.ref gI) ck (.int v) (.bool true) (.bool r) (.bool w) (.ref i) (.ref j) (.ref f) false) Q:=fun hs=>Run.no<|tail hs fun hs' l' p c1 c2 c3=>Run.no<|fin (fun zz h=>hs' (hs h)) l' p c1 c2 c3
   have second:∀{X':List ap},X⊆X'→(f,CO.list (bi (jA (goal.flatMap id))))∈X'→Run (X'++eb Γ EP Yv tw) (aa (aa (aa (truth (.bool w)) fun adG=>ret (!adG)) fun adH=>af adH (aa (aa (new (.list [])) fun aeZ=>ae .Eq (.ref f) aeZ) fun adI=>af adI (ret true) (ret false)) (ret false)) fun adJ=>af adJ (ret true) (ret false)) (fun b K'=>Run K' (Dt (Φ (n+200)) (.ref Γ.h.rel) (.ref tI) (.int s) (.ref gI) ck (.int v) (.bool true) (.bool r) (.bool w) (.ref i) (.ref j) (.ref f) b) Q):=fun{X'} hs hf=>by
    refine Run.bh<|Run.rd (Rd.seq (Rd.tr w) (Rd.ret _)) ?_
    by_cases hw:w=true
    ·rw[hw]
     exact Run.no<|Run.ret<|Run.no<|Run.ret<|hw▸Y6 hs
    ·rw[afU]at hw
     rw[hw]
     refine Run.yes<|Run.bh<|Run.new fun e2=>Run.of _ (Rd.TS (ws:=[]) (aap _ hf)).det ?_
     rw[decide_eq_false (acH hw)]
     exact Run.no<|Run.ret<|Run.no<|Run.ret<|hw▸Y6 (X':=(e2,.list [])::X') fun zz h=>.tail _ (hs h)
   refine Run.bh<|Run.bh<|Run.rd (Rd.seq (Rd.tr r) (Rd.ret _)) ?_
   by_cases hr:r=true
   ·rw[hr]
    exact Run.no<|Run.ret<|Run.no<|hr▸second (X':=(f,.list (bi (jA (goal.flatMap id))))::_) (fun zz h=>.tail _ (s3 h)) (.head _)
   ·rw[afU]at hr
    obtain⟨g0,h1,h2,h3⟩:=C.ba.at' 0 (by decide)
    have ZP:=h3.len
    have no:=not_or.mp (acA hr)
    rw[hr]
    refine Run.yes<|Run.bh<|Run.bh<|Run.new fun e2=>Run.of _ (Rd.TS (ws:=[]) (.head _)).det ?_
    rw[decide_eq_false no.1]
    have s5:∀{z},z∈X→z∈((e2,CO.list [])::(f,.list (bi (jA (goal.flatMap id))))::(e,.list (bi []))::(j,.list (bi (goal.flatMap (fP things))))::(i,.list (bi (goal.flatMap id)))::X)++eb Γ EP Yv tw:=fun h=>.tail _ (.tail _ (aap _ (s3 h)))
    have le2:Rd (((e2,CO.list [])::(f,.list (bi (jA (goal.flatMap id))))::(e,.list (bi []))::(j,.list (bi (goal.flatMap (fP things))))::(i,.list (bi (goal.flatMap id)))::X)++eb Γ EP Yv tw) (aa (aa (aa (getItem (.ref bI) (.int 0)) fun aeX=>ret [aeX]) fun aeA=>blt .len aeA) fun aeY=>ae .Lt aeY (.int 2)) (decide ((bl 0).length<2)) :=
     Rd.seq (Rd.seq (Rd.seq (Rd.item (i:=0) (s5 C.bI) (by unfold az;rw[adf];rw[h1];rfl)) (Rd.ret _)) (Rd.len (s5 h2))) fun H zz=>by unfold az;rw[aaY];rw[ZP];rewrite[← Xb];rfl
    rw[decide_eq_false no.2]at le2
    exact Run.no<|Run.rd le2<|Run.no<|Run.ret<|Run.no<|Run.ret<|Run.no<|hr▸second (X':=(e2,.list [])::(f,.list (bi (jA (goal.flatMap id))))::_) (fun zz h=>.tail _ (.tail _ (s3 h))) (.tail _ (.head _))
 ·rw[decide_eq_false jd]
  exact Run.no<|Run.ret A1
end Mine
namespace Mine
open PySem
variable{Γ:Ctx}{rows:List PV}{σ:ey}{tw:lK}{K X:List ap}{Q:PV→List ap→Prop}{d L m n s t gI N κ bI tI cI:Nat}{q things gs cr rs:List Nat}{goal dt:cj}{kl:List PV}{rk:Nat→List Nat}{bl:Nat→cj}{cl:Str→List PV→CM PV}{τ:Nat→Nat}
theorem SQ{r:Nat}{l:List PV}{H:CH}(h:H[r]?=some (.list l)):slice (.ref r) none none (some (.int (-1))) H=some (.ref H.length,H++[.list l.reverse]):=by
 exact eL h _
theorem aaj(l:List Nat)(x:Nat):x∈pf l.reverse↔x∈pf l:=by
 unfold pf
 rw[acZ,acZ,aeU,decide_eq_decide.mpr aeU]
theorem Rd.eqD{a b:Nat}(h:(a,CO.dict [])∈K):Rd ((b,.dict [])::K) (ae .Eq (.ref a) (.ref b)) true:=fun H rp=>by
 have hn:=(abU.mp rp.2.1).1
 have e:ael a b=false:=ado.mpr fun z=>hn (abi.mpr ⟨_,h,abX z⟩)
 refine yy (f:=fun H=>H4 H (.ref a) (.ref b)) ?_
 exact EM (rp.2.2 _ (.tail _ h)).2 (rp.2.2 _ (.head _)).2 e
theorem Lk(H:CH):∀l:List Nat,has H (.bool false) (l.map fun zz=>.bool true)=some false
 | []=>rfl
 | x::r=>by
  show(match has H (.bool false) (r.map fun zz=>.bool true)with
    | some b=>some ((true == false) || b)
    | none=>none)=_
  rw[Lk H r]
  rfl
theorem Rd.inT{r:Nat}{l:List Nat}(h:(r,CO.list (l.map fun zz=>.bool true))∈K):Rd K (ae .In (.bool false) (.ref r)) false:=Rd.mem (fun H h=>by
 show contains (.bool false) (.ref r) H=_
 unfold contains
 dsimp only
 rewrite[dx h]
 exact yy (f:=fun H=>has H _ _) (Lk H l)) h
theorem Rd.lw{α:Type}{m:CM α}{a:α}(h:gr Γ rows σ m a):Rd (X++eb Γ rows σ tw) m a:=fun H r=>h H (r.sub ((ab7 ..).trans (ab7 ..)))
theorem OF{c:ap}(h:c∈bp Γ rows σ):c∈X++eb Γ rows σ tw:=aaJ _ (aaJ _ h)
theorem Lw.le{d e:Nat}(l:Lw Γ e L rows σ tw)(h:d≤e):Lw Γ d L rows σ tw:=by
 obtain⟨k,rfl⟩:=Nat.exists_eq_add_of_le h
 exact l.less
theorem UT{j:Nat}{l:List Nat}(w:Lw Γ (d+110) L rows σ tw)(hR:Γ.R=1000000)(hσ:σ.aq≤20000)(a:∀k∈l,Th rows (τ k) k)(gp:GP m l)
  (g:∀{ah v q},Lw Γ d L ah σ tw→rows <+: ah→Mt ah v q→Nm l q→Q (.int (v:Nat)) (X++eb Γ ah σ tw)):Run ((j,.list (bi (l.map τ)))::(X++eb Γ rows σ tw)) (Φ (n+8) (S "inter") [.ref Γ.c.tab,.ref j]) Q:=by
 have nm:=w.ok.num
 refine Run.perm ((tP X rows).cons _)<|Run.out<|((US (n:=n) (c:=Γ.c) (bs:=Γ.bs) (r:=j) w.ok.rw (by unfold ax;lia) a gp).rt (X++(Wo tw++SJ Γ σ))).imp fun zz zz hh=>?_
 obtain⟨zz,e,q⟩:=hh
 induction q with
 | mk R p len h =>
  obtain⟨q,hq,nq⟩:=h
  subst e
  exact⟨_,(tP X _).symm,g (w.ok.tab R p (by lia) |> fun o=>⟨o,w.tw.grow R p rfl,w.nil,w.dp⟩) p hq nq⟩
theorem Qa(G:GM Γ)(l:Lw Γ (d+50) L rows σ tw)(a:Mt rows s q)(b:Ty rows t dt)(F:Form [q] dt)(hc:fE [q] dt≤N)(hl:σ.aq+N<20000)(hn:150≤n)(gd:Good Γ.bd [q] dt)(vd:ej Γ.bd [q] dt)
  (g:∀{ah dr},Lw Γ d L ah dr tw→rows <+: ah→dr.aq≤σ.aq+N→Q (.bool true) (X++eb Γ ah dr tw)):Run (X++eb Γ rows σ tw) (Φ n (S "Rel.ask") [.ref Γ.h.rel,.int s,.int t]) Q:=by
 have hm:=QI [q] dt
 have dp:=l.dp
 refine Run.lw (N:=σ.aq+N) l (sO G 15 [q] dt F (by lia) (by lia) l.less.ok l.tr (show Ty rows s [q]from a) b (by lia) (by lia) hl) fun{r ah dr} l' st p=>?_
 have pr:=(G.P _ _ _).mp p.P9
 induction r with
 | true=>exact g l' st.pre st.hi
 | false=>exact absurd ⟨gd,vd⟩ (pr.2 rfl).1
theorem UL{p q:List Nat}(h:Nm p q){x:Nat}(hx:x∈p)(h2:x≠2):x∈q :=
 ((h.yC (Cl q) (Hn h.ok)).mp (lN q) x hx).resolve_right fun h=>h2 h.1
theorem xW(nq:Nm things q)(q2:2≤q.length):∀{l:List Nat},l.Nodup→l⊆things→(l.map (cq q)).sum≤l.length+334
 | [],_,_=>acV _
 | x::r,nd,s=>by
  have ih:=xW nq q2 (abU.mp nd).2 fun zz h=>s (.tail _ h)
  have one:∀y∈x::r,y≠2→cq q y≤1:=fun y hy h2=>by
   unfold cq
   rewrite[if_neg (by lia),if_pos (UL nq (s hy) h2)]
   exact aaX _
  rw[ab6];rw[aec];rw[aaK]
  by_cases h:x=2
  ·have h1:cq q x≤335:=aa4 (sV nq.ok x) (iJ (b:=3) (gE q) (by decide))
   have h2:(r.map (cq q)).sum≤r.length*1:=EY fun y hy=>one y (.tail _ hy) fun e=>(abU.mp nd).1 (by rw[h];rewrite[← e];exact hy)
   lia
  ·have:=one x (.head _) h
   lia
theorem RB(C:Bh Γ X κ bI tI cI kl gs rk bl things cr q):∀{xs:List Nat} {rows:List PV} {σ:ey} {R:List PV→List ap→Prop},xs <:+ things→Lw Γ (d+50*xs.length) L rows σ tw→KL rows kl 3 τ→Mt rows s q→σ.aq+(xs.map (cq q)).sum<20000 →
  (∀{ah dr},Lw Γ d L ah dr tw→R (xs.map fun zz=>.bool true) (X++eb Γ ah dr tw)) →
  Run (X++eb Γ rows σ tw) (pZ tI (bi things) (MJ (Φ (n+200)) (.ref Γ.h.rel) (.ref κ) (.int s)) (bi xs)) R:=by
 intro xs
 induction xs with
 | nil=>exact fun zz l zz zz zz g=>Run.KE (aap _ C.th) (g l)
 | cons x xs ih =>
  intro rows σ R hs l KK a hl g
  have hx:x∈things:=hs.subset (.head _)
  have dfx:=C.td x hx
  rw[ab6,aec]at hl
  rw[aaK,Nat.mul_succ,← agg]at l
  have Fx:Form [q] [[x]]:=⟨fun q' h=>by cases aad.mp h;exact⟨C.nq.ok,fun e=>e▸rfl⟩,adb 1,⟨(fun z=>zC ac2 z rfl),fun l hl=>by cases aad.mp hl;exact(fun z=>zC ac2 z rfl),jo dfx.1⟩,adb 1,.inl ⟨x,rfl⟩,fun h=>absurd h (aa3 1)⟩
  have ip:=(C.nq.yC (Cl q) (Hn C.nq.ok)).mp (lN q) x hx
  refine Run.xV (aap _ C.th) (show bi (x::xs) <:+ bi things from hs.map _)<|Run.bh<|Run.rd IM<|Run.bh<|Run.bh<|Run.rd (Rd.item (aap _ C.kl) (KK x dfx).1)<|Run.ret<|Run.ret<|Qa (n:=n+200) (N:=cq q x) C.G l a (show Ty rows (τ x) [[x]]from(KK x dfx).2) Fx (by rw[sU];exact aaX _) (by lia) (by lia) (Good.rq fun q' h=>by cases aad.mp h;exact C.hL) (fun C' w' s'=>bu.mpr (fF.mpr (ip.elim (bu.mp s' x) (by rintro⟨e,h⟩;exact e▸w'.1.1 (bu.mp s' 3 h))))) fun l' p lk=>Run.ret<|ih ((abT ..).trans hs) l' (KK.pre p) (a.pre p) (by lia) g
theorem ZW(l:Lw Γ d L rows σ tw)(fin:∀K',Q (.bool true) K'):Run (X++eb Γ rows σ tw) (MK (.ref Γ.h.rel)) Q:=by
 have m1:(Γ.h.sM,CO.list [])∈X++eb Γ rows σ tw:=OF (.tail _ (.tail _ (.tail _ (.tail _ (.tail _ (.tail _ (.tail _ (.tail _ (.tail _ (.head _))))))))))
 have m2:(σ.jW,CO.list (σ.trail.map cg))∈X++eb Γ rows σ tw:=OF (.tail _ (.tail _ (.tail _ (.head _))))
 have m3:(Γ.h.sP,CO.dict (σ.ic.map rJ))∈X++eb Γ rows σ tw:=OF (.tail _ (.head _))
 rw[l.nil]at m2
 rw[l.ok.ea,l.nil]at m3
 exact Run.bh<|Run.rd (Rd.lw (pS.seq HR))<|Run.bh<|Run.new fun e=>Run.of _ (Rd.TS (us:=[]) (ws:=[]) m1).det<|Run.ret<|Run.drop<|Run.rd (Rd.tr _)<|Run.yes<|Run.bh<|Run.rd (Rd.lw HS)<|Run.bh<|Run.new fun e=>Run.of _ (Rd.TS (us:=[]) (ws:=[]) m2).det<|Run.ret<|Run.drop<|Run.rd (Rd.tr _)<|Run.yes<|Run.rd (Rd.lw Nh)<|Run.bh<|Run.new fun e=>Run.of _ (Rd.eqD m3).det<|Run.ret<|fin _
theorem aby(C:Bh Γ X κ bI tI cI kl gs rk bl things cr q)(nc:ff things)(l:Lw Γ (d+10500) L rows σ tw)(KK:KL rows kl 3 τ)(a:Mt rows s q)(hL:L+201<9000)(hR:Γ.R=1000000)(RT:d≤400000)(hl:σ.aq+800<20000)(fin:∀K',Q (.bool true) K') :
  Run (X++eb Γ rows σ tw) (ML (Φ (n+200)) (.ref Γ.c.tab) (.ref Γ.h.rel) (.ref κ) (.ref tI) (.int s)) Q:=by
 have ok:=C.nq.ok
 have tl:=C.tl
 have df:∀k∈things.reverse,NM 3 k:=fun k hk=>C.td k (aeU.mp hk)
 have gp:GP 3 things.reverse:=⟨fun h=>C.nq.ne (agI.mp (by have:=Cn C.nq;rw[List.reverse_eq_nil_iff]at h;rw[h]at this;exact Nat.le_zero.mp this)),by
  rewrite[afF,List.pairwise_reverse]
  exact(afF.mp C.tn).imp Ne.symm,df,(by rintro⟨h4,h⟩;exact nc ⟨aeU.mp h4,h.imp aeU.mp aeU.mp⟩)⟩
 refine Run.bh<|Run.bh<|Run.bh<|Run.bh<|Run.bh<|Run.bh<|Run.Ih (o:=.list (bi things)) (o':=.list (bi things.reverse)) (fun H h=>by rw[SQ h];unfold bi;rw[List.map_reverse];rfl) (aap _ C.th) fun i=>Run.of _ (Rd.mem (fun zz=>dh) (.head _)).det<|Run.rd (Rd.mem (fun zz=>cu) (.head _))<|Run.rd (Rd.Qe (τ:=τ) (.head _) fun k h=>Rd.seq (Rd.item (.tail _ (aap _ C.kl)) (KK k (df k h)).1) (Rd.ret _))<|Run.mk (by rw[bm];rw[aaY];rw[ahf];unfold ax;lia) fun j=>Run.ret<|Run.ret<|Run.BE<|UT (n:=n+192) (d:=d+10390) (m:=3) l hR (by lia) (fun k h=>(KK k (df k h)).2) gp fun{Y4 v qb} l3 p3 hv nb=>?_
 have mem:∀x,x∈qb↔x∈q:=fun x=>by rw[yk nb,yk C.nq,aaj]
 have F:Form [q] [qb]:=⟨fun q' h=>by cases aad.mp h;exact⟨ok,fun e=>e▸rfl⟩,adb 1,⟨(fun z=>zC ac2 z rfl),fun l hl=>by cases aad.mp hl;exact nb.ne,fun l hl=>by cases aad.mp hl;exact⟨nb.ok,fun e=>absurd e nb.ne⟩⟩,adb 1,.inr fun q' h=>by cases aad.mp h;exact C.hL,fun h=>absurd h (aa3 1)⟩
 have cst:fE [q] [qb]≤11:=by
  have h1:=EY (f:=cq q) (n:=1) (l:=qb) fun x hx=>by
   have:=C.q2
   unfold cq
   rewrite[if_neg (by lia)];rw[if_pos ((mem x).mp hx)]
   exact aaX _
  have h2:=lz nb.ok.1 nb.ok.2.1
  show ci q qb≤11
  unfold ci
  split <;> lia
 have tyb:Ty Y4 v [qb]:=hv
 refine Run.bh<|Run.bh<|Run.bh<|Run.bh<|Run.rd IM<|Qa (n:=n+200) (d:=d+10300) (N:=11) C.G (l3.le (by lia)) (a.pre p3) tyb F cst (by lia) (by lia) ⟨fun q' h=>by cases aad.mp h;exact C.hL,fun l hl zz k hk zz q' h=>by cases aad.mp h;cases aad.mp hl;exact(mem k).mp hk,.inl (aaX _)⟩ (fun C' w' s'=>bu.mpr fun x hx=>bu.mp s' x ((mem x).mp hx)) fun{EP Yv} l4 p4 lk4=>Run.of _ (Rd.tr true).det<|Run.ret<|Run.no<|Run.bh<|Run.bh<|Run.bh<|Run.rd QB<|Nu (n:=n+186) (d:=d+250) C.G (l4.le (by lia)) ((a.pre p3).pre p4) C.q2 ok (tyb.pre p4) F.Bd hL hR (by lia) (by lia) fun{z afL σ5 tw5} l5 p5 lk kn hz=>?_
 obtain rfl:z=true:=hz.mpr ⟨q,qb,rfl,rfl,fun x=>(mem x).symm⟩
 have ct:=xW C.nq C.q2 C.tn (aeC _)
 refine Run.of _ (Rd.tr true).det<|Run.ret<|Run.no<|Run.bh<|Run.bh<|Run.Ik (aap _ C.th)<|RB (n:=n) (d:=d) C (acf _) (l5.le (by lia)) (((KK.pre p3).pre p4).pre p5) (((a.pre p3).pre p4).pre p5) (by lia) fun{acs σ6} l6=>?_
 exact Run.mk (by rw[aaY];unfold ax;lia) fun g=>Run.of _ (Rd.inT (.head _)).det<|Run.no<|Run.ret<|Run.no<|Run.drop<|ZW l6 fin
end Mine
namespace Mine
open PySem
variable{Γ:Ctx}{rows:List PV}{σ:ey}{tw:lK}{K X:List ap}{Q:PV→List ap→Prop}{d L m n s t gI N κ bI tI cI vM:Nat}{q things gs Fm cr rs:List Nat}{goal dt:cj}{kl:List PV}{rk:Nat→List Nat}{bl:Nat→cj}{cl:Str→List PV→CM PV}{τ:Nat→Nat}{ps nI dI:PV}{o6 o7 o9 Td Cp LJ yX LK LL LM o21 o22 o23 o24 o25 o26 o27:Option PV}
noncomputable def A4(K:List ap)(rs:List Nat)(ls:List cj):Prop:=Sim.ay (fun r l=>∃us,(r,CO.list (az us))∈K∧As K us l) rs ls
theorem A4.sub{K K':List ap}(h:K⊆K'){rs:List Nat}{ls:List cj}(a:A4 K rs ls):A4 K' rs ls:=Sim.ay.imp (fun zz zz a=>a.imp fun zz a=>⟨h a.1,a.2.sub h⟩) a
noncomputable def ro(c:eN)(rel κ bI tI s cI vM:Nat)(ps nI dI:PV)(o6 o7 o9 Td Cp LJ yX LK LL LM o21 o22 o23 o24 o25 o26 o27:Option PV):bg:=[some ps,some nI,some dI,some (.ref c.tab),some (.ref rel),some (.ref κ),o6,o7,some (.ref bI),o9,Td,Cp,LJ,yX,some (.ref tI),some (.int s),some (.ref cI),some (.ref vM),LK,LL,LM,o21,o22,o23,o24,o25,o26,o27,none,none,none,none,none,none,none,none,none,none,none,none,none,none,none,none,none,none]
theorem Om(nc:ff things)(hR:Γ.R=1000000)(RT:d≤300000)(fin:∀K',Q (.bool true) K'):∀{vs:List Nat} {Gs:List cj} {X:List ap} {rows:List PV} {σ:ey} {tw:lK} {L:Nat} {Cp yX o21 o22 o23 o24 o25 o26 o27:Option PV},Bh Γ X κ bI tI cI kl gs rk bl things cr q→(vM,CO.list (az Fm))∈X→az vs <:+ az Fm→A4 X vs Gs→(∀g∈Gs,lI 3 g∧NN g)→Lw Γ (d+10500+10400*vs.length) L rows σ tw→KL rows kl 3 τ→Mt rows s q→vs.length≤3→L+201*(vs.length+1)<9000→σ.aq+6311*vs.length+800<20000 →
  Run (X++eb Γ rows σ tw) (iY vM (az Fm) (Du (Φ (n+200))) (az vs) (ro Γ.c Γ.h.rel κ bI tI s cI vM ps nI dI o6 o7 o9 Td Cp LJ yX LK LL LM o21 o22 o23 o24 o25 o26 o27) (Dw (Φ (n+200)))) Q:=by
 intro vs
 induction vs with
 | nil =>
  intro Gs X rows σ tw L zz zz zz zz zz zz zz zz zz C hg hs a4 ok l KK a h3 hL hl
  exact Run.Ce (aap _ hg)<|Run.eq (O7 ..)<|aby (n:=n) (d:=d) C nc l KK a (by lia) hR (by lia) (by lia) fin
 | cons v vs ih =>
  intro Gs X rows σ tw L zz zz zz zz zz zz zz zz zz C hg hs a4 ok l KK a h3 hL hl
  obtain _ | ⟨g,Gs⟩:=Gs
  ·exact a4.elim
  obtain⟨⟨us,h1,h2⟩,a4⟩:=a4
  rw[aaK]at h3 hL hl
  obtain⟨og,dg⟩:=ok g (.head _)
  exact Run.yh (aap _ hg) hs<|Run.eq (Dv ..)<|NC (n:=n) (d:=d+10500+10400*vs.length) C (l.le (by rw[aaK];lia)) KK a h1 h2 og dg (by lia) hR (by lia) (by lia) fun s' l' p lk zz=>ih (C.sub s') (s' hg) ((abT ..).trans hs) (A4.sub (s') a4) (fun g hg=>ok g (.tail _ hg)) l' (KK.pre p) (a.pre p) (by lia) (by lia) (by lia)
theorem Xm{x0:Nat}{Gs:List cj}(nc:ff things)(hR:Γ.R=1000000)(RT:d≤300000)(fin:∀K',Q (.bool true) K')(C:Bh Γ X κ bI tI cI kl gs rk bl things cr q)(hg:(vM,CO.list (az Fm))∈X)(a4:A4 X Fm ([[x0]]::Gs))(hx:x0∈q)(ok:∀g∈[[x0]]::Gs,lI 3 g∧NN g)(l:Lw Γ (d+60000) 0 rows σ tw)(KK:KL rows kl 3 τ)(a:Mt rows s q)(h4:Fm.length≤4)(hl:σ.aq=0) :
  Run (X++eb Γ rows σ tw) (ud (Φ (n+200)) (ro Γ.c Γ.h.rel κ bI tI s cI vM ps nI dI o6 o7 o9 Td Cp LJ yX LK LL LM none none none none none none none)) Q:=by
 obtain _ | ⟨v,vs⟩:=Fm
 ·exact a4.elim
 obtain⟨⟨us,h1,h2⟩,a4⟩:=a4
 rw[aaK]at h4
 obtain⟨og,dg⟩:=ok [[x0]] (.head _)
 exact Run.eq (O8 ..)<|Run.Lv (T:=fun t n'=>MM (Φ (n+200)) ps nI dI (.ref Γ.c.tab) (.ref Γ.h.rel) o6 (.ref κ) o7 (.ref bI) o9 yX (.ref tI) (.int s) (.ref cI) (.ref vM) Td Cp LJ LK LL LM t n') (aap _ hg) rfl<|Run.yh (aap _ hg) (acf _)<|Run.eq (Dv ..)<|NC (n:=n) (d:=d+10500+10400*vs.length) C (l.le (by lia)) KK a h1 h2 og dg (by lia) hR (by lia) (by lia) fun s' l' p lk l1=>Om nc hR RT fin (C.sub s') (s' hg) (abT ..) (A4.sub (s') a4) (fun g hg=>ok g (.tail _ hg)) l' (KK.pre p) (a.pre p) (by lia) (by lia) (by have:=l1 x0 rfl hx;lia)
end Mine
namespace Mine
open PySem
variable{α β:Type}{K X:List ap}{Q:PV→List ap→Prop}{R:List PV→List ap→Prop}{n m k x y dI nI at' gq tI cI NH r:Nat}{nums:List Int}{cl:Str→List PV→CM PV}{things Il I2:List Nat}{AZ ps:cj}
theorem Run.cl0{turn:PV→CM (List PV)}(h:R [] K):Run K (ed turn []) R:=Run.ret h
theorem Run.clS{turn:PV→CM (List PV)}{x:PV}{r:List PV}(h:Run K (turn x) fun y K'=>Run K' (ed turn r) fun t Tl=>R (y++t) Tl):Run K (ed turn (x::r)) R :=
 Run.eq (ce ..)<|Run.bh<|h.imp fun zz zz h=>Run.bh<|h.imp fun zz zz h=>Run.ret h
theorem Run.clN{turn:PV→CM (List PV)}{l:List PV}{T:List PV→CM β}{Q:β→List ap→Prop}(h:Run K (ed turn l) fun v K'=>Run K' (T v) Q):Run K (aa (bj (.snap l)) fun n=>aa (av (.snap l) turn n 0) T) Q :=
 Run.rd (fun H zz=>bz l H)<|Run.bh<|Run.eq (ca ..) h
structure Ib(l:List Nat):Prop where
 ne:l≠[]
 df:∀k∈l,NM 3 k
 nc:ff l
 len:l.length≤100
structure Raw(l:List Nat):Prop where
 ne:l≠[]
 df:∀k∈l,NM 3 k
 nc:ff l
 len:l.length≤3
theorem ym{a b:List Nat}(h:ff b)(s:∀x∈a,x∈b):ff a:=(by rintro⟨h4,h23⟩;exact h ⟨s 4 h4,h23.imp (s 2) (s 3)⟩)
theorem Zz(h:k<10):NM 3 k:=⟨h,by lia⟩
theorem RF{pl:Nat}{Fq:List Nat}(hn:(nI,CO.list (nums.map .int))∈K)(hp:(pl,CO.list (bi Fq))∈K)(P:Ib Fq):∀{us:List Nat} {at':Nat} {R:List PV→List ap→Prop},at'+us.length<90000 →
  (∀l,l.length=us.length→(∀x∈l,x∈Fq)→R (bi l) (dC dI nI (at'+us.length)::K))→Run (dC dI nI at'::K) (ed (Mx (Φ (n+1)) (.ref dI) (.ref pl)) (bi us)) R:=by
 intro us
 induction us with
 | nil=>exact fun zz g=>Run.cl0 (g [] rfl (fun zz z=>zM z))
 | cons u us ih =>
  intro at' R ha g
  rw[aaK]at ha
  refine Run.clS<|Run.bh<|Run.bh<|Run.bh<|Run.bh<|Run.rd (Rd.len (.tail _ hp))<|Run.ret<|Run.ret<|mF (m:=(bi Fq).length) hn (by rw[bm];exact List.length_pos_iff.mpr P.ne) (by lia) fun i hi=>?_
  rw[bm]at hi
  exact Run.of _ (Rd.item (v:=.int Fq[i]) (.tail _ hp) (by unfold bi;rw[adf];rw[aa8 hi];rfl)).det<|Run.ret<|ih (by lia) fun l h1 h2=>by
   have:=g (Fq[i]::l) (by rw[aaK];rw[aaK];rw[h1];rfl) fun x hx=>(aa2.mp hx).elim (fun e=>e▸agn hi) (h2 x)
   rw[aaK,ag6 us.length 1,← agg]at this
   exact this
noncomputable def N3:List Nat→List Nat→List Nat
 | _,[]=>[]
 | us,v::vs=>if v∈us then N3 (us++[v]) vs else v::N3 (us++[v]) vs
theorem TN:∀(vs us:List Nat),(N3 us vs).Nodup∧(∀x,x∈N3 us vs↔x∈vs∧x∉us)∧(N3 us vs).length≤vs.length
 | [],us=>⟨.nil,fun x=>⟨(fun z=>zM z),fun h=>(afs h.1).elim⟩,aaX _⟩
 | v::vs,us=>by
  obtain⟨h1,h2,h3⟩:=TN vs (us++[v])
  unfold N3
  by_cases hv:v∈us
  ·rw[if_pos hv]
   refine⟨h1,fun x=>?_,afP h3⟩
   rewrite[h2,aa7,aad,aa2]
   exact⟨fun h=>⟨.inr h.1,fun z=>h.2 (.inl z)⟩,fun h=>⟨h.1.resolve_left fun e=>h.2 (e▸hv),fun z=>z.elim h.2 fun e=>h.2 (e▸hv)⟩⟩
  ·rw[if_neg hv]
   refine⟨abU.mpr ⟨fun h=>((h2 v).mp h).2 (aaJ _ (.head _)),h1⟩,fun x=>?_,afw h3⟩
   rewrite[aa2,h2,aa7,aad,aa2]
   exact⟨fun h=>h.elim (fun e=>⟨.inl e,e▸hv⟩) fun h=>⟨.inr h.1,fun z=>h.2 (.inl z)⟩,fun h=>(Classical.em (x=v)).imp_right fun e=>⟨h.1.resolve_left e,fun z=>z.elim h.2 e⟩⟩
theorem N4{raw:List Nat}(hr:(r,CO.list (bi raw))∈K):∀{vs us:List Nat} {R:List PV→List ap→Prop},us++vs=raw→R (bi (N3 us vs)) K→Run K (ed (My (.ref r)) (bi (adR us.length vs.length))) R:=by
 intro vs
 induction vs with
 | nil=>exact fun zz g=>Run.cl0 g
 | cons v vs ih =>
  intro us R e g
  have at1:(bi raw)[us.length]?=some (.int v):=by
   rewrite[← e];rw[eI];rw[jv];rewrite[abE (by rw[bm];exact aaX _)];rw[bm];rw[ads];rfl
  have tk:(bi raw).take us.length=bi us:=by rewrite[← e];rw[eI];rw[agm (by rw[bm];exact aaX _),agS (by rw[bm];exact aaX _)]
  have gi:Rd K (getItem (.ref r) (.int us.length)) (.int v):=Rd.item hr at1
  have next:=fun{R}=>ih (us:=us++[v]) (R:=R) (by rw[aaW];exact e)
  rw[aaA,abf]at next
  unfold N3 at g
  refine Run.clS<|Run.bh<|Run.bh<|Run.rd gi<|Run.bh<|Run.Ih (o':=.list (bi us)) (fun H h=>tk▸mE h) hr fun i=>Run.of _ (Rd.Fn (.head _)).det<|Run.drop ?_
  by_cases hv:v∈us
  ·rw[if_pos hv]at g
   rw[decide_eq_true hv]
   exact Run.no<|Run.ret<|Run.no<|Run.ret<|next g
  ·rw[if_neg hv]at g
   rw[decide_eq_false hv]
   exact Run.yes<|Run.ret<|Run.yes<|Run.rd gi<|Run.ret<|next g
theorem aak{raw:List Nat}(R:Raw raw):GP 3 (N3 [] raw)∧(N3 [] raw).length≤3:=by
 obtain⟨h1,h2,h3⟩:=TN raw []
 refine⟨⟨fun h=>?_,h1,fun k hk=>R.df k ((h2 k).mp hk).1,ym R.nc fun x hx=>((h2 x).mp hx).1⟩,aa4 h3 R.len⟩
 obtain⟨x,hx⟩:=ad7 raw R.ne
 have:=(h2 x).mpr ⟨hx,(fun z=>zM z)⟩
 rw[h]at this
 cases this
noncomputable def Rt:cj→cj→Prop
 | [],[]=>True
 | p::ps,u::us=>WE p u∧Rt ps us
 | _,_=>False
theorem Rt.len:∀{ps us:cj},Rt ps us→ps.length=us.length
 | [],[],_=>rfl
 | _::_,_::_,⟨_,b⟩=>congrArg (·+1) b.len
 | [],_::_,h=>h.elim
 | _::_,[],h=>h.elim
theorem Rt.oE:∀{ps us:cj},Rt ps us→∀{p},p∈ps→∃u∈us,WE p u
 | _::_,_::_,⟨a,b⟩,q,h=>(aa2.mp h).elim (fun e=>⟨_,.head _,e▸a⟩) fun h=>(b.oE h).imp fun zz h=>⟨.tail _ h.1,h.2⟩
 | [],[],_,_,h=>zM h
 | [],_::_,h,_,_=>h.elim
 | _::_,[],h,_,_=>h.elim
theorem LX{l:List PV}:∀{vs:List Nat} {ps:cj} {K:List ap} {R:List PV→List ap→Prop},(gq,CO.list l)∈K→az vs <:+ l→As K vs ps→(∀p∈ps,p.length≤3)→(∀N ws us,As N ws us→Rt ps us→R (az ws) (N++K))→Run K (pZ gq l (Mz (Φ (n+1))) (az vs)) R:=by
 intro vs
 induction vs with
 | nil =>
  intro ps K R hg hs a hp g
  obtain rfl:ps=[]:=aaZ a.len.symm
  exact Run.KE hg (g [] [] [] trivial trivial)
 | cons v vs ih =>
  intro ps K R hg hs a hp g
  obtain _ | ⟨p,ps⟩:=ps
  ·exact a.elim
  have hp3:=hp p (.head _)
  exact Run.xV hg hs<|Run.bh<|A9 a.1 (by lia) fun i us h=>Run.ret<|ih (.tail _ hg) ((abT ..).trans hs) (As.sub (fun zz h=>.tail _ h) a.2) (fun q hq=>hp q (.tail _ hq)) fun N ws uss aN s=>by
   have:=g (N++[(i,.list (bi us))]) (i::ws) (us::uss) ⟨aaJ _ (.head _),aN.sub fun zz h=>aap _ h⟩ ⟨h,s⟩
   rw[aaW]at this
   exact this
theorem Hv{H:CH}{v:Nat}{u:List Nat}(hv:H[v]?=some (.list (bi u))){N:List ap}(hN:∀c∈N,H[c.1]?=some c.2∧c.1≠v):∀{ws:List Nat} {us:cj},As N ws us→has H (.ref v) (az ws)=some (decide (u∈us))
 | [],[],_=>rfl
 | w::ws,t::us,⟨a,b⟩=>by
  show(match H4 H (.ref w) (.ref v)with
   | some a=>(match has H (.ref v) (az ws)with
    | some b=>some (a || b)
    | none=>none)
   | none=>none)=_
  rw[Rk (hN _ a).1 hv (hN _ a).2];rw[Hv hv hN b]
  refine congrArg some (acr.mpr ?_)
  rw[aeE];rewrite[decide_eq_true_iff,decide_eq_true_iff,decide_eq_true_iff,aa2]
  exact or_congr_left eq_comm
 | [],_::_,a=>a.elim
 | _::_,[],a=>a.elim
theorem Rd.ab9{v w:Nat}{u ws:List Nat}{us:cj}{N:List ap}(hv:(v,CO.list (bi u))∈K)(a:As N ws us):Rd ((w,.list (az ws))::(N++K)) (ae .NotIn (.ref v) (.ref w)) (!decide (u∈us)):=fun H rp=>by
 have nd:=(abU.mp rp.2.1).2
 rw[adi,acL]at nd
 have e:=Hv (rp.2.2 _ (.tail _ (aaJ _ hv))).2 (N:=N) (fun c hc=>⟨(rp.2.2 _ (.tail _ (aap _ hc))).2,nd.2.2 _ (abi.mpr ⟨_,hc,rfl⟩) _ (abi.mpr ⟨_,hv,rfl⟩)⟩) a
 show aa (contains (.ref v) (.ref w)) (fun r=>Mine.ret (!r)) H=_
 refine be (f:=fun r=>Mine.ret (!r)) (show contains (.ref v) (.ref w) H=some (decide (u∈us),H)from ?_)
 unfold contains
 dsimp only
 rewrite[dx (rp.2.2 _ (.head _)).2]
 exact yy (f:=fun H=>has H _ _) e
end Mine
namespace Mine
open PySem
variable{α β:Type}{K X J:List ap}{Q:PV→List ap→Prop}{R:List PV→List ap→Prop}{n m k x y dI nI at' gq tI cI NH r:Nat}{nums:List Int}{cl:Str→List PV→CM PV}{things Il I2:List Nat}{AZ ps:cj}
theorem As.get{rs:List Nat}{ls:cj}(a:As K rs ls){i:Nat}{l:List Nat}(h:ls[i]?=some l):∃r,rs[i]?=some r∧(r,CO.list (bi l))∈K:=Sim.ay.get' a h
theorem XZ(th:(tI,CO.list (bi things))∈X)(PT:Ib things)(hc:(cI,CO.list (az Il))∈X)(ac:As X Il AZ)(PC:∀c∈AZ,Ib c)(NH:Nat):∃pl Fq,(pl,CO.list (bi Fq))∈X∧Ib Fq∧∀{K},X⊆K→Rd K (aa (aa (blt .len [.ref cI]) fun aaP=>ae .Gt aaP (.int 0)) fun adB=>af adB (aa (aa (blt .len [.ref cI]) fun aeR=>binop .Mod (.int NH) aeR) fun aeS=>getItem (.ref cI) aeS) (ret (.ref tI))) (.ref pl):=by
 have hl:(az Il).length=AZ.length:=by unfold az;rw[aaY];rw[ac.len];rfl
 have gt:∀{K},X⊆K→Rd K (aa (blt .len [.ref cI]) fun aaP=>ae .Gt aaP (.int 0)) (decide (0<AZ.length)):=fun s=>Rd.seq (Rd.len (s hc)) fun H zz=>by rw[hl];show some (decide ((0:Int)<_),H)=_;rewrite[← Xb];rfl
 by_cases z:0<AZ.length
 ·have IE:NH % AZ.length<AZ.length:=Nat.mod_lt _ z
  obtain⟨r,h1,h2⟩:=ac.get (i:=NH % AZ.length) (aa8 IE)
  rw[decide_eq_true z]at gt
  refine⟨r,_,h2,PC _ (agn IE),fun s=>Rd.seq (gt s)<|Rd.yes<|Rd.seq (a:=.int ((NH % AZ.length:Nat):Int)) (Rd.seq (Rd.len (s hc)) fun H zz=>?_) (Rd.item (s hc) (by unfold az;rw[adf];rw[h1];rfl))⟩
  rw[hl];rewrite[mod_int (by lia)];rw[Int.natCast_emod];rfl
 ·rw[decide_eq_false z]at gt
  exact⟨tI,things,th,PT,fun s=>Rd.seq (gt s)<|Rd.no<|Rd.ret _⟩
theorem acj(N X:List ap)(a b:ap):(N++a::b::X).Perm (a::b::(N++X)):=abj.trans (abj.cons a)
structure abc(Q:PV→List ap→Prop)(X J:List ap)(dI nI gq NH at':Nat)(I2:List Nat)(ps:cj)(ck:Option PV→Option PV→Option PV→Option PV→CM PV):Prop where
 go:∀(N:List ap) {at2:Nat} {I3:List Nat} {yp:cj} {Tu Zn Zo},at2≤at'+20→As (N++X) I3 yp→(∀p∈yp,GP 3 p∧p.length≤3)→((yp=ps∧ps≠[])∨∃p,yp=ps++[p]∧∀p1∈ps,¬ ∀x,x∈pf p1↔x∈pf p)→Run (dC dI nI at2::(gq,.list (az I3))::((N++X)++J)) (ck Tu (some (.int NH)) Zn Zo) Q
theorem Y2{ck:Option PV→Option PV→Option PV→Option PV→CM PV}{raw:List Nat}{at2:Nat}{x19 x20:PV}(A:As X I2 ps)(gp:∀p∈ps,GP 3 p∧p.length≤3)(pl:ps.length<10)(h2:at2≤at'+20)(R:Raw raw)(g:abc Q X J dI nI gq NH at' I2 ps ck) :
  Run ((r,.list (bi raw))::dC dI nI at2::(gq,.list (az I2))::(X++J)) (MA (Φ (n+200)) (.ref gq) (.int NH) ck x19 x20 (.ref r)) Q:=by
 obtain⟨ZL,pl3⟩:=aak R
 have rl:=R.len
 have sub:∀{N:List ap} {a b:ap},X⊆N++a::b::(X++J):=fun h=>aaJ _ (.tail _ (.tail _ (aap _ h)))
 refine Run.bh<|Run.bh<|Run.rd (Rd.len (.head _))<|Run.of _ (Rd.det fun H zz=>fJ (by rw[bm];lia) H)<|Run.clN<|(show bi (adR 0 (bi raw).length)=bi (adR ([]:List Nat).length raw.length) by rw[bm];rfl)▸N4 (.head _) (afB raw)<|Run.mk (by rw[bm];unfold ax;lia) fun i=>Run.bh<|Run.bh<|A9 (n:=n+199) (.head _) (by lia) fun v us srt=>Run.bh<|Run.Ik (.tail _ (.tail _ (.tail _ (.tail _ (.head _)))))<|LX (n:=n+199) (.tail _ (.tail _ (.tail _ (.tail _ (.head _))))) (acf _) (A.sub (sub (N:=[_,_,_]))) (fun p hp=>(gp p hp).2) fun N ws uss aN aaq=>?_
 have wl:ws.length=ps.length:=aN.len.trans aaq.len.symm
 refine Run.mk (by unfold az;rw[aaY];unfold ax;lia) fun w=>Run.of _ (Rd.ab9 (.head _) aN).det ?_
 have e:(w,CO.list (az ws))::(N++((v,.list (bi us))::(i,.list (bi (N3 [] raw)))::(r,.list (bi raw))::dC dI nI at2::(gq,.list (az I2))::(X++J)))=((w,CO.list (az ws))::(N++[(v,.list (bi us)),(i,.list (bi (N3 [] raw))),(r,.list (bi raw))]))++dC dI nI at2::(gq,.list (az I2))::(X++J):=congrArg (_::·) (aaW N [_,_,_] _).symm
 rw[e]
 have hi:(i,CO.list (bi (N3 [] raw)))∈((w,CO.list (az ws))::(N++[(v,.list (bi us)),(i,.list (bi (N3 [] raw))),(r,.list (bi raw))])):=.tail _ (aaJ _ (.tail _ (.head _)))
 refine Run.perm (acj ..) ?_
 generalize (w,CO.list (az ws))::(N++[(v,.list (bi us)),(i,.list (bi (N3 [] raw))),(r,.list (bi raw))])=M at hi
 rewrite[← aaW]
 have AM:As (M++X) I2 ps:=A.sub fun zz h=>aaJ _ h
 by_cases kh:us∈uss
 ·rw[decide_eq_true kh]
  refine Run.no<|g.go M h2 AM gp (.inl ⟨rfl,fun h=>?_⟩)
  subst h
  obtain _ | ⟨_,_⟩:=uss
  ·cases kh
  ·exact aaq.elim
 ·rw[decide_eq_false kh]
  have prl:=A.len
  refine Run.yes<|Run.perm (.swap ..)<|Run.bh<|Run.rd (Rd.mem (fun zz=>ez) (.head _))<|Run.push (by unfold ax;lia)<|Run.gC<|Run.perm (.swap ..)<|g.go M h2 (AM.snoc (aap _ hi)) (fun p hp=>(aa7.mp hp).elim (gp p) fun h=>aad.mp h▸⟨ZL,pl3⟩) (.inr ⟨_,rfl,fun p1 hp1 heq=>kh ?_⟩)
  obtain⟨u1,h1,h2⟩:=aaq.oE hp1
  exact(WE.eq (gp p1 hp1).1.nd ZL.nd h2 srt).mpr heq▸h1
theorem abZ{ck:Option PV→Option PV→Option PV→Option PV→CM PV}(hn:(nI,CO.list (nums.map .int))∈X)(th:(tI,CO.list (bi things))∈X)(PT:Ib things)(hc:(cI,CO.list (az Il))∈X)(ac:As X Il AZ)(PC:∀c∈AZ,Ib c)(A:As X I2 ps)(gp:∀p∈ps,GP 3 p∧p.length≤3)(pl:ps.length<10)(ha:at'<70000)(g:abc Q X J dI nI gq NH at' I2 ps ck) :
  Run (dC dI nI at'::(gq,.list (az I2))::(X++J)) (MB (Φ (n+200)) (.ref dI) (.ref tI) (.ref cI) (.ref gq) (.int NH) ck) Q:=by
 obtain⟨pi,Fq,hp,P,e1⟩:=XZ th PT hc ac PC NH
 refine Run.rd (e1 fun zz h=>.tail _ (.tail _ (aap _ h)))<|Run.bh<|mF (n:=n+199) (m:=4) (.tail _ (aap _ hn)) (by decide) (by lia) fun h hh=>?_
 have lt:∀{K},Rd K (ae .Lt (.int h) (.int 3)) (decide (h<3)):=fun H zz=>by rewrite[← Xb];rfl
 by_cases h3:h<3
 ·rw[decide_eq_true h3]at lt
  exact Run.bh<|Run.rd lt<|Run.yes<|Run.bh<|Run.rd (a:=.int ((1+h:Nat):Int)) (fun zz zz=>rfl)<|Run.of _ (Rd.det fun H zz=>fJ (by lia) H)<|Run.clN<|RF (n:=n+199) (.tail _ (aap _ hn)) (.tail _ (aap _ hp)) P (by rw[ac5];lia) fun l h1 h2=>Run.mk (by rw[bm];rw[h1];rw[ac5];unfold ax;lia) fun r=>Y2 A gp pl (by rw[ac5];lia) ⟨fun e=>(by rw[e,ac5]at h1;exact absurd h1.symm (Nat.ne_of_gt (Nat.add_pos_left Nat.one_pos h))),fun k hk=>P.df k (h2 k hk),ym P.nc h2,by rw[h1];rw[ac5];lia⟩ g
 ·rw[decide_eq_false h3]at lt
  exact Run.bh<|Run.rd lt<|Run.no<|PL (n:=n+198) (c:=10) (OG:=3) (lw:=1) (.tail _ (aap _ hn)) (by decide) (by decide) (by lia) (by decide) fun r l at2 h2 sp ne=>Y2 A gp pl (by lia) ⟨ne (aaX _),fun k hk=>Zz (sp.lt k hk),sp.nc,sp.len⟩ g
end Mine
namespace Mine
open PySem
variable{α β:Type}{K X J:List ap}{Q:PV→List ap→Prop}{n m k x y dI nI at' gq tI cI NH r κ bI s vM go:Nat}{nums:List Int}{things Il I2 Fm:List Nat}{AZ ps:cj}{Gs:List cj}{Γ:Ctx}{yp:PV}{o6 o7 o9 Td Cp LJ yX LK LL LM:Option PV}
structure Src(X:List ap)(nI tI cI:Nat)(nums:List Int)(things Il:List Nat)(AZ:cj):Prop where
 n:(nI,CO.list (nums.map .int))∈X
 th:(tI,CO.list (bi things))∈X
 PT:Ib things
 hc:(cI,CO.list (az Il))∈X
 ac:As X Il AZ
 PC:∀c∈AZ,Ib c
theorem Src.sub{X':List ap}(h:X⊆X')(S:Src X nI tI cI nums things Il AZ):Src X' nI tI cI nums things Il AZ:=⟨h S.n,h S.th,S.PT,h S.hc,S.ac.sub h,S.PC⟩
structure Pts(i:Nat)(ps:cj):Prop where
 gp:∀p∈ps,GP 3 p∧p.length≤3
 num:ps.length≤i
 ne:1≤i→ps≠[]
 dist:NN ps
theorem RX{E:bg→CM PV}:∀{j i at':Nat} {I2:List Nat} {ps:cj} {X:List ap} {LJ LK LL LM:Option PV},i+j≤2→Src X nI tI cI nums things Il AZ→As X I2 ps→Pts i ps→at'+20*j<70000 →
  (∀(N:List ap) {at2 I3 qs Tu b18 Zn Zo},at2≤at'+20*j→As (N++X) I3 qs→Pts (i+j) qs→Run (dC dI nI at2::(gq,.list (az I3))::((N++X)++J)) (E (ro Γ.c Γ.h.rel κ bI tI s cI vM yp (.ref nI) (.ref dI) o6 o7 o9 (some (.int go)) (some (.ref gq)) Tu yX b18 Zn Zo none none none none none none none)) Q) →
  Run (dC dI nI at'::(gq,.list (az I2))::(X++J)) (gH (uc (Φ (n+200))) (bi (adR i j)) (ro Γ.c Γ.h.rel κ bI tI s cI vM yp (.ref nI) (.ref dI) o6 o7 o9 (some (.int go)) (some (.ref gq)) LJ yX LK LL LM none none none none none none none) E) Q:=by
 intro j
 induction j with
 | zero=>exact fun zz S A P zz g=>g [] (aaX _) A P
 | succ j ih =>
  intro i at' I2 ps X LJ LK LL LM ZN S A P ha g
  have pn:=P.num
  refine Run.eq (O4 ..)<|abZ (n:=n) S.n S.th S.PT S.hc S.ac S.PC A P.gp (by lia) (by lia) ⟨fun N {at2 I3 qs} _ _ _ h2 A' gp h=>ih (i:=i+1) (by lia) (S.sub fun zz h=>aaJ _ h) A' ⟨gp,?_,fun zz=>?_,?_⟩ (by lia) fun N2 {at3 aeF qs2 c12 c18 c19 c20} h3 A2 P2=>by
   have:=g (N2++N) (at2:=at3) (I3:=aeF) (qs:=qs2) (Tu:=c12) (b18:=c18) (Zn:=c19) (Zo:=c20) (aa4 h3 (by lia)) (by rw[aaW];exact A2) (Nat.add_right_comm i 1 j▸P2)
   rw[aaW N2 N]at this
   exact this⟩
  ·rcases h with ⟨rfl,_⟩ | ⟨p,rfl,_⟩
   ·exact afP pn
   ·rw[aaA];exact afw pn
  ·rcases h with ⟨rfl,h⟩ | ⟨p,rfl,_⟩
   ·exact h
   ·exact fun e=>by cases ps <;> cases e
  ·rcases h with ⟨rfl,_⟩ | ⟨p,rfl,h⟩
   ·exact P.dist
   ·intro p1 p2 e
    obtain _ | ⟨q1,_ | ⟨q2,qs⟩⟩:=ps
    ·cases e
    ·cases e
     exact h _ (.head _)
    ·exact absurd (congrArg af4 e) (by rw[aaA];exact fun h=>by cases h)
theorem A4.snoc{K:List ap}{r:Nat}{l:cj}(h:∃us,(r,CO.list (az us))∈K∧As K us l){rs:List Nat}{ls:List cj}(a:A4 K rs ls):A4 K (rs++[r]) (ls++[l]):=Sim.ay.append a (show A4 K [r] [l]from⟨h,trivial⟩)
theorem ad3{ZV:bg→CM PV}{ck:Option PV→Option PV→Option PV→Option PV→Option PV→Option PV→CM PV}(S:Src X nI tI cI nums things Il AZ)(hl:Fm.length<100)(ha:at'<60000)
  (g:∀(N:List ap) {at2 gq us goal b10 b11 Tu b18 Zn Zo},at2≤at'+41→(gq,CO.list (az us))∈N→As (N++X) us goal→lI 3 goal→NN goal→Run (dC dI nI at2::(vM,.list (az (Fm++[gq])))::((N++X)++J)) (ZV (ro Γ.c Γ.h.rel κ bI tI s cI vM yp (.ref nI) (.ref dI) o6 o7 o9 b10 b11 Tu yX b18 Zn Zo none none none none none none none)) Q) :
  Run (dC dI nI at'::(vM,.list (az Fm))::(X++J)) (MC (Φ (n+200)) yp (.ref nI) (.ref dI) (.ref Γ.c.tab) (.ref Γ.h.rel) o6 (.ref κ) o7 (.ref bI) o9 yX (.ref tI) (.int s) (.ref cI) (.ref vM) LJ LK LL LM ZV (.int go) ck) Q:=by
 refine Run.new fun gq=>Run.perm (.swap ..)<|Run.perm (.cons _ (.cons _ abj.symm))<|Run.bh<|Run.bh<|Run.bh<|mF (n:=n+199) (m:=2) (.tail _ (aap _ S.n)) (by decide) (by lia) fun t ht=>Run.of _ (v:=.int ((1+t:Nat):Int)) (Rd.det fun zz zz=>rfl)<|Run.of _ (Rd.det fun H zz=>fJ (by lia) H)<|Run.rd (fun H zz=>bz _ H)<|Run.eq (m':=gH (uc (Φ (n+200))) (bi (adR 0 (1+t))) (ro Γ.c Γ.h.rel κ bI tI s cI vM yp (.ref nI) (.ref dI) o6 o7 o9 (some (.int go)) (some (.ref gq)) LJ yX LK LL LM none none none none none none none) (Dr (Φ (n+200)) ZV)) (ch ..)<|RX (n:=n) (I2:=[]) (ps:=[]) (by lia) S trivial ⟨(fun zz z=>zM z),aaX _,(fun z=>(aff _ z).elim),(fun zz zz z=>zC ac2 z rfl)⟩ (by lia) fun N {at2 I3 qs} _ _ _ _ h2 A P=>?_
 refine Run.eq (O5 ..)<|Run.perm ((afz _ (afz _ abj)).trans ((afz _ (.swap ..)).trans (.swap ..)))<|Run.bh<|Run.rd (Rd.mem (fun zz=>ez) (.head _))<|Run.push (by unfold ax;lia)<|Run.gC<|Run.perm (.swap ..)<|g ((gq,.list (az I3))::N) (by lia) (.head _) (A.sub fun zz h=>.tail _ h) ⟨fun p hp=>(P.gp p hp).1,P.ne (by lia),aa4 P.num (by lia),fun p hp=>(P.gp p hp).2⟩ P.dist
theorem Uc{rows:List PV}{σ:ey}{tw:lK}{kl:List PV}{gs cr q:List Nat}{rk:Nat→List Nat}{bl:Nat→cj}{τ:Nat→Nat}{d x0:Nat}(nc:ff things)(hR:Γ.R=1000000)(RT:d≤300000)(fin:∀K',Q (.bool true) K')(hx:x0∈q)(l:Lw Γ (d+60000) 0 rows σ tw)(KK:KL rows kl 3 τ)(a:Mt rows s q)(hl:σ.aq=0) :
  ∀{j i at':Nat} {Fm:List Nat} {Gs:List cj} {X:List ap} {Td Cp LJ LK LL LM:Option PV},i+j≤3→at'+50*j<60000→Src X nI tI cI nums things Il AZ→Bh Γ X κ bI tI cI kl gs rk bl things cr q→A4 X Fm ([[x0]]::Gs)→(∀g∈[[x0]]::Gs,lI 3 g∧NN g)→Fm.length≤i+1 →
  Run (dC dI nI at'::(vM,.list (az Fm))::(X++eb Γ rows σ tw)) (gH (Ds (Φ (n+200))) (bi (adR i j)) (ro Γ.c Γ.h.rel κ bI tI s cI vM yp (.ref nI) (.ref dI) o6 o7 o9 Td Cp LJ yX LK LL LM none none none none none none none) (ud (Φ (n+200)))) Q:=by
 intro j
 induction j with
 | zero =>
  intro i at' Fm Gs X Td Cp LJ LK LL LM ZN ha S C a4 ok gl
  have s2:X⊆dC dI nI at'::(vM,.list (az Fm))::X:=fun zz h=>.tail _ (.tail _ h)
  exact Xm (n:=n) (X:=dC dI nI at'::(vM,.list (az Fm))::X) nc hR RT fin (C.sub s2) (.tail _ (.head _)) (a4.sub s2) hx ok l KK a (by lia) hl
 | succ j ih =>
  intro i at' Fm Gs X Td Cp LJ LK LL LM ZN ha S C a4 ok gl
  refine Run.eq (O6 ..)<|ad3 (n:=n) S (by lia) (by lia) fun N {at2 gq us goal b10 b11 Tu b18 Zn Zo} h2 hg A og dg=>ih (Gs:=Gs++[goal]) (by lia) (by lia) (S.sub fun zz h=>aaJ _ h) (C.sub fun zz h=>aaJ _ h) (A4.snoc ⟨us,aap _ hg,A⟩ (a4.sub fun zz h=>aaJ _ h)) (fun g' hg'=>?_) (by rw[aaA];rw[abf];lia)
  rw[← afu]at hg'
  exact(aa7.mp hg').elim (ok g') fun h=>aad.mp h▸⟨og,dg⟩
end Mine
namespace Mine
open PySem
variable{α β:Type}{K X J:List ap}{Q:PV→List ap→Prop}{n m k x y dI nI at' gq tI cI NH r κ bI s vM go a b d:Nat}{nums:List Int}{things Il I2 Fm l:List Nat}{AZ ps:cj}{Gs:List cj}{Γ:Ctx}{yp:PV}{o6 o7 o9 Td Cp LJ yX LK LL LM:Option PV}{rows:List PV}{σ:ey}{tw:lK}{kl:List PV}{gs cr q:List Nat}{rk:Nat→List Nat}{bl:Nat→cj}{τ:Nat→Nat}
noncomputable def ef(a b:Nat)(l:List Nat):List Nat:=[5+a,b]++l.filter fun x=>!decide (x∈[5+a,b])
theorem mG:x∈ef a b l↔x=5+a∨x=b∨x∈l:=by
 unfold ef
 rewrite[aa7,acZ];rw[acQ];rewrite[decide_eq_false_iff_not,aa2,aad]
 by_cases z:x=5+a∨x=b
 ·exact⟨fun zz=>z.imp_right .inl,fun zz=>.inl z⟩
 ·exact⟨fun h=>.inr (.inr (h.resolve_left z).1),fun h=>.inr ⟨(h.resolve_left fun e=>z (.inl e)).resolve_left fun e=>z (.inr e),z⟩⟩
theorem SW(ha:a<3)(hb:b<2)(S:Kz 10 3 0 l):GP 3 (ef a b l)∧(ef a b l).length≤4:=by
 have up:∀{x},x=4∨x=2∨x=3→x∈ef a b l→x∈l:=fun h hx=>(mG.mp hx).elim (fun e=>by lia) fun h'=>h'.resolve_left fun e=>by lia
 refine⟨⟨(fun z=>zC ac2 z rfl),acL.mpr ⟨abU.mpr ⟨fun h=>by have:=aad.mp h;lia,acS _ _⟩,S.nd.filter _,fun x hx y hy e=>?_⟩,fun x h=>Zz ((mG.mp h).elim (fun e=>by lia) fun h=>h.elim (fun e=>by lia) (S.lt x)),(by rintro⟨h4,h23⟩;exact S.nc ⟨up (.inl rfl) h4,h23.imp (up (.inr (.inl rfl))) (up (.inr (.inr rfl)))⟩)⟩,?_⟩
 ·subst e
  have:=(acZ.mp hy).2
  rw[decide_eq_true hx]at this
  exact fS this
 ·have:=S.len
  have:=ada (fun x=>!decide (x∈[5+a,b])) l
  unfold ef
  rw[aaA]
  exact adW (aa4 this S.len) 2
theorem R4(ha:a<3)(hb:b<2)(n:Nm (ef a b l) q):5+a∈q∧lb q∧1≤fH q∧2≤q.length:=by
 have h1:5+a∈q:=UL n (mG.mpr (.inl rfl)) (by lia)
 have h2:b∈q:=UL n (mG.mpr (.inr (.inl rfl))) (by lia)
 refine⟨h1,?_,?_,?_⟩
 ·obtain rfl | rfl:b=0∨b=1:=by lia
  ·exact .inl h2
  ·exact .inr h2
 ·refine aa4 ?_ (vP h1)
  obtain rfl | rfl | rfl:a=0∨a=1∨a=2:=by lia
  ·decide
  ·decide
  ·decide
 ·obtain _ | ⟨x,_ | ⟨_,_⟩⟩:=q
  ·cases h1
  ·have:=aad.mp h1
   have:=aad.mp h2
   lia
  ·exact adV _ _
theorem To(c:List Nat):(jV c).length≤c.length+1:=by
 unfold jV
 split
 ·rw[aaA];exact aaX _
 ·exact adb _
theorem NV(B:Kv bl)(hd:∀x∈things,NM 3 x)(hl:things.length≤4)(qc:things≠[]):∀c∈dw bl things,Ib c:=fun c hc=>by
 obtain⟨h1,h2,h3,h4⟩:=xU B hd c hc
 refine⟨fun h=>?_,h2,h4,?_⟩
 ·obtain⟨x,hx⟩:=ad7 things qc
  have:=h1 x hx
  rw[h]at this
  cases this
 ·unfold dw at hc
  obtain⟨cs,h5,rfl⟩:=abi.mp (acZ.mp hc).1
  have:=jp 0 (B.two 0 (by decide)) (jp 1 (B.two 1 (by decide)) (jp 2 (B.two 2 (by decide)) (n:=4) fun cs h=>aad.mp h▸hl)) cs h5
  have:=To cs
  lia
theorem ZJ{p:List Nat}{d:cj}(g:GK [p] d):∃q,d=[q]∧Nm p q:=by
 obtain⟨q,rfl⟩:=fe (g.nonempty (List.cons_ne_nil _ _)) (aep.mpr g.num)
 obtain⟨p',h1,h2⟩:=g.part (l:=q) (.head _)
 exact⟨q,rfl,aad.mp h1▸h2⟩
theorem Run.nw{o:CO}(g:∀i,Q (.ref i) ((i,o)::K)):Run K (Mine.new o) Q:=fun F H r l=>⟨_,_,_,oF o,r.new l o,by rw[aaA];exact acX l,g H.length⟩
theorem TG(hn:(nI,CO.list (nums.map .int))∈K)(hm:Γ.h.mode=1∨Γ.h.mode=4)(md:Rd K (ar (.ref Γ.h.rel) (S "mode")) (.int Γ.h.mode)):∃m:Nat,m≤3∧Rd K (aa (aa (aa (blt .len [.ref nI]) fun aaQ=>ae .Lt aaQ (.int 7)) fun adC=>af adC (ret true) (aa (aa (ar (.ref Γ.h.rel) (S "mode")) fun aeT=>ae .Eq aeT (.int 4)) fun adD=>af adD (ret true) (ret false))) fun adE=>af adE (ret (PV.int 1)) (aa (aa (blt .len [.ref nI]) fun aeV=>ae .Lt aeV (.int 21)) fun adF=>af adF (ret (PV.int 2)) (ret (PV.int 3)))) (.int m):=by
 have lt:∀z:Int,∃b,Rd K (aa (blt .len [.ref nI]) fun aaQ=>ae .Lt aaQ (.int z)) b:=fun z=>⟨_,Rd.seq (Rd.len hn) fun zz zz=>lt_int ..⟩
 obtain⟨b7,h7⟩:=lt 7
 obtain⟨b21,h21⟩:=lt 21
 have h:=Rd.orB h7 (Rd.tf (Rd.seq (f:=fun x=>ae .Eq x (.int 4)) md (Rd.eq _ 4)))
 generalize hb:(b7 || ((Γ.h.mode:Int) == 4))=zq;induction zq with
 | true=>exact⟨1,by decide,Rd.seq (hb▸h) (Rd.ret _)⟩
 | false=>induction b21 with
  | true=>exact⟨2,by decide,Rd.seq (hb▸h) (Rd.no (Rd.seq h21 (Rd.yes (Rd.ret _))))⟩
  | false=>exact⟨3,by decide,Rd.seq (hb▸h) (Rd.no (Rd.seq h21 (Rd.no (Rd.ret _))))⟩
structure Ze(Γ:Ctx)(X:List ap)(κ bI nI:Nat)(nums:List Int)(kl:List PV)(gs:List Nat)(rk:Nat→List Nat)(bl:Nat→cj):Prop where
 G:GM Γ
 kl:(κ,CO.list kl)∈X
 bI:(bI,CO.list (az gs))∈X
 n:(nI,CO.list (nums.map .int))∈X
 ba:A3 X gs rk bl
 B:Kv bl
 S:Hg bl Γ.bd
theorem Ze.sub{X':List ap}(h:X⊆X')(b:Ze Γ X κ bI nI nums kl gs rk bl):Ze Γ X' κ bI nI nums kl gs rk bl:=⟨b.G,h b.kl,h b.bI,h b.n,b.ba.sub h,b.B,b.S⟩
theorem Ub(ha:a<3)(hb:b<2)(g3:GP 3 (ef a b l))(l4:(ef a b l).length≤4)(nq:Nm (ef a b l) q)(hR:Γ.R=1000000)(RT:d≤300000)(fin:∀K',Q (.bool true) K')(E:Ze Γ X κ bI nI nums kl gs rk bl)(th:(tI,CO.list (bi (ef a b l)))∈X)(hc:(cI,CO.list (az Il))∈X)(ac:As X Il (dw bl (ef a b l)))(w:Lw Γ (d+60000) 0 rows σ tw)(KK:KL rows kl 3 τ)(h:Mt rows s q)(hl:σ.aq=0)(Xn:at'<1000) :
  Run (dC dI nI at'::(X++eb Γ rows σ tw)) (MN (Φ (n+200)) yp (.ref nI) (.ref dI) (.ref Γ.c.tab) (.ref Γ.h.rel) o6 (.ref κ) o7 (.ref bI) o9 Cp yX (.ref tI) (.int s) (.ref cI)) Q:=by
 obtain⟨h1,h2,h3,h4⟩:=R4 ha hb nq
 refine Run.bh<|Run.bh<|Run.bh<|Run.bh<|Run.bh<|Run.Ih (o':=.list (bi [5+a])) (fun H h=>mE (n:=1) h) (.tail _ (aap _ th)) fun i=>Run.ret<|Run.eq (m':=Mine.new (.list (az [i]))) rfl<|Run.nw fun g=>Run.ret<|Run.eq (m':=Mine.new (.list (az [g]))) rfl<|Run.nw fun vM=>Run.perm (K':=dC dI nI at'::(vM,.list (az [g]))::(([(g,CO.list (az [i])),(i,CO.list (bi [5+a]))]++X)++eb Γ rows σ tw)) (abj (l₁:=[(vM,CO.list (az [g])),(g,CO.list (az [i])),(i,CO.list (bi [5+a]))])) ?_
 have s2:X⊆[(g,.list (az [i])),(i,CO.list (bi [5+a]))]++X:=fun zz h=>.tail _ (.tail _ h)
 generalize hX:[(g,.list (az [i])),(i,CO.list (bi [5+a]))]++X=X' at s2
 obtain⟨m,hm,e⟩:=TG (K:=dC dI nI at'::(vM,.list (az [g]))::(X'++eb Γ rows σ tw)) (.tail _ (.tail _ (aap _ (s2 E.n)))) E.G.mode (Rd.lw (X:=dC dI nI at'::(vM,.list (az [g]))::X') fI)
 refine Run.bh<|Run.rd e<|Run.of _ (Rd.det fun H zz=>fJ (by lia) H)<|Run.rd (fun H zz=>bz _ H)<|Run.eq (ch ..)<|Uc (n:=n) (d:=d) (x0:=5+a) (AZ:=dw bl (ef a b l)) (Gs:=[]) g3.nc hR RT fin h1 w KK h hl (by lia) (by lia) ⟨s2 E.n,s2 th,⟨g3.ne,g3.df,g3.nc,by lia⟩,s2 hc,ac.sub s2,NV E.B g3.df l4 g3.ne⟩ ⟨E.G,s2 E.kl,s2 E.bI,E.ba.sub s2,s2 th,s2 hc,ac.sub s2,E.B,E.S,g3.df,g3.nd,l4,nq,h4,h2,h3⟩ ⟨⟨[i],hX▸.head _,hX▸.tail _ (.head _),trivial⟩,trivial⟩ (fun g hg=>?_) (aaX _)
 cases aad.mp hg
 exact⟨⟨fun p hp=>by cases aad.mp hp;exact⟨(fun z=>zC ac2 z rfl),acS _ _,fun k hk=>by cases aad.mp hk;exact Zz (by lia),(by rintro⟨h,_⟩;exact by have:=aad.mp h;lia)⟩,(fun z=>zC ac2 z rfl),adb 1,fun p hp=>by cases aad.mp hp;exact show 1≤3 by decide⟩,fun zz zz h=>zC ac2 ((afH h).2) rfl⟩
end Mine
namespace Mine
open PySem
variable{α β:Type}{K X J:List ap}{Q:PV→List ap→Prop}{n m k x y dI nI at' gq tI cI NH r κ bI s vM go a b d:Nat}{nums:List Int}{things Il I2 Fm l:List Nat}{AZ ps:cj}{Gs:List cj}{Γ:Ctx}{yp:PV}{o6 o7 o9 Td Cp LJ yX LK LL LM:Option PV}{rows:List PV}{σ:ey}{tw:lK}{kl:List PV}{gs cr q:List Nat}{rk:Nat→List Nat}{bl:Nat→cj}{τ:Nat→Nat}
theorem XC(ha:a<3)(hb:b<2)(sp:Kz 10 3 0 l)(hR:Γ.R=1000000)(RT:d≤300000)(fin:∀K',Q (.bool true) K')(E:Ze Γ X κ bI nI nums kl gs rk bl)(th:(tI,CO.list (bi (ef a b l)))∈X)(w:Lw Γ (d+61000) 0 rows σ tw)(KK:KL rows kl 3 τ)(hl:σ.aq=0)(Xn:at'<1000) :
  Run (dC dI nI at'::(X++eb Γ rows σ tw)) (MO (Φ (n+200)) yp (.ref nI) (.ref dI) (.ref Γ.c.tab) (.ref Γ.h.rel) o6 (.ref κ) o7 (.ref bI) o9 Cp yX (.ref tI)) Q:=by
 obtain⟨g3,l4⟩:=SW ha hb sp
 refine Run.bh<|Run.bh<|Run.bh<|Run.bh<|Run.bh<|Run.eq (m':=Mine.new (.list (az [tI]))) rfl<|Run.nw fun g=>Run.ret<|Run.ret<|Run.ret<|Lq (n:=n+191) (d:=d+60000) (m:=3) (goal:=[ef a b l]) (X:=(g,.list (az [tI]))::dC dI nI at'::X) (w.le (by lia)) hR (by lia) (.tail _ (.tail _ E.kl)) KK (.head _) ⟨.tail _ (.tail _ th),trivial⟩ (fun p hp=>aad.mp hp▸g3) (adb 1) fun{Y3 v dt} w2 p2 ty gk=>?_
 obtain⟨q,rfl,nq⟩:=ZJ gk
 have bok:∀k,k<3→(bl k).length≤2∧∀b∈bl k,b.length≤10:=fun k hk=>⟨by
  have:=E.B.n0
  have:=E.B.n1
  have:=E.B.n2
  obtain rfl | rfl | rfl:k=0∨k=1∨k=2:=by lia
  ·lia
  ·lia
  ·lia,fun b hb=>aa4 (E.B.two k hk b hb) (by decide)⟩
 refine Run.perm (K':=X++((g,.list (az [tI]))::dC dI nI at'::eb Γ Y3 σ tw)) (((abj.trans (abj.cons _))).symm)<|Run.bh<|((W1 (n:=n+199) (Q:=fun v K'=>∃r os,v=.ref r∧X⊆K'∧(r,CO.list (az os))∈K'∧As K' os (dw bl (ef a b l))) E.bI E.ba th bok (by lia) fun s h a=>⟨_,_,rfl,s,h,a⟩).rt _).imp fun zz zz hh=>?_
 obtain⟨K1,e,r,os,e2,s,h,ac⟩:=hh
 subst e e2
 exact Run.perm (abj.trans (afz _ abj |>.trans (.swap ..)))<|Run.perm (.cons _ (.refl _))<|Ub (n:=n) (d:=d) (X:=(g,.list (az [tI]))::K1) ha hb g3 l4 nq hR RT fin (E.sub fun zz h=>.tail _ (s h)) (.tail _ (s th)) (.tail _ h) (ac.sub fun zz h=>.tail _ h) w2 (KK.pre p2) ty hl Xn
theorem Xh(hR:Γ.R=1000000)(RT:d≤300000)(fin:∀K',Q (.bool true) K')(E:Ze Γ X κ bI nI nums kl gs rk bl)(w:Lw Γ (d+61000) 0 rows σ tw)(KK:KL rows kl 3 τ)(hl:σ.aq=0)(Xn:at'<900) :
  Run (dC dI nI at'::(X++eb Γ rows σ tw)) (MQ (Φ (n+200)) yp (.ref nI) (.ref dI) (.ref Γ.c.tab) (.ref Γ.h.rel) o6 (.ref κ) o7 (.ref bI) o9 Cp yX) Q:=by
 have hn:(nI,CO.list (nums.map .int))∈X++eb Γ rows σ tw:=aap _ E.n
 refine Run.bh<|Run.bh<|Run.bh<|Run.bh<|mF (n:=n+199) (m:=3) hn (by decide) (by lia) fun a ha=>Run.of _ (v:=.int ((5+a:Nat):Int)) (Rd.det fun zz zz=>rfl)<|Run.bh<|Run.bh<|mF (n:=n+199) (m:=2) hn (by decide) (by lia) fun b hb=>Run.ret<|Run.ret<|Run.eq (m':=Mine.new (.list (bi [5+a,b]))) rfl<|Run.nw fun t1=>Run.perm (.swap ..)<|Run.bh<|Run.bh<|Run.bh<|Run.bh<|PL (n:=n+198) (c:=10) (OG:=3) (lw:=0) (.tail _ hn) (by decide) (by decide) (by lia) (by decide) fun r l at2 h2 sp zz=>?_
 have hlen:=sp.len
 have hf:=ada (fun x=>!decide (x∈[5+a,b])) l
 refine Run.of _ (Rd.mem (fun zz=>dh) (.head _)).det<|Run.rd (Rd.mem (fun zz=>cu) (.head _))<|Run.rd (Rd.Ho (p:=fun x=>!decide (x∈[5+a,b])) (.head _) fun t zz=>Rd.seq (Rd.tf (Rd.Fn (.tail _ (.tail _ (.head _))))) (by cases (!decide (t∈[5+a,b])) <;> exact Rd.ret _))<|Run.mk (by rw[bm];unfold ax;lia) fun j=>Run.WQ (.tail _ (.tail _ (.tail _ (.head _)))) (.head _) (by rw[bm];rw[bm];unfold ax;exact ac6 (adW hf 2) (by lia)) fun tI=>Run.perm (abj (l₁:=[(tI,CO.list (bi [5+a,b]++bi (l.filter fun x=>!decide (x∈[5+a,b])))),(j,CO.list (bi (l.filter fun x=>!decide (x∈[5+a,b])))),(r,CO.list (bi l))])) ?_
 rewrite[← eI]
 exact XC (n:=n) (d:=d) (X:=[(tI,CO.list (bi (ef a b l))),(j,CO.list (bi (l.filter fun x=>!decide (x∈[5+a,b])))),(r,CO.list (bi l)),(t1,CO.list (bi [5+a,b]))]++X) ha hb sp hR RT fin (E.sub fun zz h=>aaJ _ h) (.head _) w KK hl (by lia)
end Mine
namespace Mine
open PySem
variable{α β:Type}{K X J:List ap}{Q:PV→List ap→Prop}{n m k x y dI nI at' gI κ bI a b d:Nat}{nums:List Int}{c:eN}{rows bs dl nl kl:List PV}{gs:List Nat}{ps:cj}{τ:Nat→Nat}{rk:Nat→List Nat}{bl:Nat→cj}{bd:kZ}
theorem Run.prm{K':List ap}{m:CM β}{Q:β→List ap→Prop}(h:K.Perm K')(g:Run K' m Q):Run K m Q:=fun F H r l=>g F H (r.perm (h.append_right F)) l
noncomputable def mp(k t:Nat):Nat:=if t<5+k then t else t+3-k
theorem LC(h:a<5+k):mp k a=a:=if_pos h
theorem LB(hk:k<3)(h:¬a<5+k):mp k a+k=a+3:=by
 unfold mp
 rw[if_neg h]
 exact afJ (aa4 (ag5 hk) (adV ..))
theorem Z6(hk:k<3)(e:mp k a=mp k b):a=b:=by
 by_cases ha:a<5+k
 ·rw[LC ha]at e
  by_cases hb:b<5+k
  ·exact e.trans (LC hb)
  ·have:=LB hk hb;lia
 ·have h1:=LB hk ha
  by_cases hb:b<5+k
  ·rw[LC hb]at e;lia
  ·exact Nat.add_right_cancel (h1.symm.trans ((congrArg (·+k) e).trans (LB hk hb)))
theorem ab4{p:List Nat}(hk:k<3)(s:Kz (7+k) 2 1 p)(ne:p≠[]):GP k (p.map (mp k))∧(p.map (mp k)).length≤2:=by
 have sm:∀{c},c<5→c∈p.map (mp k)→c∈p:=fun hc h=>by
  obtain⟨a,h1,h2⟩:=abi.mp h
  by_cases h3:a<5+k
  ·rw[LC h3]at h2;exact h2▸h1
  ·have:=LB hk h3;lia
 refine⟨⟨fun h=>ne (af3.mp h),agC _ (fun a b hab e=>hab (Z6 hk e)) s.nd,fun c hc=>?_,(by rintro⟨h4,h23⟩;exact s.nc ⟨sm (by decide) h4,h23.imp (sm (by decide)) (sm (by decide))⟩)⟩,by rw[aaY];exact s.len⟩
 obtain⟨a,h1,rfl⟩:=abi.mp hc
 have:=s.lt a h1
 unfold NM
 by_cases h3:a<5+k
 ·rw[LC h3];lia
 ·have:=LB hk h3;lia
theorem N6(hk:k<3):∀{us:List Nat} {at':Nat} {K:List ap} {R:List PV→List ap→Prop},(nI,CO.list (nums.map .int))∈K→at'+3*us.length<80000 →
  (∀N rs ps {at2},at2≤at'+3*us.length→As N rs ps→(∀p∈ps,Kz (7+k) 2 1 p∧p≠[])→ps.length=us.length→R (az rs) (dC dI nI at2::(N++K)))→Run (dC dI nI at'::K) (ed (QY (Φ (n+2)) (.ref dI) (.int k)) (bi us)) R:=by
 intro us
 induction us with
 | nil=>exact fun zz zz g=>Run.cl0 (g [] [] [] (aaX _) trivial (fun zz z=>zM z) rfl)
 | cons u us ih =>
  intro at' K R hn ha g
  rw[aaK]at ha
  refine Run.clS<|Run.bh<|Run.bh<|Run.bh<|Run.bh<|Run.of _ (v:=.int ((7+k:Nat):Int)) (Rd.det fun zz zz=>rfl)<|Run.ret<|Run.ret<|PL (n:=n) (c:=7+k) (OG:=2) (lw:=1) hn (by lia) (by decide) (by lia) (by decide) fun r l at2 h2 sp ne=>Run.ret<|Run.prm (.swap ..)<|ih (at':=at2) (.tail _ hn) (by lia) fun N rs ps {at3} h3 A sps len=>?_
  have:=g (N++[(r,.list (bi l))]) (r::rs) (l::ps) (at2:=at3) (by rw[aaK];lia) ⟨aaJ _ (.head _),A.sub fun zz h=>aap _ h⟩ (fun p hp=>(aa2.mp hp).elim (fun e=>e▸⟨sp,ne (aaX _)⟩) (sps p)) (congrArg (·+1) len)
  rw[aaW]at this
  exact this
theorem R3{l:List PV}(hk:k<3):∀{vs:List Nat} {ps:cj} {K:List ap} {R:List PV→List ap→Prop},(gI,CO.list l)∈K→az vs <:+ l→As K vs ps→(∀p∈ps,p.length≤100)→(∀N ws,As N ws (ps.map (·.map (mp k)))→R (az ws) (N++K))→Run K (pZ gI l (QZ (.int k)) (az vs)) R:=by
 intro vs
 induction vs with
 | nil =>
  intro ps K R hg hs a hp g
  obtain rfl:ps=[]:=aaZ a.len.symm
  exact Run.KE hg (g [] [] trivial)
 | cons v vs ih =>
  intro ps K R hg hs a hp g
  obtain _ | ⟨p,ps⟩:=ps
  ·exact a.elim
  have hp1:=hp p (.head _)
  refine Run.xV hg hs<|Run.bh<|Run.rd (Rd.mem (fun zz=>dh) a.1)<|Run.rd (Rd.mem (fun zz=>cu) a.1)<|Run.rd (Rd.Qe (τ:=mp k) a.1 fun t ht=>Rd.seq (Rd.seq (Rd.seq (a:=.int ((5+k:Nat):Int)) (fun zz zz=>rfl) fun H zz=>(lt_int ..).trans (by rw[Xb];rfl)) (b:=.int (mp k t:Nat)) ?_) (Rd.ret _))<|Run.mk (by rw[bm];rw[aaY];unfold ax;lia) fun i=>Run.ret<|ih (.tail _ hg) ((abT ..).trans hs) (As.sub (fun zz h=>.tail _ h) a.2) (fun q hq=>hp q (.tail _ hq)) fun N ws A=>?_
  ·unfold mp
   by_cases h:t<5+k
   ·rw[decide_eq_true h];rw[if_pos h]
    exact Rd.yes (Rd.ret _)
   ·rw[decide_eq_false h];rw[if_neg h]
    exact Rd.no (Rd.seq (a:=.int ((t+3:Nat):Int)) (fun zz zz=>rfl) fun H zz=>by show some (PV.int (((t+3:Nat):Int)-(k:Int)),H)=_;rewrite[Int.natCast_sub (by lia)];rfl)
  ·have:=g (N++[(i,.list (bi (p.map (mp k))))]) (i::ws) ⟨aaJ _ (.head _),A.sub fun zz h=>aap _ h⟩
   rw[aaW]at this
   exact this
theorem R6{bv:PV}(R:Rw rows)(m:rows.length+1<ax)(h1:bs.length+1<ax)(h2:dl.length+1<ax)(h3:nl.length+1<ax)(g:∀{ah:List PV} {v:Nat},Rw ah→rows <+: ah→ah.length≤rows.length+1→ah[v]?=some (.tup [.int 10,.int bs.length])→Q (.int v) ((cf c (bs++[bv]) ah++[(c.xX,.list (dl++[.int (-1)])),(c.yl,.list (nl++[.str (S "T")]))])++X)) :
  Run ((cf c bs rows++[(c.xX,.list dl),(c.yl,.list nl)])++X) (Φ (n+2) (S "new_param") [.ref c.tab,.str (S "T"),bv,.int (-1)]) Q:=by
 have ga:∀{K:List ap} {a:Str} {r:Nat},(c.tab,tabObj c)∈K→look a [(S "rows",PV.ref c.rws),(S "index",.ref c.idx),(S "decls",.ref c.dec),(S "bounds",.ref c.NS),(S "defaults",.ref c.xX),(S "names",.ref c.yl),(S "origins",.ref c.org),(S "renamed",.ref c.ren),(S "shaping",.int 0),(S "putting",.int 0)]=some (.ref r)→Rd K (ar (.ref c.tab) a) (.ref r):=fun hm h=>Rd.mem (o:=tabObj c) (fun zz e=>gR e h) hm
 refine Run.eq (Iv ..)<|Run.rd (Rd.seq (Rd.seq (ga (.head _) (r:=c.NS) (by kernel_rfl!)) (Rd.ret _)) (Rd.len (.tail _ (.tail _ (.tail _ (.head _))))))<|Run.det (gP.seq (ga (.head _) (r:=c.NS) (by kernel_rfl!)).det (jB 3 rfl h1))<|Run.gC<|Run.det (gP.seq (Rd.det (ga (.head _) (r:=c.xX) (by kernel_rfl!))) (jB 4 rfl h2))<|Run.gC<|Run.det (gP.seq (Rd.det (ga (.head _) (r:=c.yl) (by kernel_rfl!))) (jB 5 rfl h3))<|Run.gC<|Run.rd (Rd.mem (o:=tabObj c) (fun zz e=>eR e (by kernel_rfl!) (by kernel_rfl!)) (.head _))<|Run.to (K':=cf c (bs++[bv]) rows++([(c.xX,.list (dl++[.int (-1)])),(c.yl,.list (nl++[.str (S "T")]))]++X)) rfl<|((UX (c:=c) (bs:=bs++[bv]) (n:=n) R (r:=.tup [.int 10,.int bs.length]) ⟨rfl,_,rfl⟩ m).rt _).imp fun zz zz hh=>?_
 obtain⟨zz,e,q⟩:=hh
 induction q with | mk R' p len h=>exact e▸g R' p len h
end Mine
namespace Mine
open PySem
structure S5 where
 bs:List PV
 kl:List PV
 dl:List PV
 nl:List PV
 gs:List Nat
 rk:Nat→List Nat
 bl:Nat→cj
 bd:kZ
 rows:List PV
 τ:Nat→Nat
structure P6(k:Nat)(x:S5)(X:List ap):Prop where
 R:Rw x.rows
 A1:∀i,i<16→∀j:Nat,x.rows[i]?≠some (.tup [.int 10,.int j])
 num:x.rows.length≤100+200*k
 KK:KL x.rows x.kl k x.τ
 kn:x.kl.length=10
 gn:x.gs.length=k
 bn:x.bs.length=k
 dn:x.dl.length=k
 nn:x.nl.length=k
 gA:∀j,j<k→∃g,x.gs[j]?=some g∧(g,CO.list (az (x.rk j)))∈X∧As X (x.rk j) (x.bl j)
 B:Kv x.bl
 S:Hg x.bl x.bd
 em:∀j,k≤j→x.bl j=[]
 S8:∀j,j<k→∃b:Int,x.bs[j]?=some (.int b)∧((b<0∧x.bd (5+j)=[[]])∨∃t:Nat,b=t∧t≠0∧Ty x.rows t (x.bd (5+j)))
variable{α β:Type}{K X J:List ap}{Q:PV→List ap→Prop}{n m k dI nI at' gI κ bI a b d:Nat}{nums:List Int}{c:eN}{x:S5}
theorem P6.sub{X':List ap}(h:X⊆X')(B:P6 k x X):P6 k x X':=⟨B.R,B.A1,B.num,B.KK,B.kn,B.gn,B.bn,B.dn,B.nn,fun j hj=>(B.gA j hj).imp fun zz z=>⟨z.1,h z.2.1,z.2.2.sub h⟩,B.B,B.S,B.em,B.S8⟩
noncomputable def yF{α:Type}(k:Nat)(v:α)(f:Nat→α):Nat→α:=fun j=>if j=k then v else f j
theorem iW{α:Type}(k:Nat)(v:α)(f:Nat→α):yF k v f k=v:=if_pos rfl
theorem iG{α:Type}{k j:Nat}(h:j≠k)(v:α)(f:Nat→α):yF k v f j=f j:=if_neg h
noncomputable def S5.next(x:S5)(k:Nat)(b:Int)(v g:Nat)(us:List Nat)(ps dt:cj)(ah:List PV):S5:=⟨x.bs++[.int b],x.kl.set (5+k) (.int v),x.dl++[.int (-1)],x.nl++[.str (S "T")],x.gs++[g],yF k us x.rk,yF k ps x.bl,yF (5+k) dt x.bd,ah,yF (5+k) v x.τ⟩
theorem Lh{α:Type}{l:List α}{n:Nat}(h:l.length=n)(a:α):(l++[a])[n]?=some a:=by
 rw[abE (adT h)];rw[h];rw[ads]
 rfl
theorem Qq{α:Type}{l:List α}{j:Nat}{v:α}(a:α)(h:l[j]?=some v):(l++[a])[j]?=some v:=(ac3 (aa9.mp h).1).trans h
theorem P6.next(hk:k<3)(B:P6 k x X){bv:Int}{v g:Nat}{us:List Nat}{ps dt:cj}{ah:List PV}(R':Rw ah)(p:x.rows <+: ah)(len:ah.length≤x.rows.length+200)(hv:ah[v]?=some (.tup [.int 10,.int k]))(hg:(g,CO.list (az us))∈X)(A:As X us ps)(gp:∀p∈ps,GP k p∧p.length≤2)(num:ps.length≤if k=0 then 2 else 1)
  (h:(ps=[]∧bv<0∧dt=[[]])∨(ps≠[]∧∃t:Nat,bv=t∧t≠0∧Ty ah t dt∧GK ps dt)):P6 (k+1) (x.next k bv v g us ps dt ah) X:=by
 have A1:∀i,i<16→∀j:Nat,ah[i]?≠some (.tup [.int 10,.int j]):=fun i hi j e=>by
  obtain⟨z,rfl⟩:=p
  have:=B.R.base.len
  rw[ac3 (by lia)]at e
  exact B.A1 i hi j e
 have tk:∀j,j<3→dy (5+j)=.tup [.int 10,.int j]:=fun j hj=>by
  obtain rfl | rfl | rfl:j=0∨j=1∨j=2:=by lia
  ·rfl
  ·rfl
  ·rfl
 have thv:Th ah v (5+k):=⟨by lia,by rw[tk k hk];exact hv,.inr (.inr (Nat.le_of_not_lt fun h=>A1 v h k hv)),fun h=>by lia,fun h=>by lia⟩
 have kn:=B.kn
 refine⟨R',A1,?_,fun y hy=>?_,(adj ..).trans kn,?_,?_,?_,?_,fun j hj=>?_,⟨fun j hj q hq=>?_,fun j hj q hq=>?_,?_,?_,?_⟩,fun j hj=>?_,fun j hj=>?_,fun j hj=>?_⟩
 ·have:=B.num
  show ah.length≤_
  lia
 ·by_cases e:y=5+k
  ·subst e
   exact⟨by show(x.kl.set (5+k) _)[5+k]?=some (.int ((yF (5+k) v x.τ (5+k):Nat):Int));rw[iW];rewrite[afi (by lia)];rfl,by show Th ah (yF (5+k) v x.τ (5+k)) _;rw[iW];exact thv⟩
  ·have z:=B.KK y ⟨hy.1,by have:=hy.2;lia⟩
   exact⟨by show(x.kl.set (5+k) _)[y]?=some (.int ((yF (5+k) v x.τ y:Nat):Int));rewrite[iG e];rw[aeN (Ne.symm e)];exact z.1,by show Th ah (yF (5+k) v x.τ y) _;rewrite[iG e];exact z.2.pre p⟩
 ·exact(aaA ..).trans (congrArg (·+1) B.gn)
 ·exact(aaA ..).trans (congrArg (·+1) B.bn)
 ·exact(aaA ..).trans (congrArg (·+1) B.dn)
 ·exact(aaA ..).trans (congrArg (·+1) B.nn)
 ·show ∃g',(x.gs++[g])[j]?=some g'∧(g',CO.list (az (yF k us x.rk j)))∈X∧As X (yF k us x.rk j) (yF k ps x.bl j)
  by_cases e:j=k
  ·subst e
   rw[iW];rw[iW]
   exact⟨g,Lh B.gn g,hg,A⟩
  ·rewrite[iG e,iG e]
   exact(B.gA j (by lia)).imp fun zz z=>⟨Qq g z.1,z.2⟩
 ·have hq:q∈yF k ps x.bl j:=hq
  by_cases e:j=k
  ·subst e
   rw[iW]at hq
   exact(gp q hq).1
  ·rw[iG e]at hq
   exact B.B.gp j hj q hq
 ·have hq:q∈yF k ps x.bl j:=hq
  by_cases e:j=k
  ·subst e
   rw[iW]at hq
   exact(gp q hq).2
  ·rw[iG e]at hq
   exact B.B.two j hj q hq
 ·show(yF k ps x.bl 0).length≤2
  by_cases e:0=k
  ·subst e;rw[iW];exact num
  ·rewrite[iG e];exact B.B.n0
 ·show(yF k ps x.bl 1).length≤1
  by_cases e:1=k
  ·subst e;rw[iW];exact num
  ·rewrite[iG e];exact B.B.n1
 ·show(yF k ps x.bl 2).length≤1
  by_cases e:2=k
  ·subst e;rw[iW];exact num
  ·rewrite[iG e];exact B.B.n2
 ·show(yF k ps x.bl j=[]→yF (5+k) dt x.bd (5+j)=[[]])∧(yF k ps x.bl j≠[]→GK (yF k ps x.bl j) (yF (5+k) dt x.bd (5+j)))
  by_cases e:j=k
  ·subst e
   rw[iW];rw[iW]
   exact h.elim (fun h=>⟨fun zz=>h.2.2,fun n=>absurd h.1 n⟩) (by rintro⟨n,_,_,_,_,g⟩;exact⟨fun z=>absurd z n,fun zz=>g⟩)
  ·rewrite[iG e,iG (by lia)]
   exact B.S j hj
 ·show yF k ps x.bl j=[]
  rewrite[iG (by lia)]
  exact B.em j (by lia)
 ·show ∃b:Int,(x.bs++[.int bv])[j]?=some (.int b)∧((b<0∧yF (5+k) dt x.bd (5+j)=[[]])∨∃t:Nat,b=t∧t≠0∧Ty ah t (yF (5+k) dt x.bd (5+j)))
  by_cases e:j=k
  ·subst e
   rw[iW]
   exact⟨bv,Lh B.bn _,h.imp (fun h=>h.2) (by rintro⟨_,t,a,b,c,_⟩;exact⟨t,a,b,c⟩)⟩
  ·rewrite[iG (by lia)]
   exact(B.S8 j (by lia)).imp fun zz z=>⟨Qq _ z.1,z.2.imp_right (by rintro⟨t,a,b,c⟩;exact⟨t,a,b,c.pre p⟩)⟩
end Mine
namespace Mine
open PySem
variable{α β:Type}{K X J:List ap}{Q:PV→List ap→Prop}{n m k dI nI at' gI κ bI a b d v g:Nat}{us:List Nat}{ps dt:cj}{nums:List Int}{c:eN}{x:S5}{ah:List PV}
noncomputable def S7(c:eN)(κ bI dI nI at':Nat)(x:S5)(Y:List ap):List ap:=dC dI nI at'::((cf c x.bs x.rows++[(c.xX,.list x.dl),(c.yl,.list x.nl)])++([(κ,.list x.kl),(bI,.list (az x.gs))]++Y))
theorem Tv(N Y:List ap):(N++S7 c κ bI dI nI at' x Y).Perm (S7 c κ bI dI nI at' x (N++Y)) :=
 abj.trans (.cons _ ((afA ..).trans (.append_left _ (afA ..))))
theorem Hm{ck:Option PV→Option PV→Option PV→CM PV}{bv:Int}{Tg x13:PV}(hk:k<3)(B:P6 k x X){yB:List PV}(R1:Rw yB)(p1:x.rows <+: yB)(len:yB.length≤x.rows.length+199)(hg:(g,CO.list (az us))∈X)(A:As X us ps)(gp:∀p∈ps,GP k p∧p.length≤2)(num:ps.length≤if k=0 then 2 else 1)
  (h:(ps=[]∧bv<0∧dt=[[]])∨(ps≠[]∧∃t:Nat,bv=t∧t≠0∧Ty yB t dt∧GK ps dt))
  (go:∀{x':S5},P6 (k+1) x' X→Run (S7 c κ bI dI nI at' x' (X++J)) (ck (some (.int k)) (some Tg) (some x13)) Q) :
  Run (S7 c κ bI dI nI at' { x with rows:=yB,gs:=x.gs++[g] } (X++J)) (aa (Φ (n+200) (S "new_param") (.ref c.tab::((.str (S "T"))::[.int bv,.int (-1)]))) (Mv (.ref κ) (.int k) ck Tg x13)) Q:=by
 have nm:=B.num
 refine Run.perm abj.symm<|Run.bh<|Run.out<|R6 (n:=n+198) R1 (by unfold ax;lia) (by rw[B.bn];unfold ax;lia) (by rw[B.dn];unfold ax;lia) (by rw[B.nn];unfold ax;lia) fun{Y3 v} R2 p2 ahd hv=>⟨_,abj,?_⟩
 refine Run.rd (a:=.int ((5+k:Nat):Int)) (fun zz zz=>rfl)<|Run.det (gP.cell (o':=.list (x.kl.set (5+k) (.int v))) (fun zz e h=>jm e (by rw[B.kn];lia) h) 7 rfl)<|go (B.next hk R2 (p1.trans p2) (by lia) (B.bn▸hv) hg A gp num (h.imp_right (by rintro⟨z,t,e,t0,ty,gk⟩;exact⟨z,t,e,t0,ty.pre p2,gk⟩)))
theorem W0{ck:Option PV→Option PV→Option PV→CM PV}(hk:k<3)(B:P6 k x X)(hn:(nI,CO.list (nums.map .int))∈X)(ha:at'<1000)
  (go:∀{x':S5} {X':List ap} {at2:Nat} {b9 b11 b13},X⊆X'→at2≤at'+10→P6 (k+1) x' X'→Run (S7 c κ bI dI nI at2 x' (X'++J)) (ck b9 b11 b13) Q) :
  Run (S7 c κ bI dI nI at' x (X++J)) (Mw (Φ (n+200)) (.ref dI) (.ref c.tab) (.ref κ) (.ref bI) (.int k) ck) Q:=by
 have nm:=B.num
 have up:∀{z},z∈X→z∈(cf c x.bs x.rows++[(c.xX,.list x.dl),(c.yl,.list x.nl)])++([(κ,.list x.kl),(bI,.list (az x.gs))]++(X++J)):=fun h=>aaJ _ (aaJ _ (aap _ h))
 have cnt:∀{K:List ap},Rd K (aa (ae .Eq (.int k) (.int 0)) fun b86=>af b86 (ret (PV.int 3)) (ret (PV.int 2))) (.int ((if k=0 then 3 else 2:Nat):Int)):=by
  by_cases z:k=0
  ·subst z
   exact Rd.seq (Rd.gL (b:=true) rfl) (Rd.yes (Rd.ret _))
  ·rw[if_neg z]
   exact Rd.seq (Rd.gL (b:=false) (fU (by lia))) (Rd.no (Rd.ret _))
 have lt3:0<(if k=0 then 3 else 2)∧(if k=0 then 3 else 2)≤3:=by split <;> decide
 refine Run.bh<|Run.bh<|Run.bh<|Run.bh<|Run.bh<|Run.rd cnt<|Run.ret<|Run.ret<|mF (n:=n+199) (up hn) lt3.1 (by lia) fun t ht=>Run.of _ (Rd.det fun H zz=>fJ (by lia) H)<|Run.clN<|N6 (n:=n+198) hk (up hn) (by rw[ac5];lia) fun N rs ps {at2} h2 A sp len=>?_
 rw[ac5]at h2 len
 have rl:=A.len
 refine Run.mk (by unfold az;rw[aaY];unfold ax;lia) fun g1=>Run.perm (afz _ abj.symm)<|Run.perm (K':=S7 c κ bI dI nI at2 x (((g1,.list (az rs))::(N++X))++J)) ((Tv ((g1,.list (az rs))::N) (X++J)).trans (by rewrite[show(g1,CO.list (az rs))::(N++X)++J=(g1,CO.list (az rs))::N++(X++J)from congrArg (_::·) (aaW ..)];rfl)) ?_
 have B2:P6 k x ((g1,.list (az rs))::(N++X)):=B.sub fun zz h=>.tail _ (aaJ _ h)
 have A2:As ((g1,.list (az rs))::(N++X)) rs ps:=A.sub fun zz h=>.tail _ (aap _ h)
 have hX:X⊆(g1,.list (az rs))::(N++X):=fun zz h=>.tail _ (aaJ _ h)
 have h1:(g1,CO.list (az rs))∈(g1,.list (az rs))::(N++X):=.head _
 generalize (g1,CO.list (az rs))::(N++X)=X2 at B2 A2 hX h1
 have up2:∀{z},z∈X2→z∈S7 c κ bI dI nI at2 x (X2++J):=fun h=>.tail _ (aaJ _ (aaJ _ (aap _ h)))
 refine Run.bh<|Run.Ik (up2 h1)<|R3 hk (up2 h1) (acf _) (A2.sub fun zz h=>up2 h) (fun p hp=>aa4 (sp p hp).1.len (by decide)) fun N2 ws A3=>?_
 have wl:=A3.len
 rw[aaY]at wl
 refine Run.mk (by unfold az;rw[aaY];unfold ax;lia) fun g2=>Run.perm (K':=S7 c κ bI dI nI at2 x (((g2,.list (az ws))::(N2++X2))++J)) ((Tv ((g2,.list (az ws))::N2) (X2++J)).trans (by rewrite[show(g2,CO.list (az ws))::(N2++X2)++J=(g2,CO.list (az ws))::N2++(X2++J)from congrArg (_::·) (aaW ..)];rfl)) ?_
 have B3:P6 k x ((g2,.list (az ws))::(N2++X2)):=B2.sub fun zz h=>.tail _ (aaJ _ h)
 have A4:As ((g2,.list (az ws))::(N2++X2)) ws (ps.map (·.map (mp k))):=A3.sub fun zz h=>.tail _ (aap _ h)
 have hX2:X⊆(g2,.list (az ws))::(N2++X2):=fun zz h=>.tail _ (aaJ _ (hX h))
 have WG:(g2,CO.list (az ws))∈(g2,.list (az ws))::(N2++X2):=.head _
 generalize (g2,CO.list (az ws))::(N2++X2)=X3 at B3 A4 hX2 WG
 have gp:∀p∈ps.map (·.map (mp k)),GP k p∧p.length≤2:=fun p hp=>by
  obtain⟨q,hq,rfl⟩:=abi.mp hp
  exact ab4 hk (sp q hq).1 (sp q hq).2
 have num:(ps.map (·.map (mp k))).length≤if k=0 then 2 else 1:=by
  rw[aaY];rw[len]
  split at ht <;> (rename_i z;first | rw[if_pos z] | rw[if_neg z]) <;> lia
 have aeD:(ps.map (·.map (mp k))).length≤2:=by split at num <;> lia
 have gsl:=B.gn
 have up3:∀{z},z∈X3→z∈S7 c κ bI dI nI at2 { x with gs:=x.gs++[g2] } (X3++J):=fun h=>.tail _ (aaJ _ (aaJ _ (aap _ h)))
 refine Run.det (gP.to (jB 8 rfl (by unfold az;rw[aaY];unfold ax;lia)) (NP:=S7 c κ bI dI nI at2 { x with gs:=x.gs++[g2] } (X3++J)) (by rewrite[← HT];rfl))<|Run.gC<|Run.bh<|Run.rd (a:=decide (0<ps.length)) (Rd.seq (Rd.len (up3 WG)) fun H zz=>by rw[show(az ws).length=ps.length by unfold az;rw[aaY];rw[wl];rfl];rewrite[← Xb];rfl) ?_
 by_cases z:0<ps.length
 ·rw[decide_eq_true z]
  refine Run.yes<|Run.perm (K':=cf c x.bs x.rows++(dC dI nI at2::([(c.xX,CO.list x.dl),(c.yl,CO.list x.nl)]++([(κ,CO.list x.kl),(bI,CO.list (az (x.gs++[g2])))]++(X3++J))))) (abj (l₁:=cf c x.bs x.rows) (l₂:=[(c.xX,CO.list x.dl),(c.yl,CO.list x.nl)]++([(κ,CO.list x.kl),(bI,CO.list (az (x.gs++[g2])))]++(X3++J)))).symm<|Run.out<|Ut (n:=n+191) B3.R (by unfold ax;lia) (.tail _ (.tail _ (.tail _ (.head _)))) B3.KK (.tail _ (aaJ _ (aaJ _ (aap _ WG)))) (A4.sub fun zz h=>.tail _ (aaJ _ (aaJ _ (aap _ h)))) (fun p hp=>(gp p hp).1) aeD fun{yB v dt} R1 p1 ahc ty gk=>⟨_,abj,Hm (n:=n) hk B3 R1 p1 (by lia) WG A4 gp num (.inr ⟨fun e=>by rw[af3]at e;rw[e]at z;exact absurd z (aeM _),v,rfl,fun e=>?_,ty,gk⟩) fun B'=>go hX2 (by lia) B'⟩
  have:=ty.A1
  unfold E6 at this
  lia
 ·rw[decide_eq_false z]
  obtain rfl:ps=[]:=aaZ (by lia)
  exact Run.no<|Run.ret<|Hm (n:=n) (yB:=x.rows) (dt:=[[]]) hk B3 B3.R (abg _) (acR ..) WG A4 gp num (.inl ⟨rfl,by decide,rfl⟩) fun B'=>go hX2 (by lia) B'
end Mine
namespace Mine
open PySem
variable{K X:List ap}{Q:PV→List ap→Prop}{n m k dI nI at' κ bI i j:Nat}{nums:List Int}{c:eN}{h:pY}{x:S5}{yp:PV}{o6 o7 o9 Cp yX:Option PV}
noncomputable def Ls(c:eN)(h:pY)(bs:List PV)(bd:kZ):Ctx:={ c:=c,h:=h,bs:=bs,bd:=bd,R:=1000000,P:=fun r ds dt=>(r=true→ej bd ds dt)∧(r=false→¬(Good bd ds dt∧ej bd ds dt)∧¬(ds=[[3]]∧dt=[[2]])) }
noncomputable def Ro(jW:Nat):ey:=⟨jW,0,0,.none,[],[],[]⟩
noncomputable def V3(c:eN)(h:pY)(jW:Nat):List ap:=SJ (Ls c h [] fun zz=>[[]]) (Ro jW)
noncomputable def rb(c:eN)(rel κ bI:Nat)(ps nI dI:PV)(o6 o7 o9 Cp yX:Option PV):bg:=[some ps,some nI,some dI,some (.ref c.tab),some (.ref rel),some (.ref κ),o6,o7,some (.ref bI),o9,none,Cp,none,yX,none,none,none,none,none,none,none,none,none,none,none,none,none,none,none,none,none,none,none,none,none,none,none,none,none,none,none,none,none,none,none,none]
theorem KC{jW:Nat}(hm:h.mode=1∨h.mode=4)(fin:∀K',Q (.bool true) K'):∀{j i at':Nat} {x:S5} {X:List ap} {o9 Cp yX:Option PV},i+j=3→P6 i x X→(nI,CO.list (nums.map .int))∈X→at'+10*j<800 →
  Run (S7 c κ bI dI nI at' x (X++V3 c h jW)) (gH (Dq (Φ (n+200))) (bi (adR i j)) (rb c h.rel κ bI yp (.ref nI) (.ref dI) o6 o7 o9 Cp yX) (Dx (Φ (n+200)))) Q:=by
 intro j
 induction j with
 | zero =>
  intro i at' x X o9 Cp yX e B hn ha
  obtain rfl:i=3:=e
  have nm:=B.num
  have W:Lw (Ls c h x.bs x.bd) (300000+61000) 0 x.rows (Ro jW) none:=⟨⟨B.R,B.S8,by show _≤1000000+_;lia,rfl,.nil,(fun zz z=>zM z),(fun zz z=>zM z),aaX _,(fun zz zz z=>du z)⟩,rfl,rfl,rfl⟩
  have E:Ze (Ls c h x.bs x.bd) ([(c.xX,CO.list x.dl),(c.yl,.list x.nl)]++([(κ,CO.list x.kl),(bI,.list (az x.gs))]++X)) κ bI nI nums x.kl x.gs x.rk x.bl:=⟨⟨⟨WX B.B B.S,by show 1000000≤5000000;decide⟩,hm,fun zz zz zz=>Iff.rfl⟩,.tail _ (.tail _ (.head _)),.tail _ (.tail _ (.tail _ (.head _))),.tail _ (.tail _ (.tail _ (.tail _ hn))),A3.sub (fun zz h=>.tail _ (.tail _ (.tail _ (.tail _ h)))) ⟨B.gA⟩,B.B,B.S⟩
  refine Run.eq (O9 ..)<|Run.perm (K':=dC dI nI at'::(([(c.xX,CO.list x.dl),(c.yl,.list x.nl)]++([(κ,CO.list x.kl),(bI,.list (az x.gs))]++X))++eb (Ls c h x.bs x.bd) x.rows (Ro jW) none)) (.cons _ ?_) (Xh (n:=n) (d:=300000) rfl (aaX _) fin E W B.KK rfl (by lia))
  rewrite[show([(c.xX,CO.list x.dl),(c.yl,.list x.nl)]++([(κ,CO.list x.kl),(bI,.list (az x.gs))]++X))++eb (Ls c h x.bs x.bd) x.rows (Ro jW) none=([(c.xX,CO.list x.dl),(c.yl,.list x.nl)]++([(κ,CO.list x.kl),(bI,.list (az x.gs))]++(X++V3 c h jW)))++cf c x.bs x.rows from congrArg (fun l=>_::_::_::_::l) (aaW X (V3 c h jW) _).symm]
  rewrite[aaW (cf c x.bs x.rows)]
  exact afp
 | succ j ih =>
  intro i at' x X o9 Cp yX e B hn ha
  exact Run.eq (O3 ..)<|W0 (n:=n) (by lia) B hn (by lia) fun s h2 B'=>ih (by lia) B' (s hn) (by lia)
end Mine
namespace Mine
open PySem
variable{α β:Type}{K X Y:List ap}{Q:PV→List ap→Prop}{n m k i j:Nat}{c:eN}{rows bs:List PV}{r:PV}
theorem YZ(ok:∀r∈rows,gx r)(sL:rows.Nodup)(hr:gx r)(nm:r∉rows)(m:rows.length+1<ax)(q:Q (.int rows.length) (cf c bs (rows++[r])++Y)):Run (cf c bs rows++Y) (Φ (n+1) (S "TypeTable.put") [.ref c.tab,r]) Q:=by
 intro F H rp l
 have rs:=rp.sub ((adn (cf c bs rows) Y).trans (adn _ F))
 have T:Tb c H rows bs:=⟨rs.1,(rs.2.2 _ (.head _)).2,(rs.2.2 _ (.tail _ (.head _))).2,(rs.2.2 _ (.tail _ (.tail _ (.head _)))).2,(rs.2.2 _ (.tail _ (.tail _ (.tail _ (.head _))))).2,ok,sL⟩
 have T':=T.more (sJ rs) hr nm
 exact⟨_,_,_,QR (sJ rs) T hr nm m,(rp.setAt 1 rfl).setAt 2 rfl,by unfold pW;rw[adj];rw[adj];exact l,q⟩
theorem Run.adU{z:Int}{x:CM PV}(h:Run K x Q):Run K (Mine.gC (.int z) x) Q:=h
noncomputable def fQ:List PV:=[.tup [.int 1,.str (S "any")],.tup [.int 1,.str (S "unknown")],.tup [.int 1,.str (S "never")],.tup [.int 1,.str (S "void")],.tup [.int 1,.str (S "undefined")],.tup [.int 1,.str (S "null")],.tup [.int 1,.str (S "string")],.tup [.int 1,.str (S "number")],.tup [.int 2,.int 0,.int 0],.tup [.int 2,.int 1,.int 0],.tup [.int 1,.str (S "object")],.tup [.int 8,.tup [],.tup [],.tup [],.tup [],.tup [],.int 0],.tup [.int 6,.tup [.int 8,.int 9]],.tup [.int 1,.str (S "error")],.tup [.int 2,.int 0,.int 1],.tup [.int 2,.int 1,.int 1]]
theorem WM:G "FIRST_ROWS" = .tup fQ:=by kernel_rfl!
noncomputable def BZ(r:PV):List PV→Bool
 | []=>true
 | x::l=>match gw x r with
  | true=>false
  | false=>BZ r l
theorem B0:∀{l:List PV},(∀x∈l,gx x)→BZ r l=true→r∉l
 | x::l,ok,h,hm=>by
  unfold BZ at h
  generalize e:gw x r=zq;induction zq with
  | true=>rw[e]at h;exact fS h
  | false =>
   rw[e]at h
   rcases aa2.mp hm with rfl | hm
   ·rw[(lX 6 r r (ok r (.head _)).1).mpr rfl]at e
    exact rr e
   ·exact B0 (fun y hy=>ok y (.tail _ hy)) h hm
noncomputable def SM(r:PV):Bool:=match r with
 | .tup _=>fN r
 | _=>false
theorem Q2(h:SM r=true):gx r:=by
 unfold SM at h
 split at h
 ·exact⟨h,_,rfl⟩
 ·exact fS h
noncomputable def fresh:List PV→List PV→Bool
 | _,[]=>true
 | rows,r::l=>match BZ r rows&&SM r with
  | true=>fresh (rows++[r]) l
  | false=>false
theorem Yg(ok:∀r∈rows,gx r)(hr:gx r):∀x∈rows++[r],gx x:=fun x hx=>(aa7.mp hx).elim (ok x) fun h=>aad.mp h▸hr
theorem Wc(sL:rows.Nodup)(nm:r∉rows):(rows++[r]).Nodup:=acL.mpr ⟨sL,acS _ _,fun a ha b hb e=>nm (aad.mp hb▸e▸ha)⟩
theorem K9:∀{l rows:List PV} {o1:Option PV},(∀r∈rows,gx r)→rows.Nodup→fresh rows l=true→rows.length+l.length<1000→Q .none (cf c [] (rows++l)++Y)→Run (cf c [] rows++Y) (gH (fY (Φ (n+1))) l [some (.ref c.tab),o1,none] fZ) Q:=by
 intro l
 induction l with
 | nil =>
  intro rows o1 ok sL f hn q
  rw[abF]at q
  exact Run.eq (ma ..) (Run.ret q)
 | cons r l ih =>
  intro rows o1 ok sL f hn q
  rw[aaK]at hn
  dsimp only[fresh]at f
  generalize e:(BZ r rows&&SM r)=zq;induction zq with
  | false=>rw[e]at f;exact fS f
  | true =>
   rw[e]at f
   rw[ade]at e
   have nm:=B0 ok e.1
   have hr:=Q2 e.2
   exact Run.eq (lZ ..)<|Run.bh<|Run.rd (Rd.mem (o:=tabObj c) (fun zz e=>eR e (by kernel_rfl!) (by kernel_rfl!)) (.head _))<|YZ ok sL hr nm (by unfold ax;lia)<|Run.adU<|ih (Yg ok hr) (Wc sL nm) f (by rw[aaA];rw[abf];lia) (by rw[aaW];exact q)
theorem Wh(g:∀c,Q (.ref c.tab) (cf c [] fQ++([(c.xX,.list []),(c.yl,.list [])]++K))):Run K (jz (Φ (n+2)) (S "TypeTable") [] (some (some (S "TypeTable.__init__")))) Q:=by
 refine Run.make fun tab=>Run.eq (qa ..)<|Run.new fun rws=>Run.fld 1 rfl (by kernel_rfl!) (by kernel_rfl!)<|Run.new fun ix=>Run.fld 2 rfl (by kernel_rfl!) (by kernel_rfl!)<|Run.new fun dec=>Run.fld 3 rfl (by kernel_rfl!) (by kernel_rfl!)<|Run.new fun NS=>Run.fld 4 rfl (by kernel_rfl!) (by kernel_rfl!)<|Run.new fun xX=>Run.fld 5 rfl (by kernel_rfl!) (by kernel_rfl!)<|Run.new fun yl=>Run.fld 6 rfl (by kernel_rfl!) (by kernel_rfl!)<|Run.new fun org=>Run.fld 7 rfl (by kernel_rfl!) (by kernel_rfl!)<|Run.new fun ren=>Run.fld 8 rfl (by kernel_rfl!) (by kernel_rfl!)<|Run.fld 8 rfl (by kernel_rfl!) (by kernel_rfl!)<|Run.fld 8 rfl (by kernel_rfl!) (by kernel_rfl!) ?_
 let c:eN:=⟨tab,rws,ix,dec,NS,xX,yl,org,ren⟩
 refine Run.to (K':=[(ren,.dict []),(org,.dict []),(yl,.list []),(xX,.list []),(NS,.list []),(dec,.list [.none]),(ix,.dict []),(rws,.list []),(tab,tabObj c)]++K) (by kernel_rfl!)<|Run.sub (.cons _ (.cons _ (.cons₂ _ (.cons₂ _ (.cons₂ _ (.cons _ (.refl _)))))))<|Run.perm (K':=cf c [] []++([(xX,CO.list []),(yl,CO.list [])]++K)) ((List.reverse_perm [(yl,CO.list []),(xX,CO.list []),(NS,CO.list []),(ix,CO.dict []),(rws,CO.list []),(tab,tabObj c)]).symm.append_right K)<|Run.rd (a:=It.snap fQ) (fun H zz=>by rw[WM];rfl)<|Run.rd (fun H zz=>bz _ H)<|Run.eq (ch ..)<|K9 (c:=c) (rows:=[]) (fun zz z=>zM z) .nil (by kernel_rfl!) (show 0+16<1000 by decide) ⟨rfl,g c⟩
end Mine
namespace Mine
open PySem
variable{α β:Type}{K X Y W Z:List ap}{Q:PV→List ap→Prop}{n m k i j κ:Nat}{c:eN}{rows bs l:List PV}{r v:PV}
noncomputable def We:PV:=.tup [.int 3,.str (S "a"),.int 0]
noncomputable def UQ:PV:=.tup [.int 4,.int 1,.int 0]
noncomputable def Bp(k:Nat):PV:=.tup [.int 11,.int k,.int 0]
noncomputable def V4:List PV:=fQ++[We]++[Bp 16]
noncomputable def EN:List PV:=V4++[UQ]++[Bp 18]
noncomputable def pD:List PV:=EN++[gJ (S "v")]++[gJ (S "w")]
noncomputable def nZ:List PV→Bool
 | []=>true
 | r::l=>match SM r with
  | true=>nZ l
  | false=>false
theorem pG:∀{l:List PV},nZ l=true→∀r∈l,gx r
 | x::l,h,r,hr=>by
  dsimp only[nZ]at h
  generalize e:SM x=zq;induction zq with
  | false=>rw[e]at h;exact fS h
  | true =>
   rw[e]at h
   exact(aa2.mp hr).elim (fun z=>z▸Q2 e) (pG h r)
noncomputable def LH:List PV→Bool
 | []=>true
 | r::l=>match BZ r l with
  | true=>LH l
  | false=>false
theorem A6:∀{l:List PV},(∀r∈l,gx r)→LH l=true→l.Nodup
 | [],_,_=>.nil
 | x::l,ok,h=>by
  unfold LH at h
  generalize e:BZ x l=zq;induction zq with
  | false=>rw[e]at h;exact fS h
  | true =>
   rw[e]at h
   exact abU.mpr ⟨B0 (fun y hy=>ok y (.tail _ hy)) e,A6 (fun y hy=>ok y (.tail _ hy)) h⟩
theorem UW(a:nZ (rows++[r])=true)(b:LH (rows++[r])=true)(hl:afh (rows.length+2) ax=true)(hn:rows.length=k)(q:Q (.int k) (cf c bs (rows++[r])++Y)):Run (cf c bs rows++Y) (Φ (n+1) (S "TypeTable.put") [.ref c.tab,r]) Q:=by
 have ok:=pG a
 have nd:=acL.mp (A6 ok b)
 exact YZ (fun x hx=>ok x (aap _ hx)) nd.1 (ok r (aaJ _ (.head _))) (fun h=>nd.2.2 r h r (.head _) rfl) (acT hl) (hn▸q)
theorem ack(a:nZ rows=true)(b:LH rows=true){t:Nat}(e:rows[t]?=some r)(q:Q (.int t) (cf c bs rows++Y)):Run (cf c bs rows++Y) (Φ (n+1) (S "TypeTable.put") [.ref c.tab,r]) Q:=by
 intro F H rp l
 have rs:=rp.sub ((adn (cf c bs rows) Y).trans (adn _ F))
 have ok:=pG a
 exact⟨_,_,_,QS (sJ rs) ⟨rs.1,(rs.2.2 _ (.head _)).2,(rs.2.2 _ (.tail _ (.head _))).2,(rs.2.2 _ (.tail _ (.tail _ (.head _)))).2,(rs.2.2 _ (.tail _ (.tail _ (.tail _ (.head _))))).2,ok,A6 ok b⟩ e,rp,l,q⟩
theorem Rd.XH:Rd (cf c bs rows++Y) (au ai (.ref c.tab) (S "put")) (.fn (S "TypeTable.put")):=Rd.mem (o:=tabObj c) (fun zz e=>eR e (by kernel_rfl!) (by kernel_rfl!)) (.head _)
theorem YB{ck:Option PV→CM PV}(a1:nZ (rows++[r])=true)(b1:LH (rows++[r])=true)(a2:nZ (rows++[r]++[Bp k])=true)(b2:LH (rows++[r]++[Bp k])=true)(hl:afh (rows.length+3) ax=true)(hn:rows.length=k)(ll:l.length+1<ax)(g:Run (cf c bs (rows++[r]++[Bp k])++((κ,.list (l++[.int (k+1:Nat)]))::W)) (ck (some r)) Q) :
  Run (cf c bs rows++((κ,.list l)::W)) (QV (Φ (n+1)) (.ref c.tab) (.ref κ) r ck) Q:=by
 have Ll:=acT hl
 refine Run.bh<|Run.rd (Rd.mem (fun zz=>ez) (.tail _ (.tail _ (.tail _ (.tail _ (.head _))))))<|Run.bh<|Run.bh<|Run.rd Rd.XH<|Run.bh<|Run.bh<|Run.bh<|Run.bh<|Run.bh<|Run.rd Rd.XH<|UW a1 b1 (ad6 (by lia)) hn<|Run.ret<|Run.ret<|Run.tup (show 3≤100 by decide)<|Run.ret<|UW a2 b2 (ad6 (by rw[aaA];exact Ll)) (by rw[aaA];exact congrArg (·+1) hn)<|Run.ret<|Run.of _ (gP.cell (o':=.list (l++[.int (k+1:Nat)])) (fun zz e h=>iM e ll h) 4 rfl)<|Run.gC g
theorem YU{ck:Option PV→CM PV}{x:Str}(a1:nZ (rows++[gJ x])=true)(b1:LH (rows++[gJ x])=true)(hl:afh (rows.length+2) ax=true)(hn:rows.length=k)(ll:l.length+1<ax)(h3:l[3]?=some (.int 16))(g:Run (cf c bs (rows++[gJ x])++((κ,.list (l++[.int (k:Nat)]))::W)) (ck (some (.str x))) Q) :
  Run (cf c bs rows++((κ,.list l)::W)) (QX (Φ (n+1)) (.ref c.tab) (.ref κ) (.str x) ck) Q:=by
 refine Run.bh<|Run.rd (Rd.mem (fun zz=>ez) (.tail _ (.tail _ (.tail _ (.tail _ (.head _))))))<|Run.bh<|Run.bh<|Run.rd Rd.XH<|Run.bh<|Run.bh<|Run.bh<|Run.bh<|Run.bh<|Run.bh<|Run.bh<|Run.bh<|Run.bh<|Run.rd (Rd.item (i:=3) (.tail _ (.tail _ (.tail _ (.tail _ (.head _))))) h3)<|Run.ret<|Run.ret<|Run.tup (show 4≤100 by decide)<|Run.ret<|Run.tup (show 1≤100 by decide)<|Run.ret<|Run.ret<|Run.tup (show 7≤100 by decide)<|Run.ret<|UW (r:=gJ x) a1 b1 hl hn<|Run.ret<|Run.of _ (gP.cell (o':=.list (l++[.int (k:Nat)])) (fun zz e h=>iM e ll h) 4 rfl)<|Run.gC g
end Mine
namespace Mine
open PySem
variable{α β:Type}{K X Y W Z:List ap}{Q:PV→List ap→Prop}{n m k i j κ dI nI:Nat}{nums:List Int}{c:eN}{h:pY}{rows bs l:List PV}{r v yp:PV}
noncomputable def kl0:List PV:=[.int 17,.int 19,.int 6,.int 16,.int 7,.int (-1),.int (-1),.int (-1),.int 20,.int 21]
noncomputable def τ0:Nat→Nat
 | 0=>17
 | 1=>19
 | 2=>6
 | 3=>16
 | 4=>7
 | 8=>20
 | _=>21
noncomputable def x0:S5:=⟨[],kl0,[],[],[],fun zz=>[],fun zz=>[],fun zz=>[[]],pD,τ0⟩
noncomputable def hd:PV→Int
 | .tup (.int k::_)=>k
 | _=>0
theorem OA:∀i,i<16→hd (pD.getD i .none)≠7∧hd (pD.getD i .none)≠10∧(hd (pD.getD i .none)=6→i=12):=by decide +kernel
theorem IB{l:List PV}(e:l[i]?=some r):l.getD i .none=r:=by rw[List.getD_eq_getElem?_getD];rw[e];rfl
theorem SN:Rw pD:=by
 have ok:=pG (l:=pD) (by kernel_rfl!)
 refine⟨ok,A6 ok (by kernel_rfl!),rfl,rfl,rfl,rfl,show 16≤22 by decide,fun i hi r e ts=>⟨?_,?_⟩⟩
 ·rintro rfl
  have:=(OA i hi).1
  rw[IB e]at this
  exact this rfl
 ·rintro rfl
  have:=(OA i hi).2.2
  rw[IB e]at this
  obtain rfl:=this rfl
  injection e with e
  injection e with e
  injection e with _ e
  injection e with e
  injection e with e
  obtain _ | ⟨t,ts⟩:=ts
  ·cases e
  ·injection e with e
   injection e with e
   have:t=8:=by lia
   exact this▸.head _
theorem adN:P6 0 x0 X:=by
 refine⟨SN,fun i hi j e=>?_,show 22≤100 by decide,fun k hk=>?_,rfl,rfl,rfl,rfl,rfl,(fun zz z=>(aff _ z).elim),⟨fun zz zz zz h=>(zM h),fun zz zz zz h=>(zM h),acV _,acV _,acV _⟩,fun k zz=>⟨fun zz=>rfl,fun h=>absurd rfl h⟩,fun zz zz=>rfl,(fun zz z=>(aff _ z).elim)⟩
 ·have:=(OA i hi).2.1
  rw[IB (l:=pD) e]at this
  exact this rfl
 ·have h16:∀t,16≤t→t=6∨t=7∨16≤t:=fun t h=>.inr (.inr h)
  obtain⟨h1,h2⟩:=hk
  obtain rfl | rfl | rfl | rfl | rfl | rfl | rfl:k=0∨k=1∨k=2∨k=3∨k=4∨k=8∨k=9:=by lia
  ·exact⟨rfl,h1,rfl,h16 17 (by decide),(fun z=>zC id z rfl),(fun z=>zC id z rfl)⟩
  ·exact⟨rfl,h1,rfl,h16 19 (by decide),(fun z=>zC id z rfl),(fun z=>zC id z rfl)⟩
  ·exact⟨rfl,h1,rfl,.inl rfl,fun zz=>rfl,(fun z=>zC id z rfl)⟩
  ·exact⟨rfl,h1,rfl,h16 16 (by decide),(fun z=>zC id z rfl),(fun z=>zC id z rfl)⟩
  ·exact⟨rfl,h1,rfl,.inr (.inl rfl),(fun z=>zC id z rfl),fun zz=>rfl⟩
  ·exact⟨rfl,h1,rfl,h16 20 (by decide),(fun z=>zC id z rfl),(fun z=>zC id z rfl)⟩
  ·exact⟨rfl,h1,rfl,h16 21 (by decide),(fun z=>zC id z rfl),(fun z=>zC id z rfl)⟩
theorem aah(b T k M D d Z J:List ap):(b++(T++(k++(M++(D++(d++(Z++J))))))).Perm (d++((T++D)++((k++b)++((M++Z)++J)))):=by
 classical
 rewrite[af2]
 intro x
 simp only[ac4]
 lia
theorem XD{jW:Nat}(hm:h.mode=1∨h.mode=4)(fin:∀K',Q (.bool true) K')(hn:(nI,CO.list (nums.map .int))∈Z) :
  Run (cf c [] fQ++([(c.xX,CO.list []),(c.yl,.list [])]++([dC dI nI 1]++(Z++V3 c h jW)))) (wA (Φ (n+200)) yp (.ref nI) (.ref dI) (.ref c.tab) (.ref h.rel)) Q:=by
 refine Run.new fun κ0=>Run.perm abj.symm<|Run.rd (a:=It.snap [We,UQ]) (fun zz zz=>rfl)<|Run.rd (fun H zz=>bz _ H)<|Run.eq (ch ..)<|Run.eq (HN ..)<|YB (n:=n+199) (k:=16) (rows:=fQ) (by kernel_rfl!) (by kernel_rfl!) (by kernel_rfl!) (by kernel_rfl!) (by kernel_rfl!) rfl (show 0+1<ax by unfold ax;decide)<|Run.eq (HN ..)<|YB (n:=n+199) (k:=18) (rows:=V4) (by kernel_rfl!) (by kernel_rfl!) (by kernel_rfl!) (by kernel_rfl!) (by kernel_rfl!) rfl (show 1+1<ax by unfold ax;decide)<|Run.eq (Mu ..)<|Run.bh<|Run.bh<|Run.bh<|Run.bh<|Run.bh<|Run.rd Rd.XH<|ack (n:=n+199) (rows:=EN) (t:=16) (by kernel_rfl!) (by kernel_rfl!) rfl<|Run.ret<|Run.ret<|Run.eq (m':=Mine.new (.list [.int 6,.int 16,.int 7,.int (-1),.int (-1),.int (-1)])) rfl<|Run.nw fun m=>Run.WQ (.tail _ (.tail _ (.tail _ (.tail _ (.tail _ (.head _)))))) (.head _) (show 2+6<ax by unfold ax;decide) fun κ=>?_
 refine Run.perm (afA [_,_] (cf c [] EN) _)<|Run.rd (a:=It.snap [.str (S "v"),.str (S "w")]) (fun zz zz=>by kernel_rfl!)<|Run.rd (fun H zz=>bz _ H)<|Run.eq (ch ..)<|Run.eq (HO ..)<|YU (n:=n+199) (k:=20) (rows:=EN) (by kernel_rfl!) (by kernel_rfl!) (by kernel_rfl!) rfl (show 8+1<ax by unfold ax;decide) rfl<|Run.eq (HO ..)<|YU (n:=n+199) (k:=21) (rows:=EN++[gJ (S "v")]) (by kernel_rfl!) (by kernel_rfl!) (by kernel_rfl!) rfl (show 9+1<ax by unfold ax;decide) rfl<|Run.eq (Ms ..)<|Run.new fun bI=>?_
 refine Run.perm (aah [(bI,.list [])] (cf c [] pD) [(κ,.list kl0)] [(m,CO.list [.int 6,.int 16,.int 7,.int (-1),.int (-1),.int (-1)]),(κ0,CO.list [.int 17,.int 19])] [(c.xX,CO.list []),(c.yl,CO.list [])] [dC dI nI 1] Z (V3 c h jW))<|Run.rd (fun H zz=>fJ (n:=3) (by decide) H)<|Run.rd (fun H zz=>bz _ H)<|Run.eq (ch ..)<|KC (n:=n) (x:=x0) (i:=0) (j:=3) (at':=1) (jW:=jW) (X:=[(m,CO.list [.int 6,.int 16,.int 7,.int (-1),.int (-1),.int (-1)]),(κ0,CO.list [.int 17,.int 19])]++Z) hm fin rfl adN (.tail _ (.tail _ hn)) (by decide)
end Mine
namespace Mine
open PySem
variable{α β:Type}{K X Y W Z:List ap}{Q:PV→List ap→Prop}{n m k i j κ dI nI:Nat}{nums:List Int}{c:eN}{h:pY}{rows bs l:List PV}{r v yp:PV}
theorem aai(a b d e f g i j k l m T Z:List ap):(a++(b++(d++(e++(f++(g++(i++(j++(k++(l++(m++(T++Z)))))))))))).Perm (T++(l++(Z++(k++(i++(g++(f++(m++(j++(b++(a++(e++d)))))))))))):=by
 classical
 rewrite[af2]
 intro x
 simp only[ac4]
 lia
theorem Yb{ho:Nat}{md:Int}{rel rules sP yU jW road A7 sM:Nat}{yp:PV} (g:∀r1 r2,Run ([(r2,CO.inst (S "ParamRule") []),(r1,.inst (S "RelateMeetRule") []),(sM,.list []),(A7,.inst (S "Notes") [(S "rows",.ref sM)]),(road,.list []),(jW,.list []),(yU,.dict []),(sP,.dict []),(rules,.dict [(.int 1,.ref r1),(.int 2,.ref r2)]),
 (rel,.inst (S "Rel") [(S "host",.ref ho),(S "mode",.int md),(S "rules",.ref rules),(S "assumed",.ref sP),(S "known",.ref yU),(S "trail",.ref jW),(S "road",.ref road),(S "deep",.int 0),(S "looks",.int 0),(S "notes",.ref A7),(S "telling",.bool true),(S "twin",.none),(S "missing",.str (S "")),(S "at",.int 0)])]++K) (wA (Φ (n+200)) yp (.ref nI) (.ref dI) (.ref c.tab) (.ref rel)) Q) :
  Run (PI ho md rel rules sP yU jW road A7 sM++K) (wB (Φ (n+200)) yp (.ref nI) (.ref dI) (.ref c.tab) (.ref rel)) Q:=by
 refine Run.bh<|Run.eq (ou (n+199) _)<|Run.bh<|Run.eq (m':=Mine.new (.inst (S "RelateMeetRule") [])) rfl<|Run.nw fun r1=>Run.rd (Rd.cell (fun H e=>gR e (by kernel_rfl!)) 8 rfl)<|Run.det (gP.cell (o':=.dict [(.int 1,.ref r1)]) (fun zz e h=>fL (l:=[]) e rfl (show 0+1<ax by unfold ax;decide) h) 7 rfl)<|Run.ret<|Run.gC<|Run.bh<|Run.eq (nj (n+199) _)<|Run.bh<|Run.eq (m':=Mine.new (.inst (S "ParamRule") [])) rfl<|Run.nw fun r2=>Run.rd (Rd.cell (fun H e=>gR e (by kernel_rfl!)) 9 rfl)<|Run.det (gP.cell (o':=.dict [(.int 1,.ref r1),(.int 2,.ref r2)]) (fun zz e h=>fL (l:=[(.int 1,.ref r1)]) e rfl (show 1+1<ax by unfold ax;decide) h) 8 rfl)<|Run.ret<|Run.gC<|Run.to (by kernel_rfl!) (g r1 r2)
theorem ZX(fin:∀K',Q (.bool true) K')(hn:(nI,CO.list (nums.map .int))∈Z) :
  Run (cf c [] fQ++([(c.xX,CO.list []),(c.yl,.list [])]++(dC dI nI 0::Z))) (HL (Φ (n+200)) yp (.ref nI) (.ref dI) (.ref c.tab)) Q:=by
 refine Run.bh<|Run.bh<|Run.bh<|Run.make fun ho=>Run.eq (BG (n+199) _ _)<|Run.fld 0 rfl (by kernel_rfl!) (by kernel_rfl!)<|Run.fld 0 rfl (by kernel_rfl!) (by kernel_rfl!)<|Run.fld 0 rfl (by kernel_rfl!) (by kernel_rfl!)<|Run.fld 0 rfl (by kernel_rfl!) (by kernel_rfl!)<|Run.fld 0 rfl (by kernel_rfl!) (by kernel_rfl!)<|Run.ret ⟨rfl,?_⟩
 refine Run.prm (abj (l₁:=(ho,tA c)::(cf c [] fQ++[(c.xX,CO.list []),(c.yl,.list [])])) (a:=dC dI nI 0) (l₂:=Z))<|Run.bh<|Run.bh<|Run.bh<|Run.bh<|mF (n:=n+199) (m:=3) (aaJ _ hn) (by decide) (by decide) fun r hr=>Run.of _ (Rd.eq r 2).det ?_
 have rest:∀md:Nat,md=1∨md=4→Run (dC dI nI 1::((ho,tA c)::(cf c [] fQ++[(c.xX,CO.list []),(c.yl,.list [])])++Z)) (jz (Φ (n+200)) (S "Rel") [.ref ho,.int md] (some (some (S "Rel.__init__")))) fun x15 K'=>Run K' (wB (Φ (n+200)) yp (.ref nI) (.ref dI) (.ref c.tab) x15) Q:=fun md hm=>Nn (n:=n+198) fun rel rules sP yU jW road A7 sM=>Yb (n:=n) fun r1 r2=>by
  refine Run.sub (.cons₂ _ (.cons₂ _ (.cons₂ _ (.cons₂ _ (.cons _ (.refl _))))))<|Run.perm (aai [_] [_] [_] [_] [_] [_] [_] [_] [_] [dC dI nI 1] [(ho,tA c)] (cf c [] fQ++[(c.xX,CO.list []),(c.yl,.list [])]) Z)<|XD (n:=n) (h:=⟨rel,ho,rules,sP,yU,road,A7,sM,r1,r2,md,true⟩) (jW:=jW) hm fin hn
 cases (r:Int) == 2 with
 | true=>exact Run.yes<|Run.ret<|Run.ret<|Run.ret<|rest 4 (.inr rfl)
 | false=>exact Run.no<|Run.ret<|Run.ret<|Run.ret<|rest 1 (.inl rfl)
theorem ab0(ns:List Int):∃H',Φ (n+201) (S "law") [.ref 1] (start ns)=some (.bool true,H'):=by
 have fin:∀K':List ap,(fun(v:PV) (_:List ap)=>v=.bool true) (.bool true) K':=fun zz=>rfl
 rw[ZF]
 have e:slice (.ref 1) none (some (.int 48)) none (start ns)=some (.ref 2,start ns++[.list ((ns.map .int).take 48)]):=mE (n:=48) rfl
 have g:Run [(2,CO.list ((ns.map .int).take 48))] (aa (aa (da (.ref 2)) fun t1=>aa (bj t1) fun n2=>aa (av t1 QT n2 0) fun l3=>cw l3) (HM (Φ (n+200)) (.ref 1))) fun v zz=>v=.bool true :=
  Run.bh<|Run.rd (Rd.mem (fun zz=>dh) (.head _))<|Run.rd (Rd.mem (fun zz=>cu) (.head _))<|Run.rd (Rd.TC (fun x=>[x]) (.head _) fun x zz=>Rd.ret _)<|Run.mk (by rw[lr];exact ac6 (List.length_take_le ..) (by unfold ax;decide)) fun nI=>Run.new fun dI=>Run.bh<|Wh (n:=n+198) fun c=>ZX (n:=n) (nums:=ns.take 48) (Z:=[(nI,CO.list (((ns.map .int).take 48).flatMap fun x=>[x])),(2,CO.list ((ns.map .int).take 48))]) fin (by rw[lr];rw[List.map_take];exact .head _)
 obtain⟨v,K',H',e2,zz,zz,rfl⟩:=g [] (start ns++[CO.list ((ns.map .int).take 48)]) ⟨rfl,acS _ _,fun p hp=>by cases aad.mp hp;exact⟨aaX _,rfl⟩⟩ (show 2≤3 by decide)
 refine⟨H',Eq.trans ?_ e2⟩
 show aa (aa (aa (slice (.ref 1) none (some (.int 48)) none) _) _) _ _=_
 unfold aa
 rw[e];rfl
end Mine
namespace Mine.Sim
open PySem PySem.W PyProof.Rows PySem.Calls
theorem aca{K:Frag}{h:Heap}{a:Addr}{m:Str→Option Value}{x:Str}{r:Option Value}(X:K.In h)(N:h.Ns a m)(e:nsIn K a x=some r):m x=r:=by
 obtain⟨o,es,ep,ho,hd,hk,hf⟩:=N
 unfold nsIn at e
 split at e
 ·rename_i c d Oc n sl q
  obtain rfl:_=o:=aa0 ((X _ _ q).symm.trans ho)
  cases hd
  rewrite[← hf]
  show(Array.find? (fun e=>e.key.isStr x) es).map (·.val)=r
  rewrite[← Array.find?_toList]
  split at e
  ·rename_i q;replace e:=zI e;subst e;rw[q];rfl
  ·rename_i q
   rw[q]
   split at e
   ·exact du e
   ·replace e:=zI e;subst e;rfl
 ·exact du e
theorem W9{o:Option Obj}{l:List ac1}(h:abt o=some l):∃es n,o=some (eh es n)∧es.toList=l:=by
 induction o with
 | none=>exact bw h
 | some o =>
  obtain⟨c,d,dt,sl⟩:=o
  induction d with
  | some zz=>cases dt <;> exact bw h
  | none =>
   induction dt with
   | dict es n =>
    obtain⟨sl⟩:=sl
    induction sl with
    | cons _ _=>exact bw h
    | nil =>
     have ⟨h1,h2⟩:=NT h
     exact⟨es,n,by rw[beq_iff_eq.mp h1];rfl,aa0 h2⟩
   | _=>exact bw h
theorem Xg{W:Wd}{h:Heap}{as:List Slot}{l:List (Int×Int)}{m:List ac1}(e:all2 ZD l m=true):ay (ER W h as) (l.map fun p=>(PV.int p.1,PV.int p.2)) m:=by
 have k:ay (fun(p:Int×Int) e=>ER W h as (.int p.1,.int p.2) e) l m:=P8 (fun p e z=>⟨Ot (dv z),Ot (dv (de z)),beq_iff_eq.mp (de (de z))⟩) e
 exact k.ind (P:=fun l m=>ay (ER W h as) (l.map fun p:Int×Int=>(PV.int p.1,PV.int p.2)) m) trivial fun a b l m r zz ih=>(show ER W h as (PV.int a.1,PV.int a.2) b∧_ from⟨r,ih⟩)
theorem Xx{h:Heap}{as:List Slot}{l:List Value}{ns:List Int}(I:IntsAre l ns):ay (VR h as) (ns.map .int) l:=by
 induction I with
 | nil=>trivial
 | cons n t I ih=>exact⟨⟨t,rfl⟩,ih⟩
theorem aeu{w:PySem.World}{fA dm:Shared}{a:Addr}{l:List Value}{ns:List Int}{es:Array ac1}{n:Nat}(h63:ns.length<100)(hf:dm.heap.get? (yR (tF fA.heap))=some (eh es n))(he:all2 ZD abA es.toList=true)(hL:dm.heap.get? a=some (ky l.toArray 0))(hI:IntsAre l ns)
  (na:yR (tF fA.heap)≠a) (nf:yR (tF fA.heap)≠aef) (ns':aef≠a) {o:Obj} (hs:dm.heap.get? aef=some o):Inv (wd w fA dm) dm.heap [(yR (tF fA.heap),yR (tF fA.heap)),(a,a)] (start ns) :=
 ⟨fun zz zz e=>e,rfl,fun i p co h1 h2=>by
   obtain _ | _ | i:=i
   ·replace h1:=zI h1;subst h1;replace h2:=zI h2;subst h2
    exact .mk es n (by show 6<ax;unfold ax;decide) rfl ⟨by decide,by simp⟩ hf (Xg he)
   ·replace h1:=zI h1;subst h1;replace h2:=zI h2;subst h2
    exact .mk l.toArray 0 (by rw[aaY];unfold ax;lia) rfl hL (Xx hI)
   ·exact bw h1,
  fun i j p q n h1 h2=>by
   obtain _ | _ | i:=i
   ·obtain _ | _ | j:=j
    ·exact absurd rfl n
    ·replace h1:=zI h1;subst h1;replace h2:=zI h2;subst h2;exact fun x hx=>(hx.elim id id:x=_)▸⟨na,na⟩
    ·exact bw h2
   ·obtain _ | _ | j:=j
    ·replace h1:=zI h1;subst h1;replace h2:=zI h2;subst h2;exact fun x hx=>(hx.elim id id:x=_)▸⟨na.symm,na.symm⟩
    ·exact absurd rfl n
    ·exact bw h2
   ·exact bw h1,
  aaX _,rfl,acW.mpr ⟨_,hs⟩,(by rintro⟨p,hp,h⟩;exact(aa2.mp hp).elim (fun e=>by rw[e]at h;exact h.elim (fun e=>nf e.symm) fun e=>nf e.symm) fun hp=>by rw[aad.mp hp]at h;exact h.elim ns' ns'),fun i p h1=>by
   obtain _ | _ | i:=i
   ·replace h1:=zI h1;subst h1;exact .inl ⟨by decide,rfl,acW.mpr ⟨_,hf⟩⟩
   ·replace h1:=zI h1;subst h1;exact .inl ⟨by decide,rfl,acW.mpr ⟨_,hL⟩⟩
   ·exact bw h1⟩
theorem Uw{w:PySem.World}{fA dm:Shared}{fa a:Addr}{ns:List Int}{Q:Value→Shared→Prop}{E:Value→Shared→Prop}(OW:Bn (wd w fA dm))(e1:Xj (tF fA.heap) (S "law")=some fa)(I:Inv (wd w fA dm) dm.heap [(yR (tF fA.heap),yR (tF fA.heap)),(a,a)] (start ns))(hg:dm.gens=#[])
  (k:∀s',(∀b o,dm.heap.get? b=some o→s'.heap.get? b=some o)→s'.os=dm.os→s'.gens=#[]→Q (.bool true) s'):wpAny (model pw w) callerA (PySem.call (.ref fa) [.ref a]) Q E dm:=by
 obtain⟨H',e⟩:=ab0 ns
 rw[bo]at e
 refine wpAny_call (af8 (Qd OW 201 ⟨rfl,by decide,by decide⟩ e e1 I ⟨rfl,hg⟩ (vs:=[.ref a]) ⟨⟨_,rfl,rfl⟩,trivial⟩) fun r s' b=>?_)
 obtain⟨v,s',lg,I',S',P',x⟩:=b
 obtain rfl:v=.bool true:=x
 exact k s' I'.keep S'.1 S'.2
theorem walk{d:DefRec}{kwd:List (Str×Expr)}(hn:d.name=yV.row.name):WalkX Cb Oy (fun zz zz=>True) Yf Ya yV.row.toRowW d kwd fun f vs=>PySem.call f vs:=by
 intro w fA dm mg mb G y fa o pm cd doc dV kV ho hd ZM hD hmg hg args vals as L aek aee hrd hwl hlo
 clear ho hd ZM hD
 w_on
 wrow_args aek aee hrd hwl hlo
 rename_i ns _ _ _ _ _ as1 as2 a l _ hL _ _ _ hI _ h63 _
 have y:HX (tF fA.heap)=E3:=y
 have ha:=(PySem.W.X.script_at L).1
 have X0:(tF fA.heap).In fA.heap:=IZ _ _
 have X1:=X0.keeps L.keeps
 have OW:Bn (wd w fA dm):=acF y X1 ⟨_,_,_,_,topRead_of G.T⟩
 have t4:=de (de (de (de (congrArg (fun x=>x.1) y:aay (tF fA.heap)=true))))
 obtain⟨sy,hs⟩:=acW.mp (dv t4)
 obtain⟨zz,hf',he⟩:=iT (de (de t4))
 obtain⟨es,n,hf,rfl⟩:=W9 hf'
 have ⟨f,e1,e2⟩:=OW.kfn (S "law") (by kernel_rfl!)
 rw[hn]at hmg
 obtain rfl:f=fa:=ad9 (aa0 ((aca X1 G.T.g e2).symm.trans hmg))
 have ne:∀{b o},fA.heap.get? b=some o→b≠a:=fun h q=>absurd (ad0 h) (by rw[q];rw[ha];exact aeM _)
 exact Uw OW e1 (aeu (by lia) (X1 _ _ hf) he (PySem.W.X.script_obj L hL) hI (ne (X0 _ _ hf)) (afk (Co (dv (de t4)))) (ne (X0 _ _ hs)) (X1 _ _ hs)) hg fun s' h1 h2 h3 =>
  GoodW.toG ⟨.inl ⟨_,_,_,rfl,raisesW_false allW_false_nil,.bool true,postW_of (by wrow_shape) (by wtm_val) (by w_fin),fun zz=>⟨List.nodup_nil,fun zz h=>zM h⟩⟩,h1,h2,h3⟩
end Mine.Sim
namespace Mine.Sim
open PySem PySem.W PySem.Calls PyProof.Rows
theorem map_two{α β γ:Type}{o:Option α}{f:α→β}{g:α→γ}{b:β}{c:γ}(h:o.map f=some b)(k:o.map g=some c):o.map (fun x=>(f x,g x))=some (b,c):=by
 cases o with
 | none=>cases h
 | some x=>rw[← aa0 h,← aa0 k];rfl
theorem V9(w:PySem.World)(os:agk):(Nt w os).map (fun s=>(V7 w s,Nw s))=some ((true,openGood Cb Oy),E3):=by
 have e:=PySem.World.withFollow_self w "special-get-raises"
 cases hb:w.params.followText "special-get-raises" with
 | false=>rw[hb]at e;have h:=XO w os;have k:=XR w os;unfold wf at h k;rw[e]at h k;exact map_two h k
 | true=>rw[hb]at e;have h:=XQ w os;have k:=XS w os;unfold wf at h k;rw[e]at h k;exact map_two h k
theorem left:LeftO pw Cb Oy (fun zz=>true) Yf Ya 8000:=RZ (M:=8000) (ann:=some (.ref 6)) (by kernel_rfl!) (by decide) (fun s=>by kernel_rfl!) (fun w=>by kernel_rfl!) (by decide) fun w os=>by
 have h:=congrArg (Option.map fun x:(Bool×_)×_=>(x.1.1,x.1.2,x.2)) (V9 w os)
 rw[Option.map_map]at h
 rw[Yc]
 refine Eq.trans (congrArg (Option.map · (Nt w os)) (funext fun s=>?_)) h
 show _=(aq w s,PySem.W.Fast.tw4187177175401517315 Cb Oy (afm pw.main.body) (fun zz=>true) true s.abs,Nw s)
 rw[← PySem.W.Fast.te4187177175401517315,V8]
 rfl
theorem Zy:∃d kwd,defOf Cb yV.row.name=some (d,kwd)∧yV.row.prog.theDef yV.row.name=some (d.params,d.body,d.scope)∧kwWritten? d.params.kwonlyargs d.params.kw_defaults=some kwd:=by
 have h1:(defOf Cb yV.row.name).isSome=true:=by kernel_rfl!
 obtain⟨⟨d,k⟩,h⟩:=acW.mp h1
 have h2:(defOf Cb yV.row.name).map (fun p=>(yV.row.prog.theDef yV.row.name,kwWritten? p.1.params.kwonlyargs p.1.params.kw_defaults))=(defOf Cb yV.row.name).map (fun p=>(some (p.1.params,p.1.body,p.1.scope),some p.2)):=by kernel_rfl!
 rw[h]at h2
 have h2:=aa0 h2
 exact⟨d,k,h,(afv h2).1,(afv h2).2⟩
end Mine.Sim
set_option maxRecDepth 100000 in
set_option maxHeartbeats 8000000 in
theorem PySem.Challenge.cw_sa0406_01_holds : PySem.Challenge.rw_sa0406_01.Holds := by
 obtain⟨d,kwd,h1,h2,h3⟩:=Mine.Sim.Zy
 refine⟨Mine.Sim.ws,PySem.W.holds_openX Mine.Sim.left (XP:=fun zz zz=>True) (fun zz zz=>trivial) (fun zz zz zz zz zz=>trivial) h1 h2 h3 (fun s e=>?_) (by rfl) ?_ (by decide +kernel) ⟨rfl,rfl,rfl,rfl,rfl,by decide +kernel⟩ ?_ (Mine.Sim.walk (PySem.W.defOf_name h1))⟩
 ·exact PySem.W.recFacts_of (by rfl)
 ·have h:=Mine.Sim.ws
  unfold PySem.W.OpenLaw.wellSaid at h
  iterate 18 replace h:=Mine.Sim.dv h
  exact h
 ·exact⟨[.list []],by decide +kernel,by decide +kernel⟩
