import PyProof.Rows.All
import Wide.All
import OpenK.AllK
import Wide.FinOn
import PySem.Challenge.RW_xm0160_01
open And renaming intro→pX
open Bool renaming and_eq_true→aY,and_eq_true_iff→bQ,and_false→y',and_true→AD,false_eq_true→cg,false_ne_true→kx,false_or→AB,not_eq_true'→uv,not_false→y9,not_true→cZ,or_eq_false_iff→gk,or_eq_true_iff→cU,or_self→kZ,true_and→ij
open Char renaming toNat→nE
open Classical renaming byContradiction→gD,em→bA
open Decidable renaming em→mV
open Eq renaming symm→ak,trans→a7
open ForInStep renaming yield→eF
open Function renaming comp→mG
open Int renaming add_comm→HG,add_zero→dw,eq_ofNat_of_zero_le→dE,eq_of_mul_eq_mul_left→oJ,fdiv_eq_ediv_of_nonneg→nQ,gcd→cS,gcd_comm→HF,gcd_dvd_left→wX,gcd_eq_zero_iff→tQ,le_total→HE,lt_or_gt_of_ne→uu,lt_or_le→qP,lt_trichotomy→vG,mul_add→sm,mul_assoc→ku,mul_comm→qO,mul_ediv_cancel_left→o8,mul_eq_zero→mU,mul_fdiv_cancel_left→eQ,mul_ne_zero→aG,mul_neg_of_pos_of_neg→oI,mul_nonneg→Ay,mul_one→ML,mul_zero→lG,natAbs_add_le→vF,natAbs_ediv_le_natAbs→oH,natAbs_mul→fJ,natAbs_neg→Ax,natAbs_pow→Aw,natCast_add→mT,natCast_nonneg→ur,not_le→uq,ofNat→j5,ofNat_le→dv,ofNat_lt→qM,one_mul→MK,one_ne_zero→y7,pow_ne_zero→bO,pow_pos→sf,sub_nonneg_of_le→cu,sub_zero→HD,toNat_natCast→du,zero_add→ji,zero_mul→lF,zero_sub→HC
open List renaming all_cons→cb,all_eq_true→aA,all_nil→cD,append_assoc→dq,append_nil→bS,cons→eZ,contains_iff_mem→dX,contains_nil→hG,dropLast_eq_take→qK,drop_eq_getElem_cons→nP,drop_length→vE,drop_nil→oG,drop_zero→jL,eq_of_mem_replicate→cM,ext_getElem→lW,filterMap_cons→aS,filterMap_nil→bj,filter_filter→tP,flatten_cons→g9,foldl_append→cQ,foldl_cons→jh,foldl_nil→jK,forIn_cons→mE,forIn_nil→y5,getElem?_append_left→eH,getElem?_append_right→nC,getElem?_cons_succ→eY,getElem?_cons_zero→eX,getElem?_eq_getElem→aB,getElem?_eq_none→fQ,getElem?_eq_some_iff→b7,getElem?_map→aU,getElem?_nil→kX,getElem?_replicate→iF,getElem?_set→g8,getElem_map→bF,getElem_mem→vD,getElem_of_mem→j4,getElem_range→dN,getElem_reverse→rN,isEmpty_iff→lV,length→rM,length_append→aR,length_cons→aF,length_drop→vC,length_dropLast→ez,length_map→ag,length_nil→aW,length_range→cC,length_replicate→aH,length_reverse→dD,length_set→bM,length_take→cn,length_zip→wV,lookup→aj,lookup_cons→aQ,map_append→bL,map_congr_left→dC,map_cons→a8,map_drop→oF,map_eq_cons_iff→gh,map_eq_nil_iff→j3,map_fst_zip→lU,map_map→aN,map_nil→dM,map_replicate→dK,map_reverse→eE,map_set→cL,map_take→eP,mem_append→aP,mem_append_left→ba,mem_append_right→bg,mem_cons→aC,mem_filter→gC,mem_filterMap→gQ,mem_flatMap→bN,mem_map→aE,mem_of_getElem?→bt,mem_of_mem_take→cN,mem_range→bY,mem_reverse→vB,mem_singleton→aK,mergeSort_perm→sd,nodup_append→cP,nodup_cons→a9,nodup_nil→dg,not_mem_nil→bT,of_mem_zip→gB,pairwise_cons→gP,pairwise_mergeSort→o7,pairwise_singleton→eW,perm_middle→vA,range→az,range_succ_eq_map→iY,replicate→ax,replicate_succ→eM,reverse_cons→fE,reverse_perm→g7,set_set→Fd,size_toArray→bx,tail_cons→y0,take→Sn,take_nil→Av,take_of_length_le→cX,zip→cm,zip_cons_cons→de
open List.Pairwise renaming nil→HB
open List.Perm renaming eq_of_pairwise→ma
open List.cons renaming inj→dI
open Nat renaming add_le_add_right→sa,add_lt_add→Au,add_sub_cancel→dh,ble→dZ,ble_eq→Sm,div_le_self→yZ,exists_eq_add_of_le→iM,gcd→qJ,gcd_comm→HA,le_log2→MI,le_mul_of_pos_left→jg,le_of_ble_eq_true→dj,le_of_eq→jf,le_of_lt→qI,le_refl→aL,le_sub_of_add_le→rZ,le_total→qH,le_trans→br,log2_self_le→wU,lt_irrefl→o6,lt_of_le_of_lt→ck,lt_of_lt_of_le→kJ,lt_of_succ_lt_succ→qE,lt_or_ge→qD,lt_succ_of_le→vz,lt_succ_of_lt→ig,lt_succ_self→wR,max_le→nO,min_eq_left→yY,min_le_right→wQ,mul_div_cancel_left→iL,mul_le_mul→nN,mul_le_mul_right→aZ,mul_two→MH,ne_of_lt→dr,not_lt→kH,not_lt_zero→yX,one_lt_two_pow→kG,pow_add→MG,pow_le_pow_left→tO,pow_le_pow_right→cO,pow_succ→lE,sub_add_cancel→gS,sub_self→Hz,sub_zero→lD,succ_le_succ→wO,succ_mul→eG,two_pow_pos→js,zero_add→aX,zero_le→fh,zero_lt_succ→wN
open Nat.succ renaming inj→vy
open OfNat renaming ofNat→gY
open Option renaming bind→lC,bind_eq_some_iff→aJ,bind_none→fO,bind_some→ao,isNone→wM,isNone_iff_eq_none→eB,isNone_none→bB,isSome_iff_exists→dp,isSome_some→bI,map_eq_some_iff→iE,map_some→aD,none→As
open Option.some renaming inj→ai
open Prod.mk renaming inj→eO
open PyProof.Rows renaming callWith_type→kr,evalArgs_none→ME
open PySem.AutoSeq1 renaming list_insert_list_int_val_1→E1
open PySem.Builtin.Int renaming intBits→fP
open PySem.Builtin.List renaming listFitsIndex→kv,listSubscript?→MO,listTooLong→MN
open PySem.Builtin.Range renaming rangeSize→kY,small→HH
open PySem.Calls renaming Name_function_global→mW,callWith_builtin→iO,callWith_function→oM,evalArgs_plain→jA,spliced_cons→bW,spliced_nil→g0
open PySem.Challenge renaming pw_xm0160_01→Aq
open PySem.F renaming plainAttrs_list→nB,slot_int_rmul→Fe,slot_list_insert→mR
open PySem.Heap renaming SameBut→dO,get?_push_of_some→cY,get?_push_size→bK,get?_update_self→qQ,lt_size→cE,size_push→nD
open PySem.Heap.DictOfH renaming new→MM
open PySem.Heap.IsSliceOf renaming new→mF
open PySem.Heap.SameBut renaming update→iG
open PySem.IsRange renaming new→y6
open PySem.NameKind renaming cell→eD,free→cq
open PySem.Obj renaming data_mapSeq→yW,isFreed_of_seq→uo,mapSeq→je
open PySem.PyData renaming eqv→E2
open PySem.SeqAt renaming shaped→An
open PySem.Str renaming ofString→ae,ofString_eq_toList→qB
open PySem.Value.ref renaming inj→jq
open Rat renaming add_zero→qC,den_divInt→Ap,divInt→aI,divInt_add_divInt→rJ,divInt_eq_div→aO,divInt_mul_divInt→jz,div_def→MD,inv_divInt→nM,mul_eq_zero→bZ,mul_one→MB,mul_zero→jd,neg_num→MA,num_divInt→Ao,num_divInt_den→bq,num_eq_zero→jr,one_mul→Mz,zero_mul→lz
open Subtype renaming ext→kW
open PySem PySem.W PyProof.Rows
set_option Elab.async false
set_option maxRecDepth 100000
set_option maxHeartbeats 2000000
set_option linter.unusedSimpArgs false
set_option linter.unusedVariables false
namespace Mine.Internal
noncomputable def vq:Program:=view PySem.Challenge.pw_xm0160_01 [1,3,4,5,6,7,9,10,11,12,13,14,15,16,17,18,19,21,22,23,24,25,26,27,28,29,30,31,32,33,35,36,37,38,39,40,41,42,43,44,46,48,49,51,52,53,55,56,57,59,60,61,62,64,65,66,67,68,70,71,72,74,75,76,77,78,79,80,81,82,83,84,86,87,88,89,90,91,92,93,94,95,96,97,98,99,100,102,103,104]
noncomputable abbrev lvq:List (Str×WData):=[(Str.ofString "MOST_DIVIDED",WData.int 10000000000)]
noncomputable abbrev lsq:List Str:=[Str.ofString "MOST_DIVIDED"]
noncomputable abbrev Xq (s:Shared):Bool:=xlAt vq lvq s&&recOk (RowW.records PySem.Challenge.rw_xm0160_01.row.toRowW) s
noncomputable abbrev topq (w:World):Option Shared:=openEnds treeTable PySem.Challenge.pw_xm0160_01 w 6110
theorem hA (w:World):(topq w).map (fun s=>(s.heap.bltView,pinSeenD vq (drecsOf vq) s,plainSeenD vq lsq s,clsSeenW vq lsq s))=some ((bltViewBooted,pinGoodD (drecsOf vq),plainGoodD vq lsq,clsGoodW vq lsq)):=by
 unfold topq openEnds fencedOpening topFrom
 rw[PySem.W.Fast.te14364793385576792824,PySem.W.Fast.te10274390034422433532,PySem.W.Fast.te14289696077712309145,PySem.W.Fast.te14082659384304107361]
 kernel_rfl
theorem hB (w:World):(topq w).map (fun s=>seen ((recsOf vq).map (·.name)) (ownsOf vq) [] { s with gens:=#[] })=some (expectedOf vq):=by
 unfold topq openEnds fencedOpening topFrom
 rw[PySem.W.Fast.te14364793385576792824,PySem.W.Fast.te10274390034422433532,PySem.W.Fast.te14289696077712309145,PySem.W.Fast.te14082659384304107361]
 kernel_rfl
theorem hC (w:World):(topq w).map (fun s=>(s.heap.keysOk (looseW vq lsq) ((recsOf vq).map (·.name)) ((litsOf vq).map (·.1)) ((clssOf vq (looseW vq lsq)).map (·.name))&&s.heap.accountedOkI (importedModules PySem.Challenge.pw_xm0160_01.main.body)&&s.heap.isNs mainGlobals&&s.heap.isNs builtinsNs&&tablesOk vq s.heap&&Xq s&&(if true then s.gens.size==0 else !leftWithCleanup s.gens)))=some (true):=by
 unfold topq openEnds fencedOpening topFrom
 rw[PySem.W.Fast.te14364793385576792824,PySem.W.Fast.te10274390034422433532,PySem.W.Fast.te14289696077712309145,PySem.W.Fast.te14082659384304107361]
 kernel_rfl
theorem hD (w:World):(topq w).map (fun s=>tabsOk vq s)=some (true):=by
 unfold topq openEnds fencedOpening topFrom
 rw[PySem.W.Fast.te14364793385576792824,PySem.W.Fast.te10274390034422433532,PySem.W.Fast.te14289696077712309145,PySem.W.Fast.te14082659384304107361]
 kernel_rfl
theorem hE (w:World):(topq w).map (fun s=>plainSeenE vq (looseW vq lsq) s)=some (plainGoodE vq (looseW vq lsq)):=by
 unfold topq openEnds fencedOpening topFrom
 rw[PySem.W.Fast.te14364793385576792824,PySem.W.Fast.te10274390034422433532,PySem.W.Fast.te14289696077712309145,PySem.W.Fast.te14082659384304107361]
 kernel_rfl
theorem hF (w:World):(topq w).map (fun s=>wideSeen vq s)=some (wideGood vq):=by
 unfold topq openEnds fencedOpening topFrom
 rw[PySem.W.Fast.te14364793385576792824,PySem.W.Fast.te10274390034422433532,PySem.W.Fast.te14289696077712309145,PySem.W.Fast.te14082659384304107361]
 kernel_rfl
theorem lawOk:PySem.Challenge.rw_xm0160_01.wellSaid=true:=by kernel_rfl
theorem hlU:LeftO PySem.Challenge.pw_xm0160_01 vq lsq Xq (Hook.obs Hook.none) (Hook.val Hook.none) 6110:=fun w=>by
 obtain⟨s,hs,eA⟩:=Option.map_eq_some_iff.mp (hA w)
 have get:∀ {α:Type}{f:Shared→α}{a:α},(topq w).map f=some a→f s=a:=fun h=>by rw[hs] at h;exact Option.some.inj h
 obtain⟨e2,e⟩:=Prod.mk.inj eA
 obtain⟨e5,e⟩:=Prod.mk.inj e
 obtain⟨e7,e9⟩:=Prod.mk.inj e
 show(topq w).map _=_
 rw[hs]
 exact congrArg some (Prod.ext (Prod.ext (get (hB w)) (Prod.ext e2 (Prod.ext (get (hC w)) (Prod.ext (get (hD w)) (Prod.ext e5 (Prod.ext (get (hE w)) (Prod.ext e7 (Prod.ext (get (hF w)) e9)))))))) rfl)
end Mine.Internal
set_option tactic.hygienic false
set_option genSizeOf false
set_option backward.match.sparseCases false
set_option genInjectivity false
namespace Mine.Internal.R
set_option genCtorIdx false in
mutual
inductive NT
 | v (i:Nat)
 | k (n:Nat)
 | add (a b:NT)
 | sub (a b:NT)
 | nk (n:Nat) (a:NT)
 | nc (a:NT) (n:Nat)
 | max (a b:NT)
 | min (a b:NT)
 | abs (a:IT)
 | toN (a:IT)
inductive IT
 | v (i:Nat)
 | k (n:Nat)
 | add (a b:IT)
 | sub (a b:IT)
 | nk (n:Nat) (a:IT)
 | nc (a:IT) (n:Nat)
 | neg (a:IT)
 | cast (a:NT)
end
set_option genCtorIdx false in
inductive Pr
 | G7 (a b:NT)
 | ltN (a b:NT)
 | Hn (a b:NT)
 | G8 (a b:IT)
 | ltI (a b:IT)
 | Ho (a b:IT)
 | not (p:Pr)
 | and (p q:Pr)
 | or (p q:Pr)
 | imp (p q:Pr)
 | ff
noncomputable def wG:List Nat→Nat→Nat
 | [],_=>0
 | a::l,i=>match i with
  | 0=>a
  | i+1=>wG l i
noncomputable def yS:List Int→Nat→Int
 | [],_=>0
 | a::l,i=>match i with
  | 0=>a
  | i+1=>yS l i
section
variable (ns:List Nat) (is:List Int)
mutual
noncomputable def NT.den:NT→Nat
 | .v i=>wG ns i
 | .k n=>gY n
 | .add a b=>a.den+b.den
 | .sub a b=>a.den-b.den
 | .nk n a=>gY n*a.den
 | .nc a n=>a.den*gY n
 | .max a b=>Max.max a.den b.den
 | .min a b=>Min.min a.den b.den
 | .abs a=>a.den.natAbs
 | .toN a=>a.den.toNat
noncomputable def IT.den:IT→Int
 | .v i=>yS is i
 | .k n=>gY n
 | .add a b=>a.den+b.den
 | .sub a b=>a.den-b.den
 | .nk n a=>gY n*a.den
 | .nc a n=>a.den*gY n
 | .neg a=>-a.den
 | .cast a=>(a.den:Int)
end
noncomputable def Pr.den:Pr→Prop
 | .G7 a b=>a.den ns is≤b.den ns is
 | .ltN a b=>a.den ns is<b.den ns is
 | .Hn a b=>a.den ns is=b.den ns is
 | .G8 a b=>a.den ns is≤b.den ns is
 | .ltI a b=>a.den ns is<b.den ns is
 | .Ho a b=>a.den ns is=b.den ns is
 | .not p=>¬ p.den
 | .and p q=>p.den∧q.den
 | .or p q=>p.den∨q.den
 | .imp p q=>p.den→q.den
 | .ff=>False
noncomputable def yk:List Pr→Prop→Prop
 | [],G=>G
 | p::l,G=>yk l (p.den ns is→G)
end
noncomputable def yN:Nat→(List Nat→Prop)→Prop
 | 0,f=>f []
 | n+1,f=>∀ x:Nat,yN n λl=>f (x::l)
noncomputable def yM:Nat→(List Int→Prop)→Prop
 | 0,f=>f []
 | n+1,f=>∀ x:Int,yM n λl=>f (x::l)
structure dS where
 acc:Nat
 n:List NT
 i:List IT
 p:List Pr
noncomputable def n1 (s:dS) (f:NT→NT):dS:=match s.n with
 | a::l=>⟨0,f a::l,s.i,s.p⟩
 | _=>s
noncomputable def n2 (s:dS) (f:NT→NT→NT):dS:=match s.n with
 | b::l=>(match l with | a::l=>⟨0,f a b::l,s.i,s.p⟩ | _=>s)
 | _=>s
noncomputable def i1 (s:dS) (f:IT→IT):dS:=match s.i with
 | a::l=>⟨0,s.n,f a::l,s.p⟩
 | _=>s
noncomputable def i2 (s:dS) (f:IT→IT→IT):dS:=match s.i with
 | b::l=>(match l with | a::l=>⟨0,s.n,f a b::l,s.p⟩ | _=>s)
 | _=>s
noncomputable def ni (s:dS) (f:NT→IT):dS:=match s.n with
 | a::l=>⟨0,l,f a::s.i,s.p⟩
 | _=>s
noncomputable def Ry (s:dS) (f:IT→NT):dS:=match s.i with
 | a::l=>⟨0,f a::s.n,l,s.p⟩
 | _=>s
noncomputable def np (s:dS) (f:NT→NT→Pr):dS:=match s.n with
 | b::l=>(match l with | a::l=>⟨0,l,s.i,f a b::s.p⟩ | _=>s)
 | _=>s
noncomputable def ip (s:dS) (f:IT→IT→Pr):dS:=match s.i with
 | b::l=>(match l with | a::l=>⟨0,s.n,l,f a b::s.p⟩ | _=>s)
 | _=>s
noncomputable def p1 (s:dS) (f:Pr→Pr):dS:=match s.p with
 | a::l=>⟨0,s.n,s.i,f a::l⟩
 | _=>s
noncomputable def p2 (s:dS) (f:Pr→Pr→Pr):dS:=match s.p with
 | b::l=>(match l with | a::l=>⟨0,s.n,s.i,f a b::l⟩ | _=>s)
 | _=>s
noncomputable def gE:List (dS→dS):=[
 λs=>⟨0,.v s.acc::s.n,s.i,s.p⟩,-- 8
 λs=>⟨0,.k s.acc::s.n,s.i,s.p⟩,
 λs=>⟨0,s.n,.v s.acc::s.i,s.p⟩,-- 10
 λs=>⟨0,s.n,.k s.acc::s.i,s.p⟩,
 λs=>n2 s .add,-- 12
 λs=>np s .G7,
 λs=>np s .ltN,
 λs=>np s .Hn,
 λs=>ni s .cast,-- 16
 λs=>ip s .G8,
 λs=>ip s .ltI,
 λs=>ip s .Ho,
 λs=>i2 s .add,-- 20
 λs=>i2 s .sub,
 λs=>n2 s .sub,
 λs=>p1 s .not,
 λs=>n1 s (.nk s.acc),-- 24
 λs=>n1 s (.nc · s.acc),
 λs=>i1 s (.nk s.acc),
 λs=>i1 s (.nc · s.acc),
 λs=>i1 s .neg,-- 28
 λs=>Ry s .abs,
 λs=>Ry s .toN,
 λs=>match s.acc with -- 31
  | 0=>p2 s .and
  | 1=>p2 s .or
  | 2=>p2 s .imp
  | 3=>⟨0,s.n,s.i,.ff::s.p⟩
  | 4=>n2 s .max
  | _=>n2 s .min]
noncomputable def CP:List (dS→dS)→Nat→dS→dS
 | [],_,s=>s
 | f::l,i,s=>match i with
  | 0=>f s
  | i+1=>CP l i s
noncomputable def Cn (d:Nat) (s:dS):dS:=match dZ d 7 with
 | true=>⟨s.acc*8+d,s.n,s.i,s.p⟩
 | false=>CP gE (d-8) s
noncomputable def Cy:Nat→Nat→dS→dS
 | 0,_,s=>s
 | f+1,c,s=>match c with
  | 0=>s
  | c+1=>Cy f ((c+1)/32) (Cn ((c+1) % 32) s)
noncomputable def Co (c:Nat):List Pr:=(Cy 300 (c/256) ⟨0,[],[],[]⟩).p
noncomputable def bP (c:Nat):Prop:=match Co c with
 | g::hs=>yN (c % 16) λns=>yM (c/16 % 16) λis=>yk ns is hs (g.den ns is)
 | []=>True
noncomputable def la:List Int→List Int→List Int
 | [],m=>m
 | a::l,m=>match m with
  | []=>a::l
  | b::m=>(a+b)::la l m
noncomputable def ls (c:Int):List Int→List Int
 | []=>[]
 | a::l=>c*a::ls c l
noncomputable def un:Nat→List Int
 | 0=>[1]
 | n+1=>0::un n
noncomputable def l8 (z:Nat→Int):Nat→List Int→Int
 | _,[]=>0
 | k,a::l=>a*z k+l8 z (k+1) l
noncomputable def jx (z:Nat→Int) (k:Nat):List Int→Int
 | []=>0
 | a::l=>a+l8 z k l
theorem N5 {z:Nat→Int}:∀ {k:Nat}(l m:List Int),l8 z k (la l m)=l8 z k l+l8 z k m
 | k,[],m=>(ji _).symm
 | k,a::l,[]=>(dw _).symm
 | k,a::l,b::m=>by show(a+b)*z k+l8 z (k+1) (la l m)=a*z k+l8 z (k+1) l+(b*z k+l8 z (k+1) m);rw[N5 l m,Int.add_mul];lia
theorem N6 {z:Nat→Int}(c:Int):∀ {k:Nat}(l:List Int),l8 z k (ls c l)=c*l8 z k l
 | k,[]=>(lG _).symm
 | k,a::l=>by show c*a*z k+l8 z (k+1) (ls c l)=c*(a*z k+l8 z (k+1) l);rw[N6 c l,sm,ku]
theorem A3 {z:Nat→Int}{k:Nat}:∀ l m:List Int,jx z k (la l m)=jx z k l+jx z k m
 | [],m=>(ji _).symm
 | a::l,[]=>(dw _).symm
 | a::l,b::m=>by show a+b+l8 z k (la l m)=a+l8 z k l+(b+l8 z k m);rw[N5];lia
theorem pZ {z:Nat→Int}(c:Int){k:Nat}:∀ l:List Int,jx z k (ls c l)=c*jx z k l
 | []=>(lG _).symm
 | a::l=>by show c*a+l8 z k (ls c l)=c*(a+l8 z k l);rw[N6,sm]
theorem N7 {z:Nat→Int}:∀ (j k:Nat),l8 z k (un j)=z (k+j)
 | 0,k=>by show 1*z k+0=z k;lia
 | j+1,k=>by show 0*z k+l8 z (k+1) (un j)=_;rw[N7 j,lF,ji,Nat.add_right_comm,Nat.add_assoc]
noncomputable def h2:List Int→Int
 | []=>0
 | _::l=>match l with
  | []=>0
  | a::_=>a
noncomputable def t2:List Int→List Int
 | []=>[]
 | c::l=>c::l.tail
noncomputable def pE:Int→Bool
 | .ofNat _=>false
 | .negSucc _=>true
noncomputable def fm:Nat→List (List Int)→Bool
 | 0,cs=>cs.any λl=>match l with
  | c::l=>pE c&&l.isEmpty
  | []=>false
 | n+1,cs=>fm n ((cs.filter λl=>!pE (h2 l)&&!pE (-h2 l)).map t2++(cs.filter λl=>pE (-h2 l)).flatMap λp=>(cs.filter λl=>pE (h2 l)).map λq=>la (ls (-h2 q) (t2 p)) (ls (h2 p) (t2 q)))
theorem IX {x:Int}(h:pE x=true):x<0:=by
 cases x with
 | ofNat _=>cases h
 | negSucc n=>exact Int.negSucc_lt_zero n
theorem Ol {x:Int}(h:pE x=false):0≤x:=by
 cases x with
 | ofNat n=>exact ur n
 | negSucc _=>cases h
theorem NP {z:Nat→Int}{k:Nat}:∀ l:List Int,jx z k l=h2 l*z k+jx z (k+1) (t2 l)
 | []=>by show(0:Int)=0*z k+0;lia
 | [c]=>by show c+0=0*z k+(c+0);lia
 | c::a::l=>by show c+(a*z k+l8 z (k+1) l)=a*z k+(c+l8 z (k+1) l);lia
theorem NR {z:Nat→Int}:∀ (n:Nat){k:Nat}{cs:List (List Int)},(∀ l∈cs,0≤jx z k l)→fm n cs=true→False
 | 0,k,cs,h,f=>by
  obtain⟨l,hl,q⟩:=List.any_eq_true.mp f
  cases l with
  | nil=>cases q
  | cons c l=>
   have q:=bQ.mp q
   have:=h _ hl
   rw[lV.mp q.2] at this
   have e:=IX q.1
   change 0≤c+0 at this
   lia
 | n+1,k,cs,h,f=>by
  refine NR (z:=z) n (k:=k+1) (λl hl=>?_) f
  rcases aP.mp hl with hl | hl
  ·obtain⟨m,hm,rfl⟩:=aE.mp hl
   obtain⟨hm,q⟩:=gC.mp hm
   have q:=bQ.mp q
   have q1:=Ol (uv _ |>.mp q.1)
   have q2:=Ol (uv _ |>.mp q.2)
   have e:=h _ hm
   rw[NP,show h2 m=0 by lia,lF,ji] at e
   exact e
  ·obtain⟨p,hp,hl⟩:=bN.mp hl
   obtain⟨q,hq,rfl⟩:=aE.mp hl
   obtain⟨hp,ap⟩:=gC.mp hp
   obtain⟨hq,aq⟩:=gC.mp hq
   have ap:=IX ap
   have aq:=IX aq
   have e1:=h _ hp
   have e2:=h _ hq
   rw[NP] at e1 e2
   rw[A3,pZ,pZ]
   generalize jx z (k+1) (t2 p)=X at *
   generalize jx z (k+1) (t2 q)=Y at *
   generalize h2 p=a at *
   generalize h2 q=b at *
   have f1:=Ay (show 0≤-b by lia) e1
   have f2:=Ay (show 0≤a by lia) e2
   rw[sm] at f1 f2
   have:-b*(a*z k)+a*(b*z k)=0:=by rw[Int.neg_mul,←ku,←ku,qO b a];lia
   lia
noncomputable abbrev Alt:=List (List Int)×List Int
noncomputable def jS (A B:List Alt) (g:List Int→List Int→List Alt):List Alt:=A.flatMap λp=>B.flatMap λq=>(g p.2 q.2).map λr=>(p.1++q.1++r.1,r.2)
noncomputable def sb (a b:List Int):List Int:=la a (ls (-1) b)
mutual
noncomputable def NT.iT:NT→List Alt
 | .v i=>[([],0::un (2*i))]
 | .k n=>[([],[(n:Int)])]
 | .add a b=>jS a.iT b.iT λa b=>[([],la a b)]
 | .sub a b=>jS a.iT b.iT λa b=>[([sb a b],sb a b),([sb b a],[])]
 | .nk n a=>jS a.iT [([],[])] λa Z=>[([],ls n a)]
 | .nc a n=>jS a.iT [([],[])] λa Z=>[([],ls n a)]
 | .max a b=>jS a.iT b.iT λa b=>[([sb a b],a),([sb b a],b)]
 | .min a b=>jS a.iT b.iT λa b=>[([sb a b],b),([sb b a],a)]
 | .abs a=>jS a.iT [([],[])] λa b=>[([a],a),([sb b a],sb b a)]
 | .toN a=>jS a.iT [([],[])] λa b=>[([a],a),([sb b a],[])]
noncomputable def IT.iT:IT→List Alt
 | .v i=>[([],0::un (2*i+1))]
 | .k n=>[([],[(n:Int)])]
 | .add a b=>jS a.iT b.iT λa b=>[([],la a b)]
 | .sub a b=>jS a.iT b.iT λa b=>[([],sb a b)]
 | .nk n a=>jS a.iT [([],[])] λa Z=>[([],ls n a)]
 | .nc a n=>jS a.iT [([],[])] λa Z=>[([],ls n a)]
 | .neg a=>jS a.iT [([],[])] λa b=>[([],sb b a)]
 | .cast a=>a.iT
end
noncomputable def xN (A B:List Alt) (g:List Int→List Int→List (List (List Int))):List (List (List Int)):=(jS A B λa b=>(g a b).map λc=>(c,[])).map (·.1)
noncomputable def z9 (a b:List Int):List Int:=la (sb b a) [-1]
noncomputable def wa (A B:List (List (List Int))):List (List (List Int)):=A.flatMap λa=>B.map λb=>a++b
noncomputable def KL (A B:List Alt):Bool→List (List (List Int))
 | true=>xN A B λa b=>[[sb b a]]
 | false=>xN A B λa b=>[[z9 b a]]
noncomputable def KJ (A B:List Alt):Bool→List (List (List Int))
 | true=>xN A B λa b=>[[z9 a b]]
 | false=>xN A B λa b=>[[sb a b]]
noncomputable def KN (A B:List Alt):Bool→List (List (List Int))
 | true=>xN A B λa b=>[[sb b a,sb a b]]
 | false=>xN A B λa b=>[[z9 a b],[z9 b a]]
noncomputable def Pr.cv:Pr→Bool→List (List (List Int))
 | .G7 a b,o=>KL a.iT b.iT o
 | .ltN a b,o=>KJ a.iT b.iT o
 | .Hn a b,o=>KN a.iT b.iT o
 | .G8 a b,o=>KL a.iT b.iT o
 | .ltI a b,o=>KJ a.iT b.iT o
 | .Ho a b,o=>KN a.iT b.iT o
 | .not p,o=>p.cv !o
 | .and p q,o=>if o then wa (p.cv o) (q.cv o) else p.cv o++q.cv o
 | .or p q,o=>if o then p.cv o++q.cv o else wa (p.cv o) (q.cv o)
 | .imp p q,o=>if o then p.cv false++q.cv o else wa (p.cv true) (q.cv o)
 | .ff,o=>if o then [] else [[]]
noncomputable def rf (n:Nat):List (List (List (List Int)))→List (List Int)→Bool
 | [],l=>fm n l
 | d::ds,l=>d.all λc=>rf n ds (c++l)
noncomputable def nn:Nat→List (List Int)
 | 0=>[]
 | n+1=>(0::un (2*n))::nn n
noncomputable def Mh (c:Nat):Bool:=match Co c with
 | g::hs=>rf (2*Nat.max (c % 16) (c/16 % 16)) (g.cv false::hs.map λp=>p.cv true) (nn (c % 16))
 | []=>true
section
variable {z:Nat→Int}
noncomputable def iq (z:Nat→Int) (A:List Alt) (x:Int):Prop:=∃ p∈A,(∀ g∈p.1,0≤jx z 0 g)∧jx z 0 p.2=x
noncomputable def Dn (z:Nat→Int) (D:List (List (List Int))):Prop:=∃ c∈D,∀ g∈c,0≤jx z 0 g
theorem iq.jS {A B:List Alt}{x y r:Int}{g:List Int→List Int→List Alt}(hA:iq z A x) (hB:iq z B y) (h:∀ a b,jx z 0 a=x→jx z 0 b=y→iq z (g a b) r):iq z (jS A B g) r:=by
 obtain⟨p,hp,gp,ep⟩:=hA
 obtain⟨q,hq,gq,eq⟩:=hB
 obtain⟨s,hs,gs,es⟩:=h _ _ ep eq
 refine⟨_,bN.mpr ⟨p,hp,bN.mpr ⟨q,hq,aE.mpr ⟨s,hs,rfl⟩⟩⟩,λc hc=>?_,es⟩
 rcases aP.mp hc with hc | hc
 ·exact(aP.mp hc).elim (gp c) (gq c)
 ·exact gs c hc
theorem iq.one {a:List Int}{x:Int}(h:jx z 0 a=x):iq z [([],a)] x:=⟨_,.head _,(λZ q=>nomatch q),h⟩
theorem iq.two {a b c d:List Int}{x:Int}(h:0≤jx z 0 a∧jx z 0 b=x∨0≤jx z 0 c∧jx z 0 d=x):iq z [([a],b),([c],d)] x:=by
 rcases h with h | h
 ·exact⟨_,.head _,λg q=>by rw[aK.mp q];exact h.1,h.2⟩
 ·exact⟨_,.tail _ (.head _),λg q=>by rw[aK.mp q];exact h.1,h.2⟩
theorem pe (a b:List Int):jx z 0 (sb a b)=jx z 0 a-jx z 0 b:=by rw[sb,A3,pZ];lia
theorem FX (a b:List Int):jx z 0 (z9 a b)=jx z 0 b-jx z 0 a-1:=by rw[z9,A3,pe];rfl
variable {ns:List Nat}{is:List Int}
theorem yG (j:Nat):jx z 0 (0::un j)=z j:=by show 0+l8 z 0 (un j)=_;rw[N7,ji,aX]
theorem Dc (x y:Nat):0≤(x:Int)-y∧(x:Int)-y=((x-y:Nat):Int)∨0≤(y:Int)-x∧0=((x-y:Nat):Int):=(qH y x).elim (λh=>.inl ⟨cu (dv.mpr h),(Int.ofNat_sub h).symm⟩) λh=>.inr ⟨cu (dv.mpr h),congrArg j5 (Nat.sub_eq_zero_of_le h).symm⟩
theorem De (x y:Nat):0≤(x:Int)-y∧(x:Int)=((max x y:Nat):Int)∨0≤(y:Int)-x∧(y:Int)=((max x y:Nat):Int):=(qH y x).elim (λh=>.inl ⟨cu (dv.mpr h),congrArg j5 (Nat.max_eq_left h).symm⟩) λh=>.inr ⟨cu (dv.mpr h),congrArg j5 (Nat.max_eq_right h).symm⟩
theorem Dd (x y:Nat):0≤(x:Int)-y∧(y:Int)=((min x y:Nat):Int)∨0≤(y:Int)-x∧(x:Int)=((min x y:Nat):Int):=(qH y x).elim (λh=>.inl ⟨cu (dv.mpr h),congrArg j5 (Nat.min_eq_right h).symm⟩) λh=>.inr ⟨cu (dv.mpr h),congrArg j5 (yY h).symm⟩
theorem Df (x:Int):0≤x∧x=(x.natAbs:Int)∨0≤0-x∧0-x=(x.natAbs:Int):=(HE 0 x).elim (λh=>.inl ⟨h,(Int.natAbs_of_nonneg h).symm⟩) λh=>.inr ⟨cu h,(HC x).trans (Int.ofNat_natAbs_of_nonpos h).symm⟩
theorem C' (x:Int):0≤x∧x=(x.toNat:Int)∨0≤0-x∧0=(x.toNat:Int):=(HE 0 x).elim (λh=>.inl ⟨h,(Int.toNat_of_nonneg h).symm⟩) λh=>.inr ⟨cu h,congrArg j5 (Int.toNat_of_nonpos h).symm⟩
mutual
theorem NT.ok (hn:∀ i,z (2*i)=wG ns i) (hi:∀ i,z (2*i+1)=yS is i):∀ t:NT,iq z t.iT (t.den ns is:Int)
 | .v i=>.one ((yG _).trans (hn i))
 | .k n=>.one (dw _)
 | .add a b=>(NT.ok hn hi a).jS (NT.ok hn hi b) λp q hp hq=>.one (by rw[A3,hp,hq];rfl)
 | .sub a b=>(NT.ok hn hi a).jS (NT.ok hn hi b) λp q hp hq=>.two (by rw[pe,pe,hp,hq];exact Dc _ _)
 | .nk n a=>(NT.ok hn hi a).jS (.one rfl) λp q hp hq=>.one (by rw[pZ,hp];rfl)
 | .nc a n=>(NT.ok hn hi a).jS (.one rfl) λp q hp hq=>.one (by rw[pZ,hp,qO];rfl)
 | .max a b=>(NT.ok hn hi a).jS (NT.ok hn hi b) λp q hp hq=>.two (by rw[pe,pe,hp,hq];exact De _ _)
 | .min a b=>(NT.ok hn hi a).jS (NT.ok hn hi b) λp q hp hq=>.two (by rw[pe,pe,hp,hq];exact Dd _ _)
 | .abs a=>(IT.ok hn hi a).jS (.one (x:=0) rfl) λp q hp hq=>.two (by rw[pe,hp,hq];exact Df _)
 | .toN a=>(IT.ok hn hi a).jS (.one (x:=0) rfl) λp q hp hq=>.two (by rw[pe,hp,hq];exact C' _)
theorem IT.ok (hn:∀ i,z (2*i)=wG ns i) (hi:∀ i,z (2*i+1)=yS is i):∀ t:IT,iq z t.iT (t.den ns is)
 | .v i=>.one ((yG _).trans (hi i))
 | .k n=>.one (dw _)
 | .add a b=>(IT.ok hn hi a).jS (IT.ok hn hi b) λp q hp hq=>.one (by rw[A3,hp,hq];rfl)
 | .sub a b=>(IT.ok hn hi a).jS (IT.ok hn hi b) λp q hp hq=>.one (by rw[pe,hp,hq];rfl)
 | .nk n a=>(IT.ok hn hi a).jS (.one rfl) λp q hp hq=>.one (by rw[pZ,hp];rfl)
 | .nc a n=>(IT.ok hn hi a).jS (.one rfl) λp q hp hq=>.one (by rw[pZ,hp,qO];rfl)
 | .neg a=>(IT.ok hn hi a).jS (.one (x:=0) rfl) λp q hp hq=>.one (by rw[pe,hp,hq];exact HC _)
 | .cast a=>NT.ok hn hi a
end
theorem zI {A B:List Alt}{x y:Int}{g:List Int→List Int→List (List (List Int))}(hA:iq z A x) (hB:iq z B y) (h:∀ a b,jx z 0 a=x→jx z 0 b=y→Dn z (g a b)):Dn z (xN A B g):=by
 obtain⟨p,hp,gp,_⟩:=hA.jS hB (r:=0) (g:=λa b=>(g a b).map λc=>(c,[])) λa b ha hb=>by
  obtain⟨c,hc,gc⟩:=h a b ha hb
  exact⟨_,aE.mpr ⟨c,hc,rfl⟩,gc,rfl⟩
 exact⟨_,aE.mpr ⟨p,hp,rfl⟩,gp⟩
theorem Dn.one {a:List Int}(h:0≤jx z 0 a):Dn z [[a]]:=⟨_,.head _,λg q=>by rw[aK.mp q];exact h⟩
theorem Dn.left {A B:List (List (List Int))}(h:Dn z A):Dn z (A++B):=let ⟨c,hc,g⟩:=h;⟨c,ba _ hc,g⟩
theorem Dn.right {A B:List (List (List Int))}(h:Dn z B):Dn z (A++B):=let ⟨c,hc,g⟩:=h;⟨c,bg _ hc,g⟩
theorem Dn.wa {A B:List (List (List Int))}(h:Dn z A) (h':Dn z B):Dn z (wa A B):=by
 obtain⟨c,hc,g⟩:=h
 obtain⟨d,hd,f⟩:=h'
 exact⟨_,bN.mpr ⟨c,hc,aE.mpr ⟨d,hd,rfl⟩⟩,λx hx=>(aP.mp hx).elim (g x) (f x)⟩
theorem F7 {A B:List Alt}{x y:Int}(hA:iq z A x) (hB:iq z B y) (o:Bool) (h:o=decide (x≤y)):Dn z (KL A B o):=by
 cases o
 ·exact zI hA hB λa b ha hb=>.one (by rw[FX,ha,hb];have:=of_decide_eq_false h.symm;lia)
 ·exact zI hA hB λa b ha hb=>.one (by rw[pe,ha,hb];have:=of_decide_eq_true h.symm;lia)
theorem F8 {A B:List Alt}{x y:Int}(hA:iq z A x) (hB:iq z B y) (o:Bool) (h:o=decide (x<y)):Dn z (KJ A B o):=by
 cases o
 ·exact zI hA hB λa b ha hb=>.one (by rw[pe,ha,hb];have:=of_decide_eq_false h.symm;lia)
 ·exact zI hA hB λa b ha hb=>.one (by rw[FX,ha,hb];have:=of_decide_eq_true h.symm;lia)
theorem F6 {A B:List Alt}{x y:Int}(hA:iq z A x) (hB:iq z B y) (o:Bool) (h:o=decide (x=y)):Dn z (KN A B o):=by
 cases o
 ·refine zI hA hB λa b ha hb=>?_
  have:=of_decide_eq_false h.symm
  by_cases q:x<y
  ·exact Dn.left (A:=[[_]]) (.one (by rw[FX,ha,hb];lia))
  ·exact Dn.right (A:=[[_]]) (.one (by rw[FX,ha,hb];lia))
 ·refine zI hA hB λa b ha hb=>⟨_,.head _,λg q=>?_⟩
  have:=of_decide_eq_true h.symm
  rcases aC.mp q with rfl | q
  ·rw[pe,ha,hb];lia
  ·rw[aK.mp q,pe,ha,hb];lia
theorem oO (hn:∀ i,z (2*i)=wG ns i) (hi:∀ i,z (2*i+1)=yS is i):∀ (p:Pr),(p.den ns is→Dn z (p.cv true))∧(¬ p.den ns is→Dn z (p.cv false))
 | .G7 a b=>⟨λh=>F7 (a.ok hn hi) (b.ok hn hi) true (decide_eq_true (dv.mpr h)).symm,λh=>F7 (a.ok hn hi) (b.ok hn hi) false (decide_eq_false λq=>h (dv.mp q)).symm⟩
 | .ltN a b=>⟨λh=>F8 (a.ok hn hi) (b.ok hn hi) true (decide_eq_true (qM.mpr h)).symm,λh=>F8 (a.ok hn hi) (b.ok hn hi) false (decide_eq_false λq=>h (qM.mp q)).symm⟩
 | .Hn a b=>⟨λh=>F6 (a.ok hn hi) (b.ok hn hi) true (decide_eq_true (congrArg _ h)).symm,λh=>F6 (a.ok hn hi) (b.ok hn hi) false (decide_eq_false λq=>h (j5.inj q)).symm⟩
 | .G8 a b=>⟨λh=>F7 (a.ok hn hi) (b.ok hn hi) true (decide_eq_true (show a.den ns is≤b.den ns is from h)).symm,λh=>F7 (a.ok hn hi) (b.ok hn hi) false (decide_eq_false (show ¬ a.den ns is≤b.den ns is from h)).symm⟩
 | .ltI a b=>⟨λh=>F8 (a.ok hn hi) (b.ok hn hi) true (decide_eq_true (show a.den ns is<b.den ns is from h)).symm,λh=>F8 (a.ok hn hi) (b.ok hn hi) false (decide_eq_false (show ¬ a.den ns is<b.den ns is from h)).symm⟩
 | .Ho a b=>⟨λh=>F6 (a.ok hn hi) (b.ok hn hi) true (decide_eq_true (show a.den ns is=b.den ns is from h)).symm,λh=>F6 (a.ok hn hi) (b.ok hn hi) false (decide_eq_false (show ¬ a.den ns is=b.den ns is from h)).symm⟩
 | .not p=>⟨(oO hn hi p).2,λh=>(oO hn hi p).1 (Classical.not_not.mp h)⟩
 | .and p q=>⟨λh=>((oO hn hi p).1 h.1).wa ((oO hn hi q).1 h.2),λh=>(bA (p.den ns is)).elim (λhp=>.right ((oO hn hi q).2 λhq=>h ⟨hp,hq⟩)) λhp=>.left ((oO hn hi p).2 hp)⟩
 | .or p q=>⟨λh=>h.elim (λh=>.left ((oO hn hi p).1 h)) λh=>.right ((oO hn hi q).1 h),λh=>((oO hn hi p).2 λx=>h (.inl x)).wa ((oO hn hi q).2 λx=>h (.inr x))⟩
 | .imp p q=>⟨λh=>(bA (p.den ns is)).elim (λhp=>.right ((oO hn hi q).1 (h hp))) λhp=>.left ((oO hn hi p).2 hp),λh=>(bA (p.den ns is)).elim (λhp=>((oO hn hi p).1 hp).wa ((oO hn hi q).2 λhq=>h λZ=>hq)) λhp=>(h λx=>(hp x).elim).elim⟩
 | .ff=>⟨λh=>h.elim,λZ=>⟨_,.head _,λZ q=>nomatch q⟩⟩
theorem NL {n:Nat}:∀ {ds:List (List (List (List Int)))}{l:List (List Int)},(∀ d∈ds,Dn z d)→(∀ g∈l,0≤jx z 0 g)→rf n ds l=true→False
 | [],l,_,hl,h=>NR n hl h
 | d::ds,l,hd,hl,h=>by
  obtain⟨c,hc,g⟩:=hd d (.head _)
  exact NL (λd q=>hd d (.tail _ q)) (λx hx=>(aP.mp hx).elim (g x) (hl x)) (aA.mp h c hc)
theorem OZ {G:Prop}:∀ {hs:List Pr},((∀ p∈hs,p.den ns is)→G)→yk ns is hs G
 | [],h=>h λZ q=>nomatch q
 | p::hs,h=>OZ (hs:=hs) λk hp=>h λq hq=>by
  rcases aC.mp hq with rfl | hq
  ·exact hp
  ·exact k q hq
theorem NH (hn:∀ i,z (2*i)=wG ns i):∀ n,∀ g∈nn n,0≤jx z 0 g
 | n+1,g,hg=>by
  rcases aC.mp hg with rfl | hg
  ·rw[yG,hn];exact ur _
  ·exact NH hn n g hg
end
theorem OG:∀ {n:Nat}{f:List Nat→Prop},(∀ l,f l)→yN n f
 | 0,_,h=>h _
 | n+1,_,h=>λx=>OG λl=>h _
theorem OH:∀ {n:Nat}{f:List Int→Prop},(∀ l,f l)→yM n f
 | 0,_,h=>h _
 | n+1,_,h=>λx=>OH λl=>h _
set_option tactic.hygienic true in
theorem rl (c:Nat) (h:Mh c=true):bP c:=by
 unfold bP
 unfold Mh at h
 split at h
 ·rename_i g hs _
  refine OG λns=>OH λis=>OZ λhp=>?_
  refine gD λhg=>?_
  obtain⟨z,hn,hi⟩:∃ z:Nat→Int,(∀ i,z (2*i)=wG ns i)∧∀ i,z (2*i+1)=yS is i:=⟨λk=>if k % 2=0 then (wG ns (k/2):Int) else yS is (k/2),λi=>by
   show(if 2*i % 2=0 then _ else _)=_
   rw[if_pos (by lia),show 2*i/2=i by lia],λi=>by
   show(if (2*i+1) % 2=0 then _ else _)=_
   rw[if_neg (by lia),show(2*i+1)/2=i by lia]⟩
  refine NL (λd hd=>?_) (NH hn _) h
  rcases aC.mp hd with rfl | hd
  ·exact(oO hn hi g).2 hg
  ·obtain⟨p,h1,rfl⟩:=aE.mp hd
   exact(oO hn hi p).1 (hp p h1)
 ·trivial
end Mine.Internal.R
namespace Mine.Internal
section
theorem rl (c:Nat) (h:R.Mh c=true):R.bP c:=R.rl c h
theorem ir:R.bP 0xd480a70a1a90046801:=R.rl _ rfl
theorem jN:R.bP 0x6a40000000221a90046801:=R.rl _ rfl
theorem j6:R.bP 0x6a40000000221a92102801:=R.rl _ rfl
theorem mY:R.bP 0xd48000000044352029c2801:=R.rl _ rfl
theorem oN:R.bP 0x35090b5890a12401:=R.rl _ rfl
theorem pd:R.bP 0x35091b5890a12401:=R.rl _ rfl
theorem qR:R.bP 0x6a40000000221a9000000008801:=R.rl _ rfl
theorem rP:R.bP 0x3501435016242802:=R.rl _ rfl
theorem sC:R.bP 0xd480000000443d01435242050102:=R.rl _ rfl
theorem tV:R.bP 0x720287202802:=R.rl _ rfl
theorem tU:R.bP 0x35243a48400:=R.rl _ rfl
theorem tT:R.bP 0xbcd75505579a82a20:=R.rl _ rfl
theorem vN:R.bP 0x35090b5890a12201:=R.rl _ rfl
theorem vM:R.bP 0x3509135890a12301:=R.rl _ rfl
theorem vL:R.bP 0x250406087202802:=R.rl _ rfl
theorem vK:R.bP 0x1cc4850801:=R.rl _ rfl
theorem vJ:R.bP 0x1c900000000886a46801:=R.rl _ rfl
theorem xf:R.bP 0xe459214390901:=R.rl _ rfl
theorem xe:R.bP 0x3901435016242802:=R.rl _ rfl
theorem xd:R.bP 0x6a1216a12501:=R.rl _ rfl
theorem xc:R.bP 0xbcd704390901:=R.rl _ rfl
theorem xb:R.bP 0x35090b5890a12701:=R.rl _ rfl
theorem xa:R.bP 0x1c80a1e80b1890a04803:=R.rl _ rfl
theorem w9:R.bP 0x3520000000112200:=R.rl _ rfl
theorem w8:R.bP 0x6a1216a12401:=R.rl _ rfl
theorem w7:R.bP 0xbcd6af87e19ac6a9ac4a9ac2a10:=R.rl _ rfl
theorem w6:R.bP 0x35090b5890a12501:=R.rl _ rfl
theorem zr:R.bP 0x8c10b01:=R.rl _ rfl
theorem zp:R.bP 0xd420377202802:=R.rl _ rfl
theorem zk:R.bP 0x6a1246a12501:=R.rl _ rfl
theorem zj:R.bP 0xd4242d424a201:=R.rl _ rfl
theorem zi:R.bP 0x720297202802:=R.rl _ rfl
theorem zh:R.bP 0xe409017a1027210103:=R.rl _ rfl
theorem ze:R.bP 0x350cb24364050c485017210102:=R.rl _ rfl
theorem zd:R.bP 0x3520000000110f4050d4910102:=R.rl _ rfl
theorem zc:R.bP 0xd48d2100:=R.rl _ rfl
theorem zw:R.bP 0xe493aaf87e19ac6a9ac4a9ac2a10:=R.rl _ rfl
theorem zv:R.bP 0xd4244d4240101:=R.rl _ rfl
theorem zu:R.bP 0x35092102d4240000000000000000201:=R.rl _ rfl
theorem zt:R.bP 0x3520290c739ce74800100:=R.rl _ rfl
theorem A0:R.bP 0x179ae08bbd2801:=R.rl _ rfl
theorem AZ:R.bP 0xbca080c1177202802:=R.rl _ rfl
theorem AY:R.bP 0x3509235890a12501:=R.rl _ rfl
theorem AX:R.bP 0x1a80a1ac485016242802:=R.rl _ rfl
theorem AW:R.bP 0x9ae089ae0801:=R.rl _ rfl
theorem AV:R.bP 0x35890a12101:=R.rl _ rfl
theorem AU:R.bP 0x39096a1017202902:=R.rl _ rfl
theorem AS:R.bP 0x177a5017202802:=R.rl _ rfl
theorem AR:R.bP 0x6a1216b1214240101:=R.rl _ rfl
theorem AQ:R.bP 0x7244900:=R.rl _ rfl
theorem AP:R.bP 0x7246900:=R.rl _ rfl
theorem AO:R.bP 0x352000000011890e0486a46801:=R.rl _ rfl
theorem AN:R.bP 0x1a900000000886a46801:=R.rl _ rfl
theorem AM:R.bP 0x3520000000112100:=R.rl _ rfl
theorem AL:R.bP 0xf87e17a4687a4487a4286a4686a12101:=R.rl _ rfl
theorem AK:R.bP 0x1a90148639ce73a40500:=R.rl _ rfl
theorem AJ:R.bP 0x3520000000110d4882801:=R.rl _ rfl
theorem AI:R.bP 0xd48d2200:=R.rl _ rfl
theorem AH:R.bP 0xd48d2300:=R.rl _ rfl
theorem AG:R.bP 0x1a9014e1405a8405a90046802:=R.rl _ rfl
theorem FN:R.bP 0x1a90850d4842801:=R.rl _ rfl
theorem FK:R.bP 0x75901459890a0287210102:=R.rl _ rfl
theorem FI:R.bP 0x92c00000000000000000000000000153d01f29c8405a9000000008812:=R.rl _ rfl
theorem FH:R.bP 0x128214f407ca7210112:=R.rl _ rfl
theorem FG:R.bP 0x720480b9080b9890a04803:=R.rl _ rfl
theorem FF:R.bP 0x3909bbd2801:=R.rl _ rfl
theorem FE:R.bP 0x26b54d6a10:=R.rl _ rfl
theorem FC:R.bP 0x1c8b3121409017210103:=R.rl _ rfl
theorem FA:R.bP 0x6a0287202802:=R.rl _ rfl
theorem Fz:R.bP 0x6a1236a12501:=R.rl _ rfl
theorem Fy:R.bP 0x1a90148639ce73a4c200:=R.rl _ rfl
theorem Fx:R.bP 0x35092b5890a12601:=R.rl _ rfl
theorem Fw:R.bP 0x6a400000002204d43102405a92102803:=R.rl _ rfl
theorem Fv:R.bP 0x6a02c409890a1c80b1026242803:=R.rl _ rfl
theorem Fu:R.bP 0xe4892100:=R.rl _ rfl
theorem Ft:R.bP 0xe405177a1016a02802:=R.rl _ rfl
theorem Fs:R.bP 0x39890a0287202802:=R.rl _ rfl
theorem Fq:R.bP 0x4a085b90901:=R.rl _ rfl
theorem Fp:R.bP 0x37024050e624381202802:=R.rl _ rfl
theorem Fo:R.bP 0x6a40000000221ec487024050d48d0102:=R.rl _ rfl
theorem Fn:R.bP 0x4e8b0c1106242801:=R.rl _ rfl
theorem Fl:R.bP 0x1a900000000880b5242050d62428c090102:=R.rl _ rfl
theorem Fj:R.bP 0x3520290c739ce74800200:=R.rl _ rfl
theorem Fi:R.bP 0xd4912200:=R.rl _ rfl
theorem Fh:R.bP 0xd4912300:=R.rl _ rfl
theorem Fg:R.bP 0xe4803daa82a8ac8a0c541e2c71591515716320:=R.rl _ rfl
theorem Ff:R.bP 0x39096a12201:=R.rl _ rfl
theorem HX:R.bP 0x1150951509418a82a30:=R.rl _ rfl
theorem HW:R.bP 0xd480000000443d0143520000000110102:=R.rl _ rfl
theorem HV:R.bP 0x1a90148639ce73b1080b520290c739ce76202802:=R.rl _ rfl
theorem HU:R.bP 0x4e08aac306242801:=R.rl _ rfl
theorem HT:R.bP 0x3509135890a12501:=R.rl _ rfl
theorem HR:R.bP 0x3d880b121431890a02802:=R.rl _ rfl
theorem HQ:R.bP 0x3902624280bbe5b24281210103:=R.rl _ rfl
theorem HP:R.bP 0x2ff7310143101435880a10102:=R.rl _ rfl
theorem HO:R.bP 0x1a900000000886a4c801:=R.rl _ rfl
theorem HN:R.bP 0x1a900000000880b5890a1016a4c802:=R.rl _ rfl
theorem HM:R.bP 0x721882a02f40d0e409017d921620482206e4110506:=R.rl _ rfl
theorem Io:R.bP 0xf459890e0480e02c485981202802:=R.rl _ rfl
theorem Im:R.bP 0xdb21890a02902:=R.rl _ rfl
theorem Il:R.bP 0x9c2c80a2b0406086a10102:=R.rl _ rfl
theorem Ik:R.bP 0xe412c8121a8409a81b1080bec81312140d0405:=R.rl _ rfl
theorem Ij:R.bP 0x39890a0286a02802:=R.rl _ rfl
theorem Ii:R.bP 0xd480000000443f024050d48d0102:=R.rl _ rfl
theorem Ih:R.bP 0xd4800000004409a81b101435890e041405027e0482206d48d0405:=R.rl _ rfl
theorem Ig:R.bP 0x35016204c4850d4058c485026242803:=R.rl _ rfl
theorem Ie:R.bP 0x5fee621890a02c43121405cc431214050102:=R.rl _ rfl
theorem Ic:R.bP 0x177a1017210102:=R.rl _ rfl
theorem Ib:R.bP 0xe409881b121405e8409c86206c4850104:=R.rl _ rfl
theorem Ia:R.bP 0x1c80a1c80b1026242803:=R.rl _ rfl
theorem H9:R.bP 0xf62436485086a12101:=R.rl _ rfl
theorem H8:R.bP 0x7a02c409890a1e80b1890a04803:=R.rl _ rfl
theorem H7:R.bP 0x390143996409014090e4050203:=R.rl _ rfl
theorem H6:R.bP 0xe49101721016a48802:=R.rl _ rfl
theorem H5:R.bP 0x9410abce0854a0c4850a11:=R.rl _ rfl
theorem H4:R.bP 0x3520000000110d4802801:=R.rl _ rfl
theorem H3:R.bP 0x1c92754e493aa10:=R.rl _ rfl
theorem H2:R.bP 0xbcd75528379a82a20:=R.rl _ rfl
theorem H0:R.bP 0x6a40000000221c92102801:=R.rl _ rfl
theorem HZ:R.bP 0x3524624286a46801:=R.rl _ rfl
theorem HY:R.bP 0x6a400259080b52008d0102:=R.rl _ rfl
theorem Nx:R.bP 0xd48000000044352000000011017a02802:=R.rl _ rfl
theorem Nv:R.bP 0x455c5800000000000000000000000013f158000000045455c580000000410:=R.rl _ rfl
theorem Nu:R.bP 0x24b000000000000000000000000022bf158000000045455c580000000410:=R.rl _ rfl
theorem Nt:R.bP 0x6a40000000221e80a1a9000000008c4850102:=R.rl _ rfl
theorem Nr:R.bP 0x1c92144313121405c9214431312008d98015890a10102:=R.rl _ rfl
theorem Nq:R.bP 0x1a9000000008c4850d48000000046242801:=R.rl _ rfl
theorem Np:R.bP 0x1ac489890a02c62428121ac489016204803:=R.rl _ rfl
theorem Nn:R.bP 0x35890b121407e462068409ac48501409ac489016206804:=R.rl _ rfl
theorem Nm:R.bP 0x3520290c739ce76202c4092413520290c739ce7c090d43102624a2c0d0103:=R.rl _ rfl
theorem Nl:R.bP 0x3520290c739ce76204c6204c4052413121b242813520290c739ce7c090d43101624a2c0d0203:=R.rl _ rfl
theorem Nk:R.bP 0x3524205026b12140502721016a4c803:=R.rl _ rfl
theorem Nj:R.bP 0x1a9210281b5891202c40903721016a4c804:=R.rl _ rfl
theorem Ni:R.bP 0x1a9210281b5891202c40d02721016a4c804:=R.rl _ rfl
theorem Nh:R.bP 0x72400000002204d40502721016a4c803:=R.rl _ rfl
theorem Ng:R.bP 0x3520000000110f4050d4908140da92102813ec90b1034090104:=R.rl _ rfl
theorem Nf:R.bP 0x9c2c90b10145561a4101822ff0bd280bd2802:=R.rl _ rfl
theorem Nd:R.bP 0xd48004b242c4050d49081405a92102802:=R.rl _ rfl
theorem Nc:R.bP 0x3d890d9224058c459890e0484050d405890b3024204d4092103:=R.rl _ rfl
theorem Nb:R.bP 0xd4058c487024242d409216a02c485981210203:=R.rl _ rfl
theorem Na:R.bP 0x3520000000110fb202c48502435242050203:=R.rl _ rfl
theorem M9:R.bP 0x1a92590c485026b12140502721037e0481a02d48d0304:=R.rl _ rfl
theorem M8:R.bP 0xd6242c480b8210280b1090b7046242c40589087001a02802:=R.rl _ rfl
theorem M7:R.bP 0x6a405218e739ce86a400004e010c2801:=R.rl _ rfl
theorem M6:R.bP 0x1a90148639ce73b1086a400004e010c2801:=R.rl _ rfl
theorem M5:R.bP 0x39016204c4850d4058c485026242803:=R.rl _ rfl
theorem M4:R.bP 0xfb98c48501624286202c4850e6202c4850802:=R.rl _ rfl
theorem M3:R.bP 0x7dcc62428624281202e40502fb988624281202e4050203:=R.rl _ rfl
theorem M1:R.bP 0xbfdcc62428624281202e40502bfdcc43121409017202815dec431214090103:=R.rl _ rfl
theorem M0:R.bP 0x6a405218e739cec421a90148639ce73e04801:=R.rl _ rfl
theorem MZ:R.bP 0x720887a06823903409e8131016242805:=R.rl _ rfl
theorem MY:R.bP 0x5fee65921b2028624280a02e4050102:=R.rl _ rfl
theorem MX:R.bP 0x1f0fc3f0bd2343d2243d2143d287248801:=R.rl _ rfl
theorem MW:R.bP 0x3ee62048405a80a04e62048406ee4090103:=R.rl _ rfl
theorem MV:R.bP 0x6b122624280b103631214090d624480b1036204804:=R.rl _ rfl
theorem MU:R.bP 0x8aab040a8b0d6080c1115560815161ac1890a0306242813:=R.rl _ rfl
theorem MT:R.bP 0x12ac110406b042af38202a941890a02a12:=R.rl _ rfl
theorem MS:R.bP 0xe4805daa941f87e19ac6a0cd625066b0a831591515716320:=R.rl _ rfl
theorem MQ:R.bP 0xe4803daa82af87e19ac6a0cd625066b0a831591515716320:=R.rl _ rfl
theorem MP:R.bP 0x3520290c739ce76248c480471e4453850d4882801:=R.rl _ rfl
end
section
theorem dJ {A B:Prop}{G:Prop}(h:A∧B) (k:A→B→G):G:=by
 obtain⟨h0,h1⟩:=h
 exact k h0 h1
theorem gF {α:Sort _}{A:α→Prop}{G:Prop}(h:∃ x,A x) (k:∀ x,A x→G):G:=by
 obtain⟨h0,h1⟩:=h
 exact k h0 h1
theorem fL {A B C:Prop}{G:Prop}(h:A∧B∧C) (k:A→B→C→G):G:=by
 obtain⟨h0,h1,h2⟩:=h
 exact k h0 h1 h2
theorem pD {α:Sort _}{A:Prop}{B:α→Prop}{G:Prop}(h:A∧∃ x,B x) (k:A→∀ x,B x→G):G:=by
 obtain⟨h0,h1,h2⟩:=h
 exact k h0 h1 h2
theorem aT {α:Sort _}{A B:α→Prop}{G:Prop}(h:∃ x,A x∧B x) (k:∀ x,A x→B x→G):G:=by
 obtain⟨h0,h1,h2⟩:=h
 exact k h0 h1 h2
theorem iB {α:Sort _}{β:Sort _}{A:α→β→Prop}{G:Prop}(h:∃ x,∃ y,A x y) (k:∀ x,∀ y,A x y→G):G:=by
 obtain⟨h0,h1,h2⟩:=h
 exact k h0 h1 h2
theorem jR {A B C D:Prop}{G:Prop}(h:A∧B∧C∧D) (k:A→B→C→D→G):G:=by
 obtain⟨h0,h1,h2,h3⟩:=h
 exact k h0 h1 h2 h3
theorem nG {α:Sort _}{A:Prop}{B C:α→Prop}{G:Prop}(h:A∧∃ x,B x∧C x) (k:A→∀ x,B x→C x→G):G:=by
 obtain⟨h0,h1,h2,h3⟩:=h
 exact k h0 h1 h2 h3
theorem iw {α:Sort _}{A B C:α→Prop}{G:Prop}(h:∃ x,A x∧B x∧C x) (k:∀ x,A x→B x→C x→G):G:=by
 obtain⟨h0,h1,h2,h3⟩:=h
 exact k h0 h1 h2 h3
theorem NJ {α:Sort _}{β:Sort _}{A:α→Prop}{B:α→β→Prop}{G:Prop}(h:∃ x,A x∧∃ y,B x y) (k:∀ x,A x→∀ y,B x y→G):G:=by
 obtain⟨h0,h1,h2,h3⟩:=h
 exact k h0 h1 h2 h3
theorem mZ {α:Sort _}{β:Sort _}{A B:α→β→Prop}{G:Prop}(h:∃ x,∃ y,A x y∧B x y) (k:∀ x,∀ y,A x y→B x y→G):G:=by
 obtain⟨h0,h1,h2,h3⟩:=h
 exact k h0 h1 h2 h3
theorem oQ {A B C D E:Prop}{G:Prop}(h:A∧B∧C∧D∧E) (k:A→B→C→D→E→G):G:=by
 obtain⟨h0,h1,h2,h3,h4⟩:=h
 exact k h0 h1 h2 h3 h4
theorem IY {α:Sort _}{A B:Prop}{C D:α→Prop}{G:Prop}(h:A∧B∧∃ x,C x∧D x) (k:A→B→∀ x,C x→D x→G):G:=by
 obtain⟨h0,h1,h2,h3,h4⟩:=h
 exact k h0 h1 h2 h3 h4
theorem vT {α:Sort _}{A B C D:α→Prop}{G:Prop}(h:∃ x,A x∧B x∧C x∧D x) (k:∀ x,A x→B x→C x→D x→G):G:=by
 obtain⟨h0,h1,h2,h3,h4⟩:=h
 exact k h0 h1 h2 h3 h4
theorem rQ {α:Sort _}{β:Sort _}{A B:α→Prop}{C:α→β→Prop}{G:Prop}(h:∃ x,A x∧B x∧∃ y,C x y) (k:∀ x,A x→B x→∀ y,C x y→G):G:=by
 obtain⟨h0,h1,h2,h3,h4⟩:=h
 exact k h0 h1 h2 h3 h4
theorem F3 {α:Sort _}{β:Sort _}{A:α→Prop}{B C:α→β→Prop}{G:Prop}(h:∃ x,A x∧∃ y,B x y∧C x y) (k:∀ x,A x→∀ y,B x y→C x y→G):G:=by
 obtain⟨h0,h1,h2,h3,h4⟩:=h
 exact k h0 h1 h2 h3 h4
theorem nW {α:Sort _}{β:Sort _}{A B C:α→β→Prop}{G:Prop}(h:∃ x,∃ y,A x y∧B x y∧C x y) (k:∀ x,∀ y,A x y→B x y→C x y→G):G:=by
 obtain⟨h0,h1,h2,h3,h4⟩:=h
 exact k h0 h1 h2 h3 h4
theorem F4 {α:Sort _}{β:Sort _}{γ:Sort _}{δ:Sort _}{A:α→β→γ→δ→Prop}{G:Prop}(h:∃ x,∃ y,∃ z,∃ u,A x y z u) (k:∀ x,∀ y,∀ z,∀ u,A x y z u→G):G:=by
 obtain⟨h0,h1,h2,h3,h4⟩:=h
 exact k h0 h1 h2 h3 h4
theorem tY {A B C D E F:Prop}{G:Prop}(h:A∧B∧C∧D∧E∧F) (k:A→B→C→D→E→F→G):G:=by
 obtain⟨h0,h1,h2,h3,h4,h5⟩:=h
 exact k h0 h1 h2 h3 h4 h5
theorem Jj {α:Sort _}{A:Prop}{B C D E:α→Prop}{G:Prop}(h:A∧∃ x,B x∧C x∧D x∧E x) (k:A→∀ x,B x→C x→D x→E x→G):G:=by
 obtain⟨h0,h1,h2,h3,h4,h5⟩:=h
 exact k h0 h1 h2 h3 h4 h5
theorem zU {α:Sort _}{β:Sort _}{A:Prop}{B C D:α→β→Prop}{G:Prop}(h:A∧∃ x,∃ y,B x y∧C x y∧D x y) (k:A→∀ x,∀ y,B x y→C x y→D x y→G):G:=by
 obtain⟨h0,h1,h2,h3,h4,h5⟩:=h
 exact k h0 h1 h2 h3 h4 h5
theorem Bj {α:Sort _}{A B C D E:α→Prop}{G:Prop}(h:∃ x,A x∧B x∧C x∧D x∧E x) (k:∀ x,A x→B x→C x→D x→E x→G):G:=by
 obtain⟨h0,h1,h2,h3,h4,h5⟩:=h
 exact k h0 h1 h2 h3 h4 h5
theorem Bk {α:Sort _}{β:Sort _}{A B C D:α→β→Prop}{G:Prop}(h:∃ x,∃ y,A x y∧B x y∧C x y∧D x y) (k:∀ x,∀ y,A x y→B x y→C x y→D x y→G):G:=by
 obtain⟨h0,h1,h2,h3,h4,h5⟩:=h
 exact k h0 h1 h2 h3 h4 h5
theorem zV {α:Sort _}{β:Sort _}{γ:Sort _}{A B C:α→β→γ→Prop}{G:Prop}(h:∃ x,∃ y,∃ z,A x y z∧B x y z∧C x y z) (k:∀ x,∀ y,∀ z,A x y z→B x y z→C x y z→G):G:=by
 obtain⟨h0,h1,h2,h3,h4,h5⟩:=h
 exact k h0 h1 h2 h3 h4 h5
theorem Vp {α:Sort _}{β:Sort _}{γ:Sort _}{δ:Sort _}{A B:α→β→γ→δ→Prop}{G:Prop}(h:∃ x,∃ y,∃ z,∃ u,A x y z u∧B x y z u) (k:∀ x,∀ y,∀ z,∀ u,A x y z u→B x y z u→G):G:=by
 obtain⟨h0,h1,h2,h3,h4,h5⟩:=h
 exact k h0 h1 h2 h3 h4 h5
theorem Jz {A B C D E F I:Prop}{G:Prop}(h:A∧B∧C∧D∧E∧F∧I) (k:A→B→C→D→E→F→I→G):G:=by
 obtain⟨h0,h1,h2,h3,h4,h5,h6⟩:=h
 exact k h0 h1 h2 h3 h4 h5 h6
theorem PO {α:Sort _}{β:Sort _}{γ:Sort _}{A:Prop}{B C D:α→β→γ→Prop}{G:Prop}(h:A∧∃ x,∃ y,∃ z,B x y z∧C x y z∧D x y z) (k:A→∀ x,∀ y,∀ z,B x y z→C x y z→D x y z→G):G:=by
 obtain⟨h0,h1,h2,h3,h4,h5,h6⟩:=h
 exact k h0 h1 h2 h3 h4 h5 h6
theorem Yn {α:Sort _}{β:Sort _}{γ:Sort _}{A:α→Prop}{B:α→β→Prop}{C D:α→β→γ→Prop}{G:Prop}(h:∃ x,A x∧∃ y,B x y∧∃ z,C x y z∧D x y z) (k:∀ x,A x→∀ y,B x y→∀ z,C x y z→D x y z→G):G:=by
 obtain⟨h0,h1,h2,h3,h4,h5,h6⟩:=h
 exact k h0 h1 h2 h3 h4 h5 h6
theorem JA {α:Sort _}{β:Sort _}{A B C D E:α→β→Prop}{G:Prop}(h:∃ x,∃ y,A x y∧B x y∧C x y∧D x y∧E x y) (k:∀ x,∀ y,A x y→B x y→C x y→D x y→E x y→G):G:=by
 obtain⟨h0,h1,h2,h3,h4,h5,h6⟩:=h
 exact k h0 h1 h2 h3 h4 h5 h6
theorem nU {α:Sort _}{β:Sort _}{γ:Sort _}{A B C D:α→β→γ→Prop}{G:Prop}(h:∃ x,∃ y,∃ z,A x y z∧B x y z∧C x y z∧D x y z) (k:∀ x,∀ y,∀ z,A x y z→B x y z→C x y z→D x y z→G):G:=by
 obtain⟨h0,h1,h2,h3,h4,h5,h6⟩:=h
 exact k h0 h1 h2 h3 h4 h5 h6
theorem PQ {α:Sort _}{β:Sort _}{γ:Sort _}{δ:Sort _}{A B C:α→β→γ→δ→Prop}{G:Prop}(h:∃ x,∃ y,∃ z,∃ u,A x y z u∧B x y z u∧C x y z u) (k:∀ x,∀ y,∀ z,∀ u,A x y z u→B x y z u→C x y z u→G):G:=by
 obtain⟨h0,h1,h2,h3,h4,h5,h6⟩:=h
 exact k h0 h1 h2 h3 h4 h5 h6
theorem JK {A B C D E F I J:Prop}{G:Prop}(h:A∧B∧C∧D∧E∧F∧I∧J) (k:A→B→C→D→E→F→I→J→G):G:=by
 obtain⟨h0,h1,h2,h3,h4,h5,h6,h7⟩:=h
 exact k h0 h1 h2 h3 h4 h5 h6 h7
theorem sJ {α:Sort _}{β:Sort _}{γ:Sort _}{A:Prop}{B C D E:α→β→γ→Prop}{G:Prop}(h:A∧∃ x,∃ y,∃ z,B x y z∧C x y z∧D x y z∧E x y z) (k:A→∀ x,∀ y,∀ z,B x y z→C x y z→D x y z→E x y z→G):G:=by
 obtain⟨h0,h1,h2,h3,h4,h5,h6,h7⟩:=h
 exact k h0 h1 h2 h3 h4 h5 h6 h7
theorem BG {α:Sort _}{β:Sort _}{γ:Sort _}{δ:Sort _}{A B C D:α→β→γ→δ→Prop}{G:Prop}(h:∃ x,∃ y,∃ z,∃ u,A x y z u∧B x y z u∧C x y z u∧D x y z u) (k:∀ x,∀ y,∀ z,∀ u,A x y z u→B x y z u→C x y z u→D x y z u→G):G:=by
 obtain⟨h0,h1,h2,h3,h4,h5,h6,h7⟩:=h
 exact k h0 h1 h2 h3 h4 h5 h6 h7
theorem Qy {A B C D E F I J K:Prop}{G:Prop}(h:A∧B∧C∧D∧E∧F∧I∧J∧K) (k:A→B→C→D→E→F→I→J→K→G):G:=by
 obtain⟨h0,h1,h2,h3,h4,h5,h6,h7,h8⟩:=h
 exact k h0 h1 h2 h3 h4 h5 h6 h7 h8
theorem Qz {α:Sort _}{β:Sort _}{A:Prop}{B C D E F I:α→β→Prop}{G:Prop}(h:A∧∃ x,∃ y,B x y∧C x y∧D x y∧E x y∧F x y∧I x y) (k:A→∀ x,∀ y,B x y→C x y→D x y→E x y→F x y→I x y→G):G:=by
 obtain⟨h0,h1,h2,h3,h4,h5,h6,h7,h8⟩:=h
 exact k h0 h1 h2 h3 h4 h5 h6 h7 h8
theorem QA {α:Sort _}{β:Sort _}{A B C D E F I:α→β→Prop}{G:Prop}(h:∃ x,∃ y,A x y∧B x y∧C x y∧D x y∧E x y∧F x y∧I x y) (k:∀ x,∀ y,A x y→B x y→C x y→D x y→E x y→F x y→I x y→G):G:=by
 obtain⟨h0,h1,h2,h3,h4,h5,h6,h7,h8⟩:=h
 exact k h0 h1 h2 h3 h4 h5 h6 h7 h8
theorem y6L {A B C D E F I J K L:Prop}{G:Prop}(h:A∧B∧C∧D∧E∧F∧I∧J∧K∧L) (k:A→B→C→D→E→F→I→J→K→L→G):G:=by
 obtain⟨h0,h1,h2,h3,h4,h5,h6,h7,h8,h9⟩:=h
 exact k h0 h1 h2 h3 h4 h5 h6 h7 h8 h9
theorem QG {α:Sort _}{β:Sort _}{γ:Sort _}{δ:Sort _}{A B C D E F:α→β→γ→δ→Prop}{G:Prop}(h:∃ x,∃ y,∃ z,∃ u,A x y z u∧B x y z u∧C x y z u∧D x y z u∧E x y z u∧F x y z u) (k:∀ x,∀ y,∀ z,∀ u,A x y z u→B x y z u→C x y z u→D x y z u→E x y z u→F x y z u→G):G:=by
 obtain⟨h0,h1,h2,h3,h4,h5,h6,h7,h8,h9⟩:=h
 exact k h0 h1 h2 h3 h4 h5 h6 h7 h8 h9
end
section
theorem kC {α:Type _}(o:Option α){P:Prop} (k1:o=none→P) (k2:∀ a,o=some a→P):P:=match o,k1,k2 with
 | none,k1,_=>k1 rfl
 | some a,_,k2=>k2 a rfl
theorem osc {α:Type _}(o:Option α){P:Prop} (k2:∀ a,o=some a→P) (k1:o=none→P):P:=kC o k1 k2
theorem EE (b:Bool){P:Prop} (k1:b=true→P) (k2:b=false→P):P:=match b,k1,k2 with
 | true,k1,_=>k1 rfl
 | false,_,k2=>k2 rfl
end
section
set_option genInjectivity true in
inductive DV where
 | none
 | bool (b:Bool)
 | int (i:Int)
 | tup (l:List DV)
 | list (l:List DV)
set_option genInjectivity true in
inductive OT where
 | af (d:DV)
 | own (l:List OT)
 | fI (ks:List (List Int))
theorem wm {M:Model}{A:Around}{α:Type}{t:Sem α}{Q Q':α→Shared→Prop}{E:Value→Shared→Prop}{s:Shared}(h:wpAny M A t Q E s) (hQ:∀ a s,Q a s→Q' a s):wpAny M A t Q' E s:=wpAny_mono h hQ λZ Z x=>x
theorem DV.both {P:DV→Prop}{Q:List DV→Prop} (k1:P .none) (k2:∀ b,P (.bool b)) (k3:∀ i,P (.int i)) (k4:∀ l,Q l→P (.tup l)) (k5:∀ l,Q l→P (.list l)) (k6:Q []) (k7:∀ d l,P d→Q l→Q (d::l)):(∀ d,P d)∧∀ l,Q l:=
 ⟨λd=>DV.rec (motive_1:=P) (motive_2:=Q) k1 k2 k3 k4 k5 k6 k7 d,λl=>DV.rec_1 (motive_1:=P) (motive_2:=Q) k1 k2 k3 k4 k5 k6 k7 l⟩
mutual
inductive Rep (h:Heap) (O:Addr→Prop):Value→DV→Prop
 | none:Rep h O .none .none
 | bool (b:Bool):Rep h O (.bool b) (.bool b)
 | int (i:Int) (t:Tok):Rep h O (.int i t) (.int i)
 | tup {a:Addr}{vs:List Value}{ds:List DV}:h.IsTuple a vs.toArray→¬ O a→bC h O vs ds→Rep h O (.ref a) (.tup ds)
 | list {a:Addr}{vs:List Value}{ds:List DV}:h.IsList a vs.toArray→¬ O a→bC h O vs ds→Rep h O (.ref a) (.list ds)
inductive bC (h:Heap) (O:Addr→Prop):List Value→List DV→Prop
 | nil:bC h O [] []
 | cons {v:Value}{vs:List Value}{d:DV}{ds:List DV}:Rep h O v d→bC h O vs ds→bC h O (v::vs) (d::ds)
end
noncomputable def fW (o:Obj):Prop:=∃ xs n,o.data=.seq xs n
noncomputable def Tr (h:Heap) (O:Addr→Prop) (h':Heap) (O':Addr→Prop):Prop:=∀ a o,¬ O a→h.get? a=some o→fW o→h'.get? a=some o∧¬ O' a
theorem Tr.list {h h':Heap}{O O':Addr→Prop}(T:Tr h O h' O'){a:Addr}{vs:Array Value}(x:h.IsList a vs) (hO:¬ O a):h'.IsList a vs∧¬ O' a:=by
 refine rQ x λo ho hc n hd=>?_;clear x
 have:=T a o hO ho ⟨_,_,hd⟩
 exact⟨⟨o,this.1,hc,n,hd⟩,this.2⟩
theorem Tr.tup {h h':Heap}{O O':Addr→Prop}(T:Tr h O h' O'){a:Addr}{vs:Array Value}(x:h.IsTuple a vs) (hO:¬ O a):h'.IsTuple a vs∧¬ O' a:=by
 refine rQ x λo ho hc n hd=>?_;clear x
 have:=T a o hO ho ⟨_,_,hd⟩
 exact⟨⟨o,this.1,hc,n,hd⟩,this.2⟩
theorem Rep.both {h:Heap}{O:Addr→Prop}{P:Value→DV→Prop}{Q:List Value→List DV→Prop} (k1:P .none .none) (k2:∀ b,P (.bool b) (.bool b)) (k3:∀ i t,P (.int i t) (.int i)) (k4:∀ {a:Addr}{vs ds},h.IsTuple a vs.toArray→¬ O a→Q vs ds→P (.ref a) (.tup ds)) (k5:∀ {a:Addr}{vs ds},h.IsList a vs.toArray→¬ O a→Q vs ds→P (.ref a) (.list ds)) (k6:Q [] []) (k7:∀ {v vs d ds},P v d→Q vs ds→Q (v::vs) (d::ds)) :
  (∀ {v d},Rep h O v d→P v d)∧∀ {vs ds},bC h O vs ds→Q vs ds:=
 ⟨λx=>Rep.rec (motive_1:=λv d Z=>P v d) (motive_2:=λv d Z=>Q v d) k1 k2 k3 (λx o Z=>k4 x o) (λx o Z=>k5 x o) k6 (λZ Z=>k7) x,
 λx=>bC.rec (motive_1:=λv d Z=>P v d) (motive_2:=λv d Z=>Q v d) k1 k2 k3 (λx o Z=>k4 x o) (λx o Z=>k5 x o) k6 (λZ Z=>k7) x⟩
theorem Rep.B2 {h h':Heap}{O O':Addr→Prop}(T:Tr h O h' O'):(∀ {v d},Rep h O v d→Rep h' O' v d)∧∀ {vs ds},bC h O vs ds→bC h' O' vs ds:=
 Rep.both .none .bool .int (λx o r=>.tup (T.tup x o).1 (T.tup x o).2 r) (λx o r=>.list (T.list x o).1 (T.list x o).2 r) .nil .cons
theorem Rep.tr {h h':Heap}{O O':Addr→Prop}(T:Tr h O h' O'){v:Value}{d:DV}(x:Rep h O v d):Rep h' O' v d:=(Rep.B2 T).1 x
theorem bC.tr {h h':Heap}{O O':Addr→Prop}(T:Tr h O h' O'){vs:List Value}{ds:List DV}(x:bC h O vs ds):bC h' O' vs ds:=(Rep.B2 T).2 x
theorem bC.ind {h:Heap}{O:Addr→Prop}{vs:List Value}{ds:List DV}(x:bC h O vs ds){Q:List Value→List DV→Prop} (k6:Q [] []) (k7:∀ {v vs d ds},Rep h O v d→bC h O vs ds→Q vs ds→Q (v::vs) (d::ds)):Q vs ds:=
 (Rep.both (P:=Rep h O) (Q:=λv d=>bC h O v d∧Q v d) .none .bool .int (λx o r=>.tup x o r.1) (λx o r=>.list x o r.1) ⟨.nil,k6⟩ λp q=>⟨.cons p q.1,k7 p q.1 q.2⟩).2 x |>.2
theorem bC.length {h:Heap}{O:Addr→Prop}{vs:List Value}{ds:List DV}(x:bC h O vs ds):vs.length=ds.length:=
 x.ind (Q:=λv d=>v.length=d.length) rfl λZ Z q=>congrArg (·+1) q
theorem bC.get {h:Heap}{O:Addr→Prop}{vs:List Value}{ds:List DV}(x:bC h O vs ds){k:Nat}{d:DV}(hk:ds[k]?=some d):∃ v,vs[k]?=some v∧Rep h O v d:=
 x.ind (Q:=λv d=>∀ k e,d[k]?=some e→∃ u,v[k]?=some u∧Rep h O u e) (λZ Z h=>nomatch kX.symm.trans h) (λr Z q k=>Nat.rec (λZ e=>⟨_,rfl,ai e▸r⟩) (λk Z=>q k) k) k d hk
theorem bC.append {h:Heap}{O:Addr→Prop}{vs ws:List Value}{ds es:List DV}(x:bC h O vs ds) (y:bC h O ws es):bC h O (vs++ws) (ds++es):=
 x.ind (Q:=λv d=>bC h O (v++ws) (d++es)) y λr Z q=>.cons r q
theorem bC.take {h:Heap}{O:Addr→Prop}{vs:List Value}{ds:List DV}(x:bC h O vs ds) (n:Nat):bC h O (vs.take n) (ds.take n):=
 x.ind (Q:=λv d=>∀ n,bC h O (v.take n) (d.take n)) (λn=>by rw[Av,Av];exact .nil) (λr Z q n=>Nat.rec .nil (λn Z=>.cons r (q n)) n) n
theorem bC.drop {h:Heap}{O:Addr→Prop}{vs:List Value}{ds:List DV}(x:bC h O vs ds) (n:Nat):bC h O (vs.drop n) (ds.drop n):=
 x.ind (Q:=λv d=>∀ n,bC h O (v.drop n) (d.drop n)) (λn=>by rw[oG,oG];exact .nil) (λr rs q n=>Nat.rec (.cons r rs) (λn Z=>q n) n) n
theorem bC.reverse {h:Heap}{O:Addr→Prop}{vs:List Value}{ds:List DV}(x:bC h O vs ds):bC h O vs.reverse ds.reverse:=
 x.ind (Q:=λv d=>bC h O v.reverse d.reverse) .nil λr Z q=>by rw[fE,fE];exact q.append (.cons r .nil)
theorem Rep.eU {h:Heap}{O:Addr→Prop}{va:Value}{i:Int}{Q:Value→Prop}(r:Rep h O va (.int i)) (k:∀ t,Q (.int i t)):Q va:=
 (Rep.both (P:=λv d=>∀ i,d=.int i→∃ t,v=.int i t) (Q:=λZ Z=>True) nofun (λZ=>nofun) (λZ t Z e=>⟨t,congrArg (Value.int · t) (DV.int.inj e)⟩) (λZ Z Z=>nofun) (λZ Z Z=>nofun) trivial (λZ Z=>trivial)).1 r i rfl |>.elim λt e=>e▸k t
theorem Rep.vd {h:Heap}{O:Addr→Prop}{v:Value}{i:Int}(r:Rep h O v (.int i)):∃ t,v=.int i t:=r.eU (Q:=λv=>∃ t,v=.int i t) λt=>⟨t,rfl⟩
theorem bC.ints {h:Heap}{O:Addr→Prop}{vs:List Value}{ns:List Int}(x:bC h O vs (ns.map .int)):IntsAre vs ns:=
 x.ind (Q:=λv d=>∀ ns:List Int,d=ns.map .int→IntsAre v ns) (λns e=>j3.mp e.symm▸.nil)
  (λ{_ vs _ _} r Z q ns e=>nW (gh.mp e.symm) λn xY h1 h2 h3=>h1▸(h2▸r).eU (Q:=λv=>IntsAre (v::vs) (n::xY)) λt=>.cons _ _ (q _ h3.symm)) ns rfl
set_option tactic.hygienic true in
theorem bC.ofInts {h:Heap}{O:Addr→Prop}{vs:List Value}{ns:List Int}(x:IntsAre vs ns):bC h O vs (ns.map .int):=
 IntsAre.rec (motive:=λv n Z=>bC h O v (n.map .int)) .nil (λZ Z=>by intros;rename_i q;exact .cons (.int _ _) q) x
theorem Tr.refl (h:Heap) (O:Addr→Prop):Tr h O h O:=λZ Z ho e Z=>⟨e,ho⟩
theorem Tr.keeps {h h':Heap}{O:Addr→Prop}(k:∀ b o,h.get? b=some o→h'.get? b=some o):Tr h O h' O:=λZ Z ho e Z=>⟨k _ _ e,ho⟩
variable {prog:Program}{w:World}
noncomputable def fX (prog:Program) (w:World) (h:Heap) (O:Addr→Prop) (a:Addr) (ks:List (List Int)):Prop:=
 ∃ xs,h.DictOfH (tupleKind (intKind prog w)) a xs∧xs.map (·.1)=ks∧∀ x∈xs,¬ O x.2.1
mutual
inductive bf (prog:Program) (w:World) (h:Heap) (O:Addr→Prop):Value→OT→List Addr→Prop
 | af {v:Value}{d:DV}:Rep h O v d→bf prog w h O v (.af d) []
 | own {a:Addr}{vs:List Value}{ts:List OT}{as:List Addr}:h.PlainList a vs.toArray→aM prog w h O vs ts as→bf prog w h O (.ref a) (.own ts) (a::as)
 | fI {a:Addr}{ks:List (List Int)}:fX prog w h O a ks→bf prog w h O (.ref a) (.fI ks) [a]
inductive aM (prog:Program) (w:World) (h:Heap) (O:Addr→Prop):List Value→List OT→List Addr→Prop
 | nil:aM prog w h O [] [] []
 | cons {v:Value}{vs:List Value}{t:OT}{ts:List OT}{as bs:List Addr}:bf prog w h O v t as→aM prog w h O vs ts bs→aM prog w h O (v::vs) (t::ts) (as++bs)
end
theorem fX.tr {h h':Heap}{O O':Addr→Prop}(T:Tr h O h' O'){a:Addr}{ks:List (List Int)}(x:fX prog w h O a ks) (hk:∀ o,h.get? a=some o→h'.get? a=some o):fX prog w h' O' a ks:=by
 obtain⟨xs,⟨o,es,ep,ho,hc,hd,he,hi,hn⟩,hm,hO⟩:=x
 refine⟨xs,⟨o,es,ep,hk o ho,hc,hd,he,λy hy=>?_,hn⟩,hm,λy hy=>?_⟩
 ·refine nU (hi y hy) λo' items n mw um jH jc=>?_
  exact⟨o',items,n,(T _ _ (hO y hy) mw ⟨_,_,jH⟩).1,um,jH,jc⟩
 ·refine nU (hi y hy) λo' items n mw um jH jc=>?_
  exact(T _ _ (hO y hy) mw ⟨_,_,jH⟩).2
theorem bf.both {h:Heap}{O:Addr→Prop}{P:Value→OT→List Addr→Prop}{Q:List Value→List OT→List Addr→Prop} (k1:∀ {v d},Rep h O v d→P v (.af d) []) (k2:∀ {a:Addr}{vs ts as},h.PlainList a vs.toArray→Q vs ts as→P (.ref a) (.own ts) (a::as)) (k3:∀ {a:Addr}{ks},fX prog w h O a ks→P (.ref a) (.fI ks) [a]) (k4:Q [] [] []) (k5:∀ {v vs t ts as bs},P v t as→Q vs ts bs→Q (v::vs) (t::ts) (as++bs)) :
  (∀ {v t as},bf prog w h O v t as→P v t as)∧∀ {vs ts as},aM prog w h O vs ts as→Q vs ts as:=
 ⟨λx=>bf.rec (motive_1:=λv t a Z=>P v t a) (motive_2:=λv t a Z=>Q v t a) k1 (λx Z=>k2 x) k3 k4 (λZ Z=>k5) x,
 λx=>aM.rec (motive_1:=λv t a Z=>P v t a) (motive_2:=λv t a Z=>Q v t a) k1 (λx Z=>k2 x) k3 k4 (λZ Z=>k5) x⟩
theorem aM.ind {h:Heap}{O:Addr→Prop}{vs:List Value}{ts:List OT}{as:List Addr}(x:aM prog w h O vs ts as){Q:List Value→List OT→List Addr→Prop} (k4:Q [] [] []) (k5:∀ {v vs t ts as bs},bf prog w h O v t as→aM prog w h O vs ts bs→Q vs ts bs→Q (v::vs) (t::ts) (as++bs)):Q vs ts as:=
 (bf.both (P:=bf prog w h O) (Q:=λv t a=>aM prog w h O v t a∧Q v t a) .af (λx r=>.own x r.1) .fI ⟨.nil,k4⟩ λp q=>⟨.cons p q.1,k5 p q.1 q.2⟩).2 x |>.2
theorem Rep.case {h:Heap}{O:Addr→Prop}{v:Value}{d:DV}(x:Rep h O v d){P:Value→DV→Prop} (k1:P .none .none) (k2:∀ b,P (.bool b) (.bool b)) (k3:∀ i t,P (.int i t) (.int i)) (k4:∀ {a:Addr}{vs ds},h.IsTuple a vs.toArray→¬ O a→bC h O vs ds→P (.ref a) (.tup ds)) (k5:∀ {a:Addr}{vs ds},h.IsList a vs.toArray→¬ O a→bC h O vs ds→P (.ref a) (.list ds)):P v d:=
 Rep.casesOn (motive_1:=λv d Z=>P v d) x k1 k2 k3 k4 k5
theorem bf.case {h:Heap}{O:Addr→Prop}{v:Value}{t:OT}{as:List Addr}(x:bf prog w h O v t as){P:Value→OT→List Addr→Prop} (k1:∀ {v d},Rep h O v d→P v (.af d) []) (k2:∀ {a:Addr}{vs ts as},h.PlainList a vs.toArray→aM prog w h O vs ts as→P (.ref a) (.own ts) (a::as)) (k3:∀ {a:Addr}{ks},fX prog w h O a ks→P (.ref a) (.fI ks) [a]):P v t as:=
 bf.casesOn (motive_1:=λv t a Z=>P v t a) x k1 k2 k3
theorem Rep.listE {h:Heap}{O:Addr→Prop}{va:Value}{l:List DV}{Q:Value→Prop}(r:Rep h O va (.list l)) (k:∀ a vs,h.IsList a vs.toArray→¬ O a→bC h O vs l→Q (.ref a)):Q va:=
 r.case (P:=λv d=>∀ l,d=.list l→(∀ a vs,h.IsList a vs.toArray→¬ O a→bC h O vs l→Q (.ref a))→Q v) nofun (λZ=>nofun) (λZ Z=>nofun) (λZ Z Z=>nofun) (λx o r l e k=>k _ _ x o (DV.list.inj e▸r)) l rfl k
theorem Rep.iy {h:Heap}{O:Addr→Prop}{va:Value}{l:List DV}{Q:Value→Prop}(r:Rep h O va (.tup l)) (k:∀ a vs,h.IsTuple a vs.toArray→¬ O a→bC h O vs l→Q (.ref a)):Q va:=
 r.case (P:=λv d=>∀ l,d=.tup l→(∀ a vs,h.IsTuple a vs.toArray→¬ O a→bC h O vs l→Q (.ref a))→Q v) nofun (λZ=>nofun) (λZ Z=>nofun) (λx o r l e k=>k _ _ x o (DV.tup.inj e▸r)) (λZ Z Z=>nofun) l rfl k
theorem Rep.tupI {h:Heap}{O:Addr→Prop}{v:Value}{l:List DV}(r:Rep h O v (.tup l)):∃ a vs,v=.ref a∧h.IsTuple a vs.toArray∧¬ O a∧bC h O vs l:=r.iy (Q:=λv=>∃ a vs,v=.ref a∧h.IsTuple a vs.toArray∧¬ O a∧bC h O vs l) λa vs x o rs=>⟨a,vs,rfl,x,o,rs⟩
theorem bf.qj {h:Heap}{O:Addr→Prop}{v:Value}{d:DV}{as:List Addr}(x:bf prog w h O v (.af d) as):Rep h O v d∧as=[]:=
 x.case (P:=λv t as=>∀ d,t=.af d→Rep h O v d∧as=[]) (λr d e=>⟨OT.af.inj e▸r,rfl⟩) (λZ Z=>nofun) (λZ=>nofun) d rfl
theorem bf.cG {h:Heap}{O:Addr→Prop}{v:Value}{d:DV}{as:List Addr}(x:bf prog w h O v (.af d) as):Rep h O v d:=x.qj.1
theorem bf.sW {h:Heap}{O:Addr→Prop}{v:Value}{ts:List OT}{as:List Addr}{Q:Value→List Addr→Prop}(x:bf prog w h O v (.own ts) as) (k:∀ a vs as,h.PlainList a vs.toArray→aM prog w h O vs ts as→Q (.ref a) (a::as)):Q v as:=
 x.case (P:=λv t as=>∀ ts,t=.own ts→(∀ a vs as,h.PlainList a vs.toArray→aM prog w h O vs ts as→Q (.ref a) (a::as))→Q v as) (λZ=>nofun) (λx r ts e k=>k _ _ _ x (OT.own.inj e▸r)) (λZ=>nofun) ts rfl k
theorem bf.CN {h:Heap}{O:Addr→Prop}{v:Value}{ts:List OT}{as:List Addr}(x:bf prog w h O v (.own ts) as):∃ a vs gw,v=.ref a∧as=a::gw∧h.PlainList a vs.toArray∧aM prog w h O vs ts gw:=
 x.sW (Q:=λv as=>∃ a vs gw,v=.ref a∧as=a::gw∧h.PlainList a vs.toArray∧aM prog w h O vs ts gw) λa vs as p r=>⟨a,vs,as,rfl,rfl,p,r⟩
theorem bf.Mg {h:Heap}{O:Addr→Prop}{v:Value}{ks:List (List Int)}{as:List Addr}{Q:Value→List Addr→Prop}(x:bf prog w h O v (.fI ks) as) (k:∀ a,fX prog w h O a ks→Q (.ref a) [a]):Q v as:=
 x.case (P:=λv t as=>∀ ks,t=.fI ks→(∀ a,fX prog w h O a ks→Q (.ref a) [a])→Q v as) (λZ=>nofun) (λZ Z=>nofun) (λx ts e k=>k _ (OT.fI.inj e▸x)) ks rfl k
theorem bf.Ez {h:Heap}{O:Addr→Prop}{v:Value}{ks:List (List Int)}{as:List Addr}(x:bf prog w h O v (.fI ks) as):∃ a,v=.ref a∧as=[a]∧fX prog w h O a ks:=
 x.Mg (Q:=λv as=>∃ a,v=.ref a∧as=[a]∧fX prog w h O a ks) λa k=>⟨a,rfl,rfl,k⟩
theorem aM.lR {h:Heap}{O:Addr→Prop}{vs:List Value}{t:OT}{ts:List OT}{as:List Addr}{Q:List Value→List Addr→Prop}(x:aM prog w h O vs (t::ts) as) (k:∀ v vs as bs,bf prog w h O v t as→aM prog w h O vs ts bs→Q (v::vs) (as++bs)):Q vs as:=
 x.ind (Q:=λvs l as=>∀ t ts,l=t::ts→(∀ v vs as bs,bf prog w h O v t as→aM prog w h O vs ts bs→Q (v::vs) (as++bs))→Q vs as) (λZ Z=>nofun) (λr rs Z t ts e k=>k _ _ _ _ ((dI e).1▸r) ((dI e).2▸rs)) t ts rfl k
theorem aM.EA {h:Heap}{O:Addr→Prop}{vs:List Value}{t:OT}{ts:List OT}{as:List Addr}(x:aM prog w h O vs (t::ts) as):∃ v vs' b c,vs=v::vs'∧as=b++c∧bf prog w h O v t b∧aM prog w h O vs' ts c:=
 x.lR (Q:=λvs as=>∃ v vs' b c,vs=v::vs'∧as=b++c∧bf prog w h O v t b∧aM prog w h O vs' ts c) λv vs b c r rs=>⟨v,vs,b,c,rfl,rfl,r,rs⟩
theorem aM.uY {h:Heap}{O:Addr→Prop}{vs:List Value}{as:List Addr}{Q:List Value→List Addr→Prop}(x:aM prog w h O vs [] as) (k:Q [] []):Q vs as:=
 x.ind (Q:=λvs l as=>l=[]→Q [] []→Q vs as) (λZ k=>k) (λZ Z Z=>nofun) rfl k
theorem aM.fT {h:Heap}{O:Addr→Prop}{vs:List Value}{ds:List DV}{as:List Addr}(x:aM prog w h O vs (ds.map .af) as):bC h O vs ds:=
 x.ind (Q:=λv d Z=>∀ ds:List DV,d=ds.map .af→bC h O v ds) (λns e=>j3.mp e.symm▸.nil)
  (λ{_ vs _ _ _ _} r Z q ns e=>nW (gh.mp e.symm) λn xY h1 h2 h3=>h1▸.cons (h2▸r).cG (q _ h3.symm)) ds rfl
theorem bC.lR {h:Heap}{O:Addr→Prop}{vs:List Value}{d:DV}{ds:List DV}{Q:List Value→Prop}(x:bC h O vs (d::ds)) (k:∀ v vs,Rep h O v d→bC h O vs ds→Q (v::vs)):Q vs:=
 x.ind (Q:=λvs l=>∀ d ds,l=d::ds→(∀ v vs,Rep h O v d→bC h O vs ds→Q (v::vs))→Q vs) (λZ Z=>nofun) (λr rs Z t ts e k=>k _ _ ((dI e).1▸r) ((dI e).2▸rs)) d ds rfl k
theorem bC.uY {h:Heap}{O:Addr→Prop}{vs:List Value}{Q:List Value→Prop}(x:bC h O vs []) (k:Q []):Q vs:=
 x.ind (Q:=λvs l=>l=[]→Q []→Q vs) (λZ k=>k) (λZ Z Z=>nofun) rfl k
noncomputable def Kept (h h':Heap) (as:List Addr):Prop:=∀ a∈as,∀ o,h.get? a=some o→h'.get? a=some o
theorem bf.B2 {h h':Heap}{O O':Addr→Prop}(T:Tr h O h' O'):(∀ {v t as},bf prog w h O v t as→Kept h h' as→bf prog w h' O' v t as)∧∀ {vs ts as},aM prog w h O vs ts as→Kept h h' as→aM prog w h' O' vs ts as:=
 bf.both (λr Z=>.af (r.tr T)) (λx q k=>.own (x.at λo e=>k _ (.head _) o e) (q λa ha=>k a (.tail _ ha))) (λx k=>.fI (x.tr T (k _ (.head _)))) (λZ=>.nil) λp q k=>.cons (p λa ha=>k a (ba _ ha)) (q λa ha=>k a (bg _ ha))
theorem bf.tr {h h':Heap}{O O':Addr→Prop}(T:Tr h O h' O'){v:Value}{t:OT}{as:List Addr}(x:bf prog w h O v t as) (k:∀ a∈as,∀ o,h.get? a=some o→h'.get? a=some o):bf prog w h' O' v t as:=(bf.B2 T).1 x k
theorem aM.tr {h h':Heap}{O O':Addr→Prop}(T:Tr h O h' O'){vs:List Value}{ts:List OT}{as:List Addr}(x:aM prog w h O vs ts as) (k:∀ a∈as,∀ o,h.get? a=some o→h'.get? a=some o):aM prog w h' O' vs ts as:=(bf.B2 T).2 x k
mutual
noncomputable def OT.rD:OT→DV
 | .af d=>d
 | .own l=>.list (mA l)
 | .fI _=>.none
noncomputable def mA:List OT→List DV
 | []=>[]
 | t::ts=>t.rD::mA ts
end
mutual
noncomputable def OT.gz:OT→Bool
 | .af _=>true
 | .own l=>gM l
 | .fI _=>false
noncomputable def gM:List OT→Bool
 | []=>true
 | t::ts=>t.gz&&gM ts
end
theorem bf.DR {h:Heap}{O O':Addr→Prop}(hO:∀ a,O a→O' a):(∀ {v t as},bf prog w h O' v t as→(∀ a∈as,¬ O a)→t.gz=true→Rep h O v t.rD)∧∀ {vs ts as},aM prog w h O' vs ts as→(∀ a∈as,¬ O a)→gM ts=true→bC h O vs (mA ts):=
 bf.both (λr Z Z=>r.tr λZ Z ho e Z=>⟨e,λx=>ho (hO _ x)⟩) (λx q k=>λn=>.list x.isList (k _ (.head _)) (q (λa ha=>k a (.tail _ ha)) n)) (λZ Z=>nofun) (λZ Z=>.nil)
  λp q k n=>.cons (p (λa ha=>k a (ba _ ha)) (bQ.mp n).1) (q (λa ha=>k a (bg _ ha)) (bQ.mp n).2)
theorem bf.rD {h:Heap}{O O':Addr→Prop}(hO:∀ a,O a→O' a){v:Value}{t:OT}{as:List Addr}(x:bf prog w h O' v t as):(∀ a∈as,¬ O a)→t.gz=true→Rep h O v t.rD:=(bf.DR hO).1 x
theorem aM.rD {h:Heap}{O O':Addr→Prop}(hO:∀ a,O a→O' a){vs:List Value}{ts:List OT}{as:List Addr}(x:aM prog w h O' vs ts as):(∀ a∈as,¬ O a)→gM ts=true→bC h O vs (mA ts):=(bf.DR hO).2 x
theorem aM.length {h:Heap}{O:Addr→Prop}{vs:List Value}{ts:List OT}{as:List Addr}(x:aM prog w h O vs ts as):vs.length=ts.length:=
 x.ind (Q:=λv t Z=>v.length=t.length) rfl λZ Z q=>congrArg (·+1) q
theorem aM.get {h:Heap}{O:Addr→Prop}{vs:List Value}{ts:List OT}{as:List Addr}(x:aM prog w h O vs ts as){k:Nat}{t:OT}(hk:ts[k]?=some t) :
  ∃ v bs,vs[k]?=some v∧bf prog w h O v t bs∧∀ b∈bs,b∈as:=
 x.ind (Q:=λvs ts as=>∀ k t,ts[k]?=some t→∃ v bs,vs[k]?=some v∧bf prog w h O v t bs∧∀ b∈bs,b∈as) (λZ Z h=>nomatch kX.symm.trans h)
  (λr Z q k=>Nat.rec (λZ e=>⟨_,_,rfl,ai e▸r,λb hb=>ba _ hb⟩) (λk Z t e=>nW (q k t e) λv b h1 h2 h3=>⟨v,b,h1,h2,λb hb=>bg _ (h3 b hb)⟩) k) k t hk
theorem aM.kg {h:Heap}{O:Addr→Prop}{vs:List Value}{ds:List DV}(x:bC h O vs ds):aM prog w h O vs (ds.map .af) []:=
 x.ind (Q:=λv d=>aM prog w h O v (d.map .af) []) .nil λr Z q=>.cons (as:=[]) (.af r) q
end
section
noncomputable abbrev au:=List (Str×OT)
noncomputable abbrev ey:=Str→List OT→Option (DV×List OT)
noncomputable def bh:Nat:=1048576
noncomputable def cj (a b:Int):Bool:=dZ (a.natAbs.log2+b.natAbs.log2) 134217000
noncomputable def eC (a:Int) (n:Int):Bool:=decide (0≤n)&&decide (n<64)&&decide (a.natAbs<4294967296)
noncomputable def b2i (b:Bool):Int:=if b then 1 else 0
noncomputable def OT.lf:OT→Option DV
 | .af d=>some d
 | _=>none
noncomputable def jn:List OT→Option (List DV)
 | []=>some []
 | t::ts=>t.lf.bind λd=>(jn ts).bind λds=>some (d::ds)
noncomputable def DV.int?:DV→Option Int
 | .int i=>some i
 | _=>As
noncomputable def DV.nX:DV→Option (List DV)
 | .tup l=>some l
 | _=>As
theorem rp {d:DV}{i:Int}(h:d.int?=some i):d=.int i:=by
 cases d<;>first | exact congrArg DV.int (ai h) | exact nomatch h
theorem ka {d:DV}{l:List DV}(h:d.nX=some l):d=.tup l:=by
 cases d<;>first | exact congrArg DV.tup (ai h) | exact nomatch h
noncomputable def fi:List DV→Option (List Int)
 | []=>some []
 | d::ds=>d.int?.bind λi=>(fi ds).bind λr=>some (i::r)
noncomputable def DV.j9:DV→Bool
 | .none | .bool _ | .int _=>true
 | _=>false
mutual
noncomputable def DV.pure:DV→Bool
 | .none=>true
 | .int _=>true
 | .bool _=>false
 | .tup l=>dU l
 | .list l=>dU l
noncomputable def dU:List DV→Bool
 | []=>true
 | d::ds=>d.pure&&dU ds
end
noncomputable def oa:DV→Bool
 | .none=>true
 | _=>false
mutual
noncomputable def vt (a b:DV):Bool:=match a with
 | .none=>oa b
 | .int x=>(match b with | .int y=>decide (x=y) | _=>false)
 | .tup l=>(match b with | .tup m=>iW l m | _=>false)
 | .list l=>(match b with | .list m=>iW l m | _=>false)
 | _=>false
noncomputable def iW (l m:List DV):Bool:=match l with
 | []=>m.isEmpty
 | a::l=>(match m with | []=>false | b::m=>vt a b&&iW l m)
end
mutual
noncomputable def DV.dep:DV→Nat
 | .tup l=>gO l+1
 | .list l=>gO l+1
 | _=>0
noncomputable def gO:List DV→Nat
 | []=>0
 | d::ds=>max d.dep (gO ds)
end
noncomputable def oW {α:Type}(a b:DV) (f:Int→Int→Option α) (g:List DV→List DV→Option α):Option α:=match a with
 | .int x=>(match b with | .int y=>f x y | _=>none)
 | .list x=>(match b with | .list y=>g x y | _=>none)
 | _=>none
noncomputable def tc {α β:Type}(_ _:β):Option α:=none
noncomputable def l9 (op:Operator) (a b:DV):Option DV:=match op with
 | .Add=>oW a b (λa b=>some (.int (a+b))) λxs ys=>if xs.length+ys.length≤bh then some (.list (xs++ys)) else none
 | .Sub=>(match a with
  | .bool x=>(match b with | .bool y=>some (.int (b2i x-b2i y)) | _=>none)
  | a=>oW a b (λa b=>some (.int (a-b))) tc)
 | .Mult=>(match a with
  | .list xs=>(match b with | .int n=>if 0≤n∧n≤1000∧xs.length*n.toNat≤256 then some (.list (ax n.toNat xs).flatten) else none | _=>none)
  | a=>oW a b (λa b=>if cj a b then some (.int (a*b)) else none) tc)
 | .FloorDiv=>oW a b (λa b=>if b=0 then none else some (.int (a.fdiv b))) tc
 | .Mod=>oW a b (λa b=>if b=0 then none else some (.int (a.fmod b))) tc
 | .Pow=>oW a b (λa n=>if eC a n then some (.int (a^n.toNat)) else none) tc
 | _=>none
noncomputable def wD (a b:DV):Option Bool:=match a with
 | .int x=>(match b with | .int y=>some (decide (x=y)) | _=>none)
 | .tup x=>(match b with | .tup y=>if dU x&&dU y&&dZ (gO x) 8&&dZ (gO y) 8 then some (iW x y) else none | _=>none)
 | .list x=>(match b with | .list y=>if dU x&&dU y&&dZ (gO x) 8&&dZ (gO y) 8 then some (iW x y) else none | _=>none)
 | _=>none
noncomputable def jy (op:CmpOp) (a b:DV):Option Bool:=match op with
 | .Lt=>oW a b (λa b=>some (decide (a<b))) tc
 | .LtE=>oW a b (λa b=>some (decide (a≤b))) tc
 | .Gt=>oW a b (λa b=>some (decide (b<a))) tc
 | .GtE=>oW a b (λa b=>some (decide (b≤a))) tc
 | .Eq=>wD a b
 | .NotEq=>(wD a b).map not
 | .Is=>if oa b then some (oa a) else none
 | .IsNot=>if oa b then some (!oa a) else none
 | _=>none
noncomputable def eI (n:Nat) (i:Int):Option Nat:=
 if n≤bh then
  if 0≤i then (if i<n then some i.toNat else none)
  else (if 0≤i+n then some (i+n).toNat else none)
 else none
noncomputable def m7 (l:List DV) (lo hi st:Option Int):Option (List DV):=
 if l.length≤bh then
  match st with
  | none=>some ((l.drop (kms_lo lo l.length)).take (kms_hi hi l.length-kms_lo lo l.length))
  | some k=>match lo,hi with
   | none,none=>if k=-1 then some l.reverse else none
   | _,_=>none
 else none
noncomputable def cst (x:Str):Option DV:=
 if x=ae "R0" then some (.tup [.int 0,.int 1])
 else if x=ae "R1" then some (.tup [.int 1,.int 1])
 else if x=ae "MOST_DIVIDED" then some (.int 10000000000)
 else none
noncomputable def a5:List Str:=[ae "len",ae "max",ae "min",ae "abs",ae "sum",ae "sorted",ae "list",ae "int"]
noncomputable def rG:OT→Option Nat
 | .af (.list l)=>some l.length
 | .af (.tup l)=>some l.length
 | .own l=>some l.length
 | _=>none
noncomputable def tG:OT→Option (List DV)
 | .af (.list l)=>some l
 | .af (.tup l)=>some l
 | _=>none
noncomputable def kU:OT→Option (List DV)
 | .af (.list l)=>some l
 | .af (.tup l)=>some l
 | .own l=>jn l
 | _=>none
noncomputable def ft (l:List Int):List Int:=l.mergeSort (λa b=>decide (a≤b))
noncomputable def bi (f:Str) (ts:List OT):Option DV:=
 if f=ae "len" then
  match ts with
  | [t]=>(rG t).bind λn=>if n≤bh then some (.int n) else none
  | _=>none
 else if f=ae "max" then
  match ts with
  | [.af (.int a),.af (.int b)]=>some (.int (if a<b then b else a))
  | _=>none
 else if f=ae "min" then
  match ts with
  | [.af (.int a),.af (.int b)]=>some (.int (if b<a then b else a))
  | _=>none
 else if f=ae "abs" then
  match ts with
  | [.af (.int a)]=>some (.int a.natAbs)
  | _=>none
 else if f=ae "int" then
  match ts with
  | [.af (.int a)]=>some (.int a)
  | _=>none
 else if f=ae "sum" then
  match ts with
  | [.af (.list l)]=>if l.length≤bh then (fi l).bind λns=>some (.int ns.sum) else none
  | _=>none
 else if f=ae "sorted" then
  match ts with
  | [.af (.list l)]=>if l.length<64 then (fi l).bind λns=>some (.list ((ft ns).map .int)) else none
  | _=>none
 else if f=ae "list" then
  match ts with
  | [t]=>(kU t).bind λl=>if l.length≤bh then some (.list l) else none
  | _=>none
 else none
noncomputable def ke (a b:Int):List DV:=(az (b-a).toNat).map λ(i:Nat)=>DV.int (a+i)
noncomputable def eh:Nat→List DV→List DV
 | _,[]=>[]
 | i,d::ds=>.tup [.int i,d]::eh (i+1) ds
theorem VM :∀ z0,eh z0 []=([]):=λ_=>rfl
theorem Gf :∀ i d ds,eh i (d::ds)=(.tup [.int i,d]::eh (i+1) ds):=λ_ _ _=>rfl
noncomputable def nmP:(e:Expr)→Option {x:Str // ∃ p,e=.Name x p}
 | .Name x p=>some ⟨x,p,rfl⟩
 | _=>none
noncomputable def lu (e:Expr):Option Str:=(nmP e).map (·.1)
noncomputable def Kn:(e:Expr)→Option {es:List Expr // ∃ k r,e=.Tuple es k r}
 | .Tuple es k r=>some ⟨es,k,r,rfl⟩
 | _=>none
noncomputable def Li {α:Type}:(l:List α)→Option {q:α×α // l=[q.1,q.2]}
 | [a,b]=>some ⟨(a,b),rfl⟩
 | _=>none
noncomputable def wc (e:Expr):Option (Str×Str):=(Kn e).bind λes=>(Li es.1).bind λq=>(lu q.1.1).bind λx=>(lu q.1.2).map λy=>(x,y)
theorem bR {α:Type}{a:α}{P:Prop}(h:(none:Option α)=some a):P:=nomatch h
theorem lN {P:Prop}(h:false=true):P:=nomatch h
theorem bJ {α β:Type}{o:Option α}{f:α→Option β}{b:β}{P:Prop}(h:o.bind f=some b) (k:∀ a,o=some a→f a=some b→P):P:=by
 cases o with
 | none=>exact bR h
 | some a=>exact k a rfl h
theorem jF {α β:Type}{o:Option α}{f:α→β}{b:β}{P:Prop}(h:o.map f=some b) (k:∀ a,o=some a→f a=b→P):P:=by
 cases o with
 | none=>exact bR h
 | some a=>exact k a rfl (ai h)
theorem gg {α:Type}{c:Prop}{i:Decidable c}{a:Option α}{b:α}{P:Prop}(h:(if c then a else none)=some b) (k:c→a=some b→P):P:=by
 by_cases q:c
 ·rw[if_pos q] at h;exact k q h
 ·rw[if_neg q] at h;exact bR h
theorem bv {α β:Type}{o:Option α}{f:α→Option β}{b:β}{P:Prop}(k:∀ a,o=some a→f a=some b→P) (h:o.bind f=some b):P:=bJ h k
theorem mv {α β:Type}{o:Option α}{f:α→β}{b:β}{P:Prop}(k:∀ a,o=some a→f a=b→P) (h:o.map f=some b):P:=jF h k
theorem gv {α:Type}{c:Prop}{i:Decidable c}{a:Option α}{b:α}{P:Prop}(k:c→a=some b→P) (h:(if c then a else none)=some b):P:=gg h k
theorem bl {β:Type}{o:Option OT}{f:DV→Option β}{b:β}{P:Prop}(k:∀ d,o=some (.af d)→f d=some b→P) (h:(o.bind λt=>t.lf.bind f)=some b):P:=by
 cases o with
 | none=>exact bR h
 | some t=>
  cases t with
  | af d=>exact k d rfl h
  | own _=>exact bR h
  | fI _=>exact bR h
theorem bw {β γ δ:Type}{o:Option (OT×γ×δ)}{f:OT×γ×δ→DV→Option β}{b:β}{P:Prop}(k:∀ d g e,o=some (.af d,g,e)→f (.af d,g,e) d=some b→P) (h:(o.bind λr=>r.1.lf.bind λd=>f r d)=some b):P:=by
 cases o with
 | none=>exact bR h
 | some r=>
  obtain⟨t,g,e⟩:=r
  cases t with
  | af d=>exact k d g e rfl h
  | own _=>exact bR h
  | fI _=>exact bR h
theorem a6 {a b:Bool}(h:(a&&b)=true):a=true∧b=true:=bQ.mp h
theorem gI {a b c:Bool}(h:(a&&b&&c)=true):(a=true∧b=true)∧c=true:=⟨a6 (a6 h).1,(a6 h).2⟩
theorem oR {e:Expr}{x:Str}(h:lu e=some x):∃ p,e=.Name x p:=jF h λa Z q=>q▸a.2
theorem PM {e:Expr}{x y:Str}(h:wc e=some (x,y)):∃ p q k r,e=.Tuple [.Name x p,.Name y q] k r:=
 bJ h λes Z=>bv λq Z=>bv λa h1=>mv λb h2 e=>es.2.elim λk z=>z.elim λr z=>(oR h1).elim λp ha=>(oR h2).elim λp' hb=>
  ⟨p,p',k,r,by rw[z,q.2,ha,hb,(eO e).1,(eO e).2]⟩
noncomputable def cW (t:Expr) (d:DV) (ρ:au):Option au:=
 match lu t with
 | some x=>if (ρ.lookup x).isNone then some ((x,.af d)::ρ) else none
 | none=>(wc t).bind λn=>d.nX.bind λl=>(Li l).bind λq=>if (ρ.lookup n.1).isNone&&(ρ.lookup n.2).isNone then some ((n.2,.af q.1.2)::(n.1,.af q.1.1)::ρ) else none
section
variable {t:Expr}{d:DV}{ρ ρ':au}{x:Str}
theorem UI (h:lu t=some x):cW t d ρ=if (ρ.lookup x).isNone then some ((x,.af d)::ρ) else none:=by unfold cW;rw[h]
theorem UJ (h:lu t=none):cW t d ρ=(wc t).bind λn=>d.nX.bind λl=>(Li l).bind λq=>if (ρ.lookup n.1).isNone&&(ρ.lookup n.2).isNone then some ((n.2,.af q.1.2)::(n.1,.af q.1.1)::ρ) else none:=by unfold cW;rw[h]
theorem P2 {P:Prop}(h:cW t d ρ=some ρ') (k1:∀ x p,t=.Name x p→ρ.lookup x=none→ρ'=(x,.af d)::ρ→P)
  (k2:∀ x y p q k r a b,t=.Tuple [.Name x p,.Name y q] k r→d=.tup [a,b]→ρ.lookup x=none→ρ.lookup y=none→ρ'=(y,.af b)::(x,.af a)::ρ→P):P:=
 kC (lu t) (λhn=>bv (λn h2=>bv λl hl=>bv λq Z=>gv λc e=>F4 (PM h2) λp p' k r z=>have c:=a6 c
   k2 _ _ p p' k r q.1.1 q.1.2 z ((ka hl).trans (congrArg DV.tup q.2)) (eB.mp c.1) (eB.mp c.2) (ai e).symm) ((UJ hn).symm.trans h))
  λx hn=>gv (λc e=>(oR hn).elim λp z=>k1 x p z (eB.mp c) (ai e).symm) ((UI hn).symm.trans h)
end
noncomputable def gV (k:DV→Option (List DV)):List DV→Option (List DV)
 | []=>some []
 | d::ds=>(k d).bind λr=>(gV k ds).bind λrs=>some (r++rs)
theorem Bs {k:DV→Option (List DV)}:∀ d ds,gV k (d::ds)=((k d).bind λr=>(gV k ds).bind λrs=>some (r++rs)):=λ_ _=>rfl
noncomputable def gK (ρ:au) (p:Str×NameKind):Option (Str×OT):=
 match p.2,ρ.lookup p.1 with
 | .free,some (.af d)=>some (p.1,.af d)
 | _,_=>none
noncomputable def seen (sc:Scope) (ρ:au):au:=sc.names.filterMap (gK ρ)
noncomputable def kI:(t:OT)→Option {i:Int // t=.af (.int i)}
 | .af (.int i)=>some ⟨i,rfl⟩
 | _=>none
noncomputable def iJ (t k:OT):Option OT:=(kI k).bind λk=>match t with
 | .af d=>(match d with
  | .list l=>(eI l.length k.1).bind λj=>(l[j]?).map .af
  | .tup l=>(eI l.length k.1).bind λj=>(l[j]?).map .af
  | _=>none)
 | .own l=>(eI l.length k.1).bind λj=>l[j]?
 | _=>none
variable (C:ey)
noncomputable def ki (f:Str) (t:OT):Option (List DV):=
 if f=ae "range" then (match t with
  | .af (.int n)=>if -(bh:Int)≤n∧n≤bh then some (ke 0 n) else none
  | _=>none)
 else if f=ae "enumerate" then (match t with
  | .af (.list l)=>if l.length≤bh then some (eh 0 l) else none
  | _=>none)
 else if f=ae "reversed" then (match t with
  | .af (.list l)=>if l.length≤bh then some l.reverse else none
  | _=>none)
 else if f∈a5 then (bi f [t]).bind λd=>tG (.af d)
 else t.lf.bind λd=>(C f [.af d]).bind λr=>tG (.af r.1)
noncomputable def qm (t u:OT):Option (List DV):=(kI t).bind λm=>(kI u).bind λn=>if (-(bh:Int)≤m.1∧m.1≤bh)∧-(bh:Int)≤n.1∧n.1≤bh then some (ke m.1 n.1) else none
mutual
noncomputable def ev:Expr→au→Option OT
 | .Constant c _ _,_=>(match c with | .int i=>some (.af (.int i)) | .none=>some (.af .none) | .bool b=>some (.af (.bool b)) | _=>none)
 | .Name x _,ρ=>(match ρ.lookup x with | some t=>some t | none=>(cst x).map .af)
 | .BinOp l op r _,ρ=>(ev l ρ).bind λa=>a.lf.bind λa=>(ev r ρ).bind λb=>b.lf.bind λb=>(l9 op a b).map .af
 | .UnaryOp op e _,ρ=>(match op with | .USub=>(ev e ρ).bind λa=>a.lf.bind λa=>(match a with | .int i=>some (.af (.int (-i))) | _=>none) | _=>none)
 | .IfExp t b o _,ρ=>(fx t ρ).bind λc=>if c then ev b ρ else ev o ρ
 | .Compare l gE rs _,ρ=>(match gE with | op::gE=>(match gE with | []=>(match rs with | r::rs=>(match rs with | []=>(ev l ρ).bind λa=>a.lf.bind λa=>(ev r ρ).bind λb=>b.lf.bind λb=>(jy op a b).map λc=>.af (.bool c) | _=>none) | _=>none) | _=>none) | _=>none)
 | .Call f args ks _,ρ=>(lu f).bind λf=>(match ks with | []=>(jw args ρ).bind λts=>if f∈a5 then (bi f ts).map .af else (jn ts).bind λds=>(C f (ds.map .af)).map λr=>.af r.1 | _=>none)
 | .Subscript v i _,ρ=>(match i with
  | .Slice lo hi st _=>(ev v ρ).bind λt=>(kU t).bind λl=>(mO lo ρ).bind λlo=>(mO hi ρ).bind λhi=>(mO st ρ).bind λst=>
   (match t with
   | .af (.tup _)=>none
   | _=>(m7 l lo hi st).map λr=>.af (.list r))
  | j=>(ev v ρ).bind λt=>(ev j ρ).bind λk=>iJ t k)
 | .List es _,ρ=>(jw es ρ).bind λts=>(jn ts).bind λds=>if ds.length≤bh then some (.af (.list ds)) else none
 | .Tuple es _ _,ρ=>(jw es ρ).bind λts=>(jn ts).bind λds=>if ds.length≤bh then some (.af (.tup ds)) else none
 | .ListComp elt gens sc _,ρ=>if (sc.names.all λp=>p.2 != .free||(ρ.lookup p.1).isSome) then
   (fU gens ρ (seen sc ρ) λρ'=>(ev elt ρ').bind λt=>t.lf.bind λd=>some [d]).bind λl=>if l.length≤bh then some (.af (.list l)) else none
  else none
 | _,_=>none
noncomputable def jw:List Expr→au→Option (List OT)
 | [],_=>some []
 | e::es,ρ=>(ev e ρ).bind λt=>(jw es ρ).bind λts=>some (t::ts)
noncomputable def mO:Option Expr→au→Option (Option Int)
 | none,_=>some none
 | some e,ρ=>(ev e ρ).bind λt=>match t with
  | .af (.int i)=>some (some i)
  | _=>none
noncomputable def fx:Expr→au→Option Bool
 | .Compare l gE rs _,ρ=>(match gE with | op::gE=>(match gE with | []=>(match rs with | r::rs=>(match rs with | []=>(match op with | .NotIn=>(ev l ρ).bind λa=>a.lf.bind λa=>(lu r).bind λx=>(ρ.lookup x).bind λt=>(match a with | .tup ds=>(match t with | .fI ks=>(fi ds).bind λns=>some (!ks.contains ns) | _=>none) | _=>none) | op=>(ev l ρ).bind λa=>a.lf.bind λa=>(ev r ρ).bind λb=>b.lf.bind λb=>jy op a b) | _=>none) | _=>none) | _=>none) | _=>none)
 | .BoolOp op es _,ρ=>iV op es ρ
 | _,_=>none
noncomputable def iV:BoolOp→List Expr→au→Option Bool
 | op,[],_=>some (op==.And)
 | .And,e::es,ρ=>(fx e ρ).bind λb=>if b then iV .And es ρ else some false
 | .Or,e::es,ρ=>(fx e ρ).bind λb=>if b then some true else iV .Or es ρ
noncomputable def eJ:Expr→au→Option (List DV)
 | .Call f args ks _,ρ=>(lu f).bind λf=>(match ks with | []=>(match args with | a::as=>(match as with | []=>(ev a ρ).bind λt=>ki C f t | b::bs=>(match bs with | []=>if f=ae "range" then (ev a ρ).bind λt=>(ev b ρ).bind λu=>qm t u else none | _=>none)) | _=>none) | _=>none)
 | .Name x _,ρ=>(ρ.lookup x).bind tG
 | .Tuple es _ _,ρ=>(jw es ρ).bind λts=>(jn ts).bind λds=>if ds.length≤bh then some ds else none
 | .Subscript v i _,ρ=>(match i with
  | .Slice lo hi st _=>(ev v ρ).bind λt=>(kU t).bind λl=>(mO lo ρ).bind λlo=>(mO hi ρ).bind λhi=>(mO st ρ).bind λst=>
   (match t with
   | .af (.tup _)=>none
   | _=>m7 l lo hi st)
  | _=>none)
 | _,_=>none
noncomputable def fU:List Comprehension→au→au→(au→Option (List DV))→Option (List DV)
 | [],_,ρ,k=>k ρ
 | ⟨t,it,ifs,_⟩::gs,ρi,ρ,k=>(eJ it ρi).bind λitems=>gV (λd=>(cW t d ρ).bind λρ'=>(iV .And ifs ρ').bind λok=>if ok then fU gs ρ' ρ' k else some []) items
end
section
variable {C:ey}{ρ:au}
theorem NI {α:Type}{t:OT}{x:Option α}{b:α}{P:Prop}(h:(match t with | .af (.tup _)=>none | _=>x)=some b) (k:(∀ l,t≠.af (.tup l))→x=some b→P):P:=by
 cases t with
 | af d=>cases d<;>first | exact bR h | exact k (λZ q=>nomatch q) h
 | own _=>exact k (λZ q=>nomatch q) h
 | fI _=>exact k (λZ q=>nomatch q) h
theorem XG {x:Str}{p:Pos}{t:OT}{P:Prop}(h:ev C (.Name x p) ρ=some t) (k1:ρ.lookup x=some t→P) (k2:∀ d,cst x=some d→.af d=t→P):P:=by
 change (match ρ.lookup x with | some t=>some t | none=>(cst x).map .af)=some t at h
 cases e:ρ.lookup x with
 | some u=>rw[e] at h;exact k1 (e.trans h)
 | none=>rw[e] at h;exact jF h k2
theorem FY {x:Str}{p:Pos}{t:OT}(h:ρ.lookup x=some t):ev C (.Name x p) ρ=some t:=by
 show(match ρ.lookup x with | some t=>some t | none=>(cst x).map .af)=some t
 rw[h]
theorem zD {e:Expr}{es:List Expr}{t:OT}{ts:List OT}(h:ev C e ρ=some t) (h':jw C es ρ=some ts):jw C (e::es) ρ=some (t::ts):=by
 show((ev C e ρ).bind λt=>(jw C es ρ).bind λts=>some (t::ts))=_
 rw[h,h'];rfl
theorem Lk {t k u:OT}{P:Prop}(h:iJ t k=some u) (k1:∀ l n j d,t=.af (.list l)→k=.af (.int n)→eI l.length n=some j→l[j]?=some d→.af d=u→P)
  (k2:∀ l n j d,t=.af (.tup l)→k=.af (.int n)→eI l.length n=some j→l[j]?=some d→.af d=u→P) (k3:∀ l n j,t=.own l→k=.af (.int n)→eI l.length n=some j→l[j]?=some u→P):P:=by
 refine bJ h λn Z h=>?_
 cases t with
 | af d=>
  cases d<;>first
   | exact bR h
   | exact bJ h λj h1 h=>jF h λd h2 h3=>k1 _ n.1 j d rfl n.2 h1 h2 h3
   | exact bJ h λj h1 h=>jF h λd h2 h3=>k2 _ n.1 j d rfl n.2 h1 h2 h3
 | own l=>exact bJ h λj h1 h=>k3 _ n.1 j rfl n.2 h1 h
 | fI _=>exact bR h
end
end
section
variable {prog:Program}{w:World}
mutual
noncomputable def DV.py:DV→PyData
 | .none=>.none
 | .bool b=>.bool b
 | .int i=>.int i
 | .tup l=>.tuple (uP l)
 | .list l=>.list (uP l)
noncomputable def uP:List DV→List PyData
 | []=>[]
 | d::ds=>d.py::uP ds
end
theorem Rep.xP {h:Heap}{O:Addr→Prop}:(∀ {v d},Rep h O v d→∃ as,Reads h v d.py as)∧∀ {vs ds},bC h O vs ds→∃ as,ReadsAll h vs (uP ds) as:=
 Rep.both (P:=λv d=>∃ as,Reads h v d.py as) (Q:=λvs ds=>∃ as,ReadsAll h vs (uP ds) as) ⟨_,.none⟩ (λb=>⟨_,.bool b⟩) (λi t=>⟨_,.int i t⟩) (λx Z q=>rQ x λZ ho hc Z hd=>q.elim λas q=>⟨as,.tuple ho hc hd q⟩) (λx Z q=>rQ x λZ ho hc Z hd=>q.elim λZ q=>⟨_,.list ho hc hd q⟩) ⟨_,.nil⟩ λp q=>p.elim λZ p=>q.elim λZ q=>⟨_,.cons p q⟩
theorem Rep.reads {h:Heap}{O:Addr→Prop}{v:Value}{d:DV}(x:Rep h O v d):∃ as,Reads h v d.py as:=Rep.xP.1 x
theorem DV.uQ:(∀ d:DV,d.pure=true→d.py.canLay0=true∧d.py.depth=d.dep)∧∀ l:List DV,dU l=true→PyData.canLayAll0 (uP l)=true∧PyData.depthAll (uP l)=gO l:=
 DV.both (λZ=>⟨rfl,rfl⟩) (λZ=>nofun) (λZ Z=>⟨rfl,rfl⟩) (λl q h=>⟨(q h).1,congrArg (·+1) (q h).2⟩) (λl q h=>⟨(q h).1,congrArg (·+1) (q h).2⟩) (λZ=>⟨rfl,rfl⟩)
  λd l p q h=>have h:=bQ.mp h;⟨bQ.mpr ⟨(p h.1).1,(q h.2).1⟩,(congrArg (max · _) (p h.1).2).trans (congrArg (max _ ·) (q h.2).2)⟩
theorem DV.xS (d:DV) (h:d.pure=true):d.py.canLay0=true∧d.py.depth=d.dep:=DV.uQ.1 d h
theorem DV.uR:(∀ d e:DV,d.pure=true→e.pure=true→E2 d.py e.py=vt d e)∧∀ l m:List DV,dU l=true→dU m=true→PyData.eqvAll (uP l) (uP m)=iW l m:=
 DV.both (λe Z h=>by cases e<;>first | rfl | exact lN h) (λZ Z=>nofun) (λi e Z h=>by cases e<;>first | rfl | exact lN h) (λl q e h h'=>by cases e<;>first | exact q _ h h' | rfl | exact lN h') (λl q e h h'=>by cases e<;>first | exact q _ h h' | rfl | exact lN h') (λm Z Z=>by cases m<;>rfl)
  λd l p q m h h'=>by
   cases m with
   | nil=>rfl
   | cons b m=>exact congr (congrArg and (p b (a6 h).1 (a6 h').1)) (q m (a6 h).2 (a6 h').2)
theorem DV.sU (d e:DV) (h:d.pure=true) (h':e.pure=true):E2 d.py e.py=vt d e:=DV.uR.1 d e h h'
theorem Yl {a b:Int}(h:cj a b=true):IntMulOk a b:=by
 have h:=dj h
 have:fP a≤a.natAbs.log2+1:=by unfold fP;split<;>lia
 have:fP b≤b.natAbs.log2+1:=by unfold fP;split<;>lia
 exact IntMulOk.of_le ‹_› ‹_› (by lia)
section
variable {A:Around}{E:Value→Shared→Prop}{s:Shared}
structure Kp (s s':Shared):Prop where
 same:∃ h' tk,s'={ s with heap:=h',toks:=tk }
 get:∀ {b:Addr}{o:Obj},s.heap.get? b=some o→s'.heap.get? b=some o
theorem Kp.rf (s:Shared):Kp s s:=⟨⟨s.heap,s.toks,rfl⟩,λe=>e⟩
theorem Kp.tr {s s' mh:Shared}(x:Kp s s') (y:Kp s' mh):Kp s mh:=by
 obtain⟨⟨h,t,rfl⟩,k⟩:=x
 obtain⟨⟨h',t',rfl⟩,k'⟩:=y
 exact⟨⟨h',t',rfl⟩,λe=>k' (k e)⟩
theorem Kp.push (s:Shared) (o:Obj):Kp s { s with heap:=s.heap.push o }:=⟨⟨_,s.toks,rfl⟩,λe=>cY _ e⟩
theorem Kp.tok (s:Shared) (t:Nat):Kp s { s with toks:=t }:=⟨⟨_,t,rfl⟩,λe=>e⟩
theorem Kp.of {s:Shared}{h':Heap}{t:Nat}(k:∀ b o,s.heap.get? b=some o→h'.get? b=some o):Kp s { s with heap:=h',toks:=t }:=⟨⟨h',t,rfl⟩,λ{b o} e=>k b o e⟩
noncomputable def eV (s s':Shared) (v:Value) (vs:List Value):Prop:=
 Kp s s'∧∃ a,v=.ref a∧s.heap.get? a=none∧s'.heap.PlainList a vs.toArray
theorem qZ (h:Heap):h.get? h.objs.size=none:=by
 cases e:h.get? h.objs.size with
 | none=>rfl
 | some o=>exact absurd (cE e) (o6 _)
theorem eV.push (s:Shared) (vs:Array Value) (t:Nat):eV s { s with heap:=s.heap.push { cls:=.type "list",data:=.seq vs },toks:=t } (.ref s.heap.objs.size) vs.toList:=
 ⟨⟨⟨_,_,rfl⟩,λe=>cY _ e⟩,_,rfl,qZ _,⟨0,by simpa using bK s.heap (o:={ cls:=.type "list",data:=.seq vs }) rfl⟩⟩
theorem TF {l b:Addr}{vs ws:List Value}{Q:Value→Shared→Prop}(hl:s.heap.IsList l vs.toArray) (hb:s.heap.IsList b ws.toArray) (qn:vs.length+ws.length≤sizeLine)
  (h:∀ v s',eV s s' v (vs++ws)→Q v s'):wpAny (model prog w) A (binaryOp .Add (.ref l) (.ref b)) Q E s:=by
 obtain⟨⟨cls,dd,data,sl⟩,ho,hc,n,hd⟩:=id hl
 obtain⟨⟨aef,dd2,data2,sl2⟩,RH,Hh,n2,RN⟩:=id hb
 simp only at hc hd Hh RN
 subst hc hd Hh RN
 refine concat_meets ⟨_,ho,rfl⟩ ⟨_,RH,rfl⟩ noFill_list_add seq_list_add PySem.F.slot_list_add PySem.F.entry_list_add (PySem.F.args_list_add_2 _ _) (list_addW l b vs.toArray ws.toArray n n2 dd dd2 sl sl2 (by simpa using qn)) ⟨ho,RH,?_⟩
 rw[(by simp:vs.toArray++ws.toArray=(vs++ws).toArray)]
 exact h _ _ (eV.push s _ _)
theorem TG {l:Addr}{x:Int}{u:Tok}{vs:List Value}{Q:Value→Shared→Prop}(hl:s.heap.IsList l vs.toArray) (h0:0≤x) (qn:vs.length*x.toNat≤256) (hx:x<2^62)
  (h:∀ v s',eV s s' v (ax x.toNat vs).flatten→Q v s'):wpAny (model prog w) A (binaryOp .Mult (.ref l) (.int x u)) Q E s:=by
 obtain⟨⟨cls,d,data,sl⟩,ho,uk,k,hd⟩:=id hl
 simp only at uk hd
 subst uk hd
 refine wpAny_binaryOp_repeat_ref (T:="list") (U:="int") (by decide) ⟨_,ho,rfl⟩ (λs'=>typeIs_int s' x u) noFill_list_mul F.fills_int_mul Fe repeat_list F.slot_int_index.lookup
  (call_meets Fe (typeIs_int s x u) F.entry_int_rmul (F.args_int_rmul_2 _ _) (lm_int_rmul_list_any x u l vs.toArray k d sl)
   ⟨ho,rfl,⟨_,ho,rfl⟩,call_meets F.slot_list_mul ⟨_,ho,rfl⟩ F.entry_list_mul (F.args_list_mul_2 _ _)
    (lm_list_mul_any l vs.toArray k d sl x u (by simp[kv];exact rl 0x7e4b0000000000000000000000000005515716000000000000000000000000000c96000000000000000000000000045454b10 rfl _ h0 hx) (by exact rl 0x2ee424e739ce739ce739ce739ce739da90008801 rfl _ (by simpa using qn:vs.toArray.size*x.toNat≤256)) (by simp[MN,sizeLine];exact rl 0x1a900000000000a1a90008801 rfl _ qn))
    ⟨ho,?_⟩⟩)
 rw[listMul_foldl_if]
 exact h _ _ (by simpa using eV.push s ((ax x.toNat vs).flatten.toArray) s.toks)
theorem Vr {l sl:Addr}{vs:List Value}{vl vu vk:Value}{lo hi:Option Int}{Q:Value→Shared→Prop}(hl:s.heap.IsList l vs.toArray)
  (hs:s.heap.IsSliceOf sl vl vu vk) (pl:IsPart vl lo) (pu:IsPart vu hi) (ps:IsPart vk none) (qn:vs.length≤sizeLine)
  (h:∀ v s',eV s s' v ((vs.drop (kms_lo lo vs.length)).take (kms_hi hi vs.length-kms_lo lo vs.length))→Q v s'):wpAny (model prog w) A (getItem (.ref l) (.ref sl)) Q E s:=by
 refine wpAny_getItem_list_slice hl hs pl pu ps (by simp) ?_ (by simpa using qn)
 rw[kms_pick_eq]
 exact h _ _ (by simpa [kms_pick] using eV.push s (kms_pick vs lo hi).toArray s.toks)
theorem CM {l sl:Addr}{vs:List Value}{vk:Value}{Q:Value→Shared→Prop}(hl:s.heap.IsList l vs.toArray)
  (hs:s.heap.IsSliceOf sl .none .none vk) (ps:IsPart vk (some (-1))) (qn:vs.length≤sizeLine)
  (h:∀ v s',eV s s' v vs.reverse→Q v s'):wpAny (model prog w) A (getItem (.ref l) (.ref sl)) Q E s:=by
 refine wpAny_getItem_list_slice hl hs .none .none ps (by simp) ?_ (by simpa using qn)
 rw[krv_pick]
 exact h _ _ (by simpa using eV.push s vs.reverse.toArray s.toks)
theorem Yq {l:Addr}{vs:List Value}{Q:Value→Shared→Prop}(hl:s.heap.IsList l vs.toArray∨s.heap.IsTuple l vs.toArray) (qn:vs.length≤sizeLine)
  (h:∀ v s',eV s s' v vs→Q v s'):wpAny (model prog w) A (call (.type "list") [.ref l]) Q E s:=by
 rcases hl with ⟨o,ho,hc,n,hd⟩ | ⟨o,ho,hc,n,hd⟩
 ·refine call_list_seq l (.inl rfl) ho hc hd (λh' c' hk hn=>h _ _ ⟨Kp.of (t:=s.toks) hk,_,rfl,qZ _,⟨c',hn⟩⟩) (by simpa using qn)
 ·refine call_list_seq l (.inr rfl) ho hc hd (λh' c' hk hn=>h _ _ ⟨Kp.of (t:=s.toks) hk,_,rfl,qZ _,⟨c',hn⟩⟩) (by simpa using qn)
theorem y2e:∀ {l m:List Int},l.Perm m→l.Pairwise (·≤·)→m.Pairwise (·≤·)→l=m:=by
 intro l m hp hl hm
 exact ma (λa b Z Z h1 h2=>Int.le_antisymm h1 h2) hl hm hp
theorem ZU (l:List Int):(ft l).Perm l:=sd _ _
theorem y64 (l:List Int):(ft l).Pairwise (·≤·):=by
 have:=o7 (le:=λa b:Int=>decide (a≤b)) (λa b c h1 h2=>by simp at *;exact HX _ _ _ h1 h2) (λa b=>by simp;exact rl 0x3e18a9418a82a20 rfl _ _) l
 exact this.imp (by simp)
theorem Yr {l:Addr}{vs:List Value}{ns:List Int}{Q:Value→Shared→Prop}(hl:s.heap.IsList l vs.toArray) (hI:IntsAre vs ns) (h64:vs.length<64)
  (h:∀ v s' ws,eV s s' v ws→IntsAre ws (ft ns)→Q v s'):wpAny (model prog w) A (call (.builtin "sorted") [.ref l]) Q E s:=by
 refine sorted_ints hl hI h64 λout xY a1 a2 a3=>?_
 refine gF (sortedAll_at s.heap vs out) λe he=>?_
 have:xY=ft ns:=y2e (a2.trans (ZU ns).symm) a3 (y64 ns)
 subst this
 refine h _ _ out.toList ⟨Kp.of (t:=s.toks) λZ Z=>sortedAll_old,_,rfl,?_,⟨e,by simpa using he⟩⟩ a1
 cases q:s.heap.get? (s.heap.objs.size+1) with
 | none=>rfl
 | some o=>exact absurd (ig (cE q)) (o6 _)
theorem CL {l:Addr}{vs:List Value}{ns:List Int}{Q:Value→Shared→Prop}(hh:A.handled=none) (hl:s.heap.IsList l vs.toArray) (hi:IntsAre vs ns)
  (h:∀ t s',Kp s s'→Q (.int ns.sum t) s'):wpAny (model prog w) A (call (.builtin "sum") [.ref l]) Q E s:=by
 refine gF hi.allInts.items λxs hx=>?_
 rw[hx] at hl
 refine sum_intListG hh hl λh' tk t' hk=>?_
 have e:preSum (numAt xs) xs.size=ns.sum:=by
  have q:=hi.numsOf
  have:vs=(intItems xs).toList:=by exact hx▸rfl
  rw[this,nums_intItems] at q
  rw[preSum_eq,cX (by simp),q]
 exact(ak e)▸(h _ _ (Kp.of hk))
noncomputable def jB (O:Addr→Prop) (h:Heap):Prop:=∀ a,O a→∃ o,h.get? a=some o
theorem jB.keeps {O:Addr→Prop}{s s':Shared}(x:jB O s.heap) (k:Kp s s'):jB O s'.heap:=λa ha=>let ⟨o,e⟩:=x a ha;⟨o,k.get e⟩
structure Res (s:Shared) (O:Addr→Prop) (fr:Bool) (d:DV) (v:Value) (s':Shared):Prop where
 keeps:Kp s s'
 rep:Rep s'.heap O v d
 fresh:fr=true→∀ ds,d=.list ds→∃ a vs,v=.ref a∧s.heap.get? a=none∧s'.heap.PlainList a vs.toArray∧bC s'.heap (λb=>O b∨b=a) vs ds
theorem Res.ju {s s':Shared}{O:Addr→Prop}{d:DV}{v:Value}(k:Kp s s') (r:Rep s'.heap O v d):Res s O false d v s':=⟨k,r,λh=>nomatch h⟩
theorem Res.j9 {s s':Shared}{O:Addr→Prop}{fr:Bool}{d:DV}{v:Value}(k:Kp s s') (r:Rep s'.heap O v d) (hi:d.j9=true):Res s O fr d v s':=
 ⟨k,r,λZ ds e=>by subst e;exact lN hi⟩
theorem Res.hU {s s':Shared}{O:Addr→Prop}{fr:Bool}{ds:List DV}{v:Value}{vs:List Value}(hO:jB O s.heap) (f:eV s s' v vs) (r:bC s.heap O vs ds):Res s O fr (.list ds) v s':=by
 obtain⟨k,a,rfl,ha,hl⟩:=f
 have hOa:¬ O a:=λh=>by refine gF (hO a h) λo e=>?_;rw[ha] at e;exact bR e
 exact⟨k,.list hl.isList hOa (r.tr (Tr.keeps λb o e=>k.get e)),λZ yL e=>by cases e;exact⟨a,vs,rfl,ha,hl,r.tr (λb o hb e Z=>⟨k.get e,λh=>h.elim hb λq=>by subst q;have e:=ha▸e;cases e⟩)⟩⟩
theorem Res.weak {s s':Shared}{O:Addr→Prop}{fr:Bool}{d:DV}{v:Value}(x:Res s O fr d v s'):Res s O false d v s':=⟨x.keeps,x.rep,λh=>nomatch h⟩
theorem Res.pre {s₀ s s':Shared}{O:Addr→Prop}{fr:Bool}{d:DV}{v:Value}(k:Kp s₀ s) (x:Res s O fr d v s'):Res s₀ O fr d v s':=
 ⟨k.tr x.keeps,x.rep,λh ds e=>by
  refine Bk (x.fresh h ds e) λa vs h1 h2 h3 h4=>?_
  refine⟨a,vs,h1,?_,h3,h4⟩
  cases q:s₀.heap.get? a with
  | none=>rfl
  | some o=>have h2:=(k.get q)▸h2;cases h2⟩
structure vx (n:Nat) (A:Around):Prop where
 handled:A.handled=none
 depth:A.depth+n+200<recursionLimit
 units:A.units+40*n+200<cLine
structure NU (prog:Program) (A:Around):Prop where
 tree:prog.given.tree=none
 frame:∃ env l,A.frames=some (env::l)∧env.scope.isGenerator=false∧env.scope.isCoroutine=false∧env.builtins=builtinsNs∧env.globals=mainGlobals
theorem QT {h:Heap}{O:Addr→Prop}{vs:List Value}{ds:List DV}(x:bC h O vs ds):∀ n:Nat,bC h O (ax n vs).flatten (ax n ds).flatten
 | 0=>.nil
 | n+1=>by simp only[eM,g9];exact x.append (QT x n)
theorem tZ {n:Nat}(h:n≤bh):n≤sizeLine:=br h (by decide)
section
variable {α:Type}{h:Heap}{O:Addr→Prop}{va vb:Value}{a b d:DV}{e:α}{f:Int→Int→Option α}{g:List DV→List DV→Option α}{P:Value→Value→Prop}{Q:Value→Prop}{l:List DV}{i:Int}{c c':Bool}
theorem Rep.wF (r:Rep h O va (.bool c)) (k:Q (.bool c)):Q va:=by cases r;exact k
theorem mq (ra:Rep h O va a) (rb:Rep h O vb b) (k:∀ x y t u,f x y=some e→P (.int x t) (.int y u)) (l:∀ {x y},Rep h O va (.list x)→Rep h O vb (.list y)→g x y=some e→P va vb) (q:oW a b f g=some e):P va vb:=by
 cases a<;>first | exact bR q | skip
 ·cases b<;>first | exact bR q | exact ra.eU (Q:=λv=>P v vb) λt=>rb.eU λu=>k _ _ t u q
 ·cases b<;>first | exact bR q | exact l ra rb q
theorem Ks (ra:Rep h O va a) (rb:Rep h O vb b) (k:∀ x y,.int (b2i x-b2i y)=d→P (.bool x) (.bool y)) (l:oW a b (λa b=>some (DV.int (a-b))) tc=some d→P va vb) (q:l9 .Sub a b=some d):P va vb:=by
 cases a<;>first | exact l q | skip
 cases b<;>first | exact bR q | exact ra.wF (Q:=λv=>P v vb) (rb.wF (k _ _ (ai q)))
theorem K7 (ra:Rep h O va a) (rb:Rep h O vb b) (k:∀ {x} n t,Rep h O va (.list x)→(if 0≤n∧n≤1000∧x.length*n.toNat≤256 then some (.list (ax n.toNat x).flatten) else none)=some d→P va (.int n t))
  (l:oW a b (λa b=>if cj a b then some (DV.int (a*b)) else none) tc=some d→P va vb) (q:l9 .Mult a b=some d):P va vb:=by
 cases a<;>first | exact l q | skip
 cases b<;>first | exact bR q | exact rb.eU λt=>k _ t ra q
theorem Sa (ra:Rep h O va a) (rb:Rep h O vb b) (k:∀ x y t u,decide (x=y)=c→P (.int x t) (.int y u)) (l:a.pure=true→b.pure=true→a.dep≤9→b.dep≤9→vt a b=c→P va vb) (q:wD a b=some c):P va vb:=by
 have fin:∀ {x y:List DV},(if dU x&&dU y&&dZ (gO x) 8&&dZ (gO y) 8 then some (iW x y) else none)=some c→dU x=true∧dU y=true∧gO x+1≤9∧gO y+1≤9∧iW x y=c:=λ{x y} q=>gg q λz e=>
  have z:=gI z
  ⟨(a6 z.1.1).1,(a6 z.1.1).2,wO (dj z.1.2),wO (dj z.2),ai e⟩
 cases a<;>first | exact bR q | skip
 ·cases b<;>first | exact bR q | exact ra.eU (Q:=λv=>P v vb) λt=>rb.eU λu=>k _ _ t u (ai q)
 ·cases b<;>first | exact bR q | exact(let z:=fin q;l z.1 z.2.1 z.2.2.1 z.2.2.2.1 z.2.2.2.2)
 ·cases b<;>first | exact bR q | exact(let z:=fin q;l z.1 z.2.1 z.2.2.1 z.2.2.2.1 z.2.2.2.2)
theorem Rx (rb:Rep h O vb b) (k:c'=c→Q .none) (q:(if oa b then some c' else none)=some c):Q vb:=by
 cases b<;>first | exact bR q | (cases rb;exact k (ai q))
noncomputable def Q7:Value→Bool
 | .none=>true
 | _=>false
theorem Og (ra:Rep h O va a):oa a=Q7 va:=(Rep.both (P:=λv d=>oa d=Q7 v) (Q:=λZ Z=>True) rfl (λZ=>rfl) (λZ Z=>rfl) (λZ Z Z=>rfl) (λZ Z Z=>rfl) trivial λZ Z=>trivial).1 ra
end
theorem P1 {A:Around}{E:Value→Shared→Prop}{s:Shared}{O:Addr→Prop}{op:Operator}{a b d:DV}{va vb:Value}(R:∃ n,vx n A) (Fm:NU prog A) (hN:s.heap.NoSeer) (hL:s.heap.NoLimit)
  (hO:jB O s.heap) (ra:Rep s.heap O va a) (rb:Rep s.heap O vb b) (h:l9 op a b=some d) :
  wpAny (model prog w) A (binaryOp op va vb) (Res s O true d) E s:=by
 revert h
 cases op<;>first
  | exact λh=>bR h
  | skip
 ·refine mq (P:=λva vb=>wpAny (model prog w) A (binaryOp .Add va vb) (Res s O true d) E s) ra rb (λx y t u q=>?_) λ{x y} ra rb=>gv λhc q=>?_
  ·exact ai q▸add_int (Res.j9 (Kp.tok ..) (.int _ _) rfl)
  ·exact ra.listE (Q:=λv=>wpAny (model prog w) A (binaryOp .Add v vb) (Res s O true d) E s) λla vs i1 Z r1=>rb.listE (Q:=λv=>wpAny (model prog w) A (binaryOp .Add _ v) (Res s O true d) E s) λlb ws i2 Z r2=>
    TF i1 i2 (by exact(ak r1.length)▸(ak r2.length)▸(tZ hc)) λv s' f=>ai q▸Res.hU hO f (r1.append r2)
 ·refine Ks (P:=λva vb=>wpAny (model prog w) A (binaryOp .Sub va vb) (Res s O true d) E s) ra rb (λx y q=>?_) (mq (P:=λva vb=>wpAny (model prog w) A (binaryOp .Sub va vb) (Res s O true d) E s) ra rb (λx y t u q=>?_) λZ Z q=>bR q)
  ·exact q▸sub_bool (Res.j9 (Kp.tok ..) (.int _ _) rfl)
  ·exact ai q▸sub_int (Res.j9 (Kp.tok ..) (.int _ _) rfl)
 ·refine K7 (P:=λva vb=>wpAny (model prog w) A (binaryOp .Mult va vb) (Res s O true d) E s) ra rb (λ{x} n' t ra=>gv λhc q=>?_) (mq (P:=λva vb=>wpAny (model prog w) A (binaryOp .Mult va vb) (Res s O true d) E s) ra rb (λx y t u=>gv λhm q=>?_) λZ Z q=>bR q)
  ·exact ra.listE (Q:=λv=>wpAny (model prog w) A (binaryOp .Mult v _) (Res s O true d) E s) λla vs i1 Z r1=>
    TG i1 hc.1 (by exact(ak r1.length)▸hc.2.2) (by exact rl 0x24b000000000000000000000000022bff6a4002222b014e15454b11 rfl _ _ hc) λv s' f=>ai q▸Res.hU hO f (QT r1 _)
  ·exact ai q▸mul_int (Res.j9 (Kp.tok ..) (.int _ _) rfl) (Yl hm)
 ·refine mq (P:=λva vb=>wpAny (model prog w) A (binaryOp .Mod va vb) (Res s O true d) E s) ra rb (λx y t u q=>?_) λZ Z q=>bR q
  split at q
  ·exact bR q
  ·rename_i hb;exact ai q▸mod_int' hb (Res.j9 (Kp.tok ..) (.int _ _) rfl)
 ·refine mq (P:=λva vb=>wpAny (model prog w) A (binaryOp .Pow va vb) (Res s O true d) E s) ra rb (λx y t u=>gv λhp q=>?_) λZ Z q=>bR q
  simp only[eC,aY,decide_eq_true_eq] at hp
  exact ai q▸pow_int_small hp.1.1 (by exact rl 0x1158001090c357dc900000000000009d507f2580015454b20 rfl _ _ hp) (by exact rl 0x1c9000000000000000000000000000baa0fdc900000000000009d507f2580015454b20 rfl _ _ hp) (Res.j9 (Kp.tok ..) (.int _ _) rfl)
 ·refine mq (P:=λva vb=>wpAny (model prog w) A (binaryOp .FloorDiv va vb) (Res s O true d) E s) ra rb (λx y t u q=>?_) λZ Z q=>bR q
  split at q
  ·exact bR q
  ·rename_i hb
   refine gF R λn R=>?_
   refine JA Fm.frame λenv l f1 f2 f3 f4 f5=>?_
   exact ai q▸floordiv_int hb (Res.j9 (Kp.tok ..) (.int _ _) rfl) (.inr (PylongRoom.of hL (by have:=R.depth;show A.depth+100<_;exact rl 0x7240538589210280b92029c2c480236210102 rfl _ _ this) (SeerAt.of hN Fm.tree f1 f2 f3 f4 f5)))
end
end
section
variable {prog:Program}{w:World}
theorem GJ {d:DV}(hp:d.pure=true) (hd:d.dep≤9):An d.py=true:=by
 have q:=d.xS hp
 unfold An
 rw[q.1,ij,q.2]
 exact decide_eq_true (br hd (by decide))
section
variable {A:Around}{E:Value→Shared→Prop}{s:Shared}
theorem XD {O:Addr→Prop}{a b:DV}{va vb:Value}{Q:Value→Shared→Prop}(ra:Rep s.heap O va a) (rb:Rep s.heap O vb b) (pa:a.pure=true) (pb:b.pure=true) (da:a.dep≤9) (db:b.dep≤9)
  (hu:A.units+64<cLine) (h:Q (.bool (vt a b)) s):wpAny (model prog w) A (compareOp .Eq va vb) Q E s:=by
 refine gF ra.reads λas ra=>?_
 refine gF rb.reads λbs rb=>?_
 exact eq_dataH ra rb (GJ pa da) (GJ pb db) hu (by rw[DV.sU a b pa pb];exact h)
theorem Ym {O:Addr→Prop}{a b:DV}{va vb:Value}{Q:Value→Shared→Prop}(ra:Rep s.heap O va a) (rb:Rep s.heap O vb b) (pa:a.pure=true) (pb:b.pure=true) (da:a.dep≤9) (db:b.dep≤9)
  (hu:A.units+64<cLine) (h:Q (.bool (!vt a b)) s):wpAny (model prog w) A (compareOp .NotEq va vb) Q E s:=by
 refine gF ra.reads λas ra=>?_
 refine gF rb.reads λbs rb=>?_
 exact ne_dataH ra rb (GJ pa da) (GJ pb db) hu (by rw[DV.sU a b pa pb];exact h)
theorem YO {O:Addr→Prop}{op:CmpOp}{a b:DV}{c:Bool}{va vb:Value}(R:∃ n,vx n A) (ra:Rep s.heap O va a) (rb:Rep s.heap O vb b) (h:jy op a b=some c) :
  wpAny (model prog w) A (compareOp op va vb) (λv s'=>v=.bool c∧s'=s) E s:=by
 refine gF R λn R=>?_
 have hu:A.units+64<cLine:=by have:=R.units;exact rl 0xe490a218989000280b92428862624011b3002a10102 rfl _ _ this
 revert h
 cases op<;>first
  | exact λh=>bR h
  | skip
 ·exact Sa (P:=λva vb=>wpAny (model prog w) A (compareOp .Eq va vb) (λv s'=>v=.bool c∧s'=s) E s) ra rb (λx y t u e3=>e3▸wpAny_eq_int ⟨rfl,rfl⟩) λp1 p2 p3 p4 p5=>XD ra rb p1 p2 (by exact FN _ p3) (by exact FN _ p4) hu ⟨by rw[p5],rfl⟩
 ·exact mv λc' h1 h2=>Sa (P:=λva vb=>wpAny (model prog w) A (compareOp .NotEq va vb) (λv s'=>v=.bool c∧s'=s) E s) ra rb (λx y t u e3=>by rw[←h2,←e3];exact ne_int ⟨by simp only[bne];rfl,rfl⟩) (λp1 p2 p3 p4 p5=>Ym ra rb p1 p2 (by exact FN _ p3) (by exact FN _ p4) hu ⟨by rw[p5,h2],rfl⟩) h1
 ·exact mq (P:=λva vb=>wpAny (model prog w) A (compareOp .Lt va vb) (λv s'=>v=.bool c∧s'=s) E s) ra rb (λx y t u e3=>ai e3▸lt_int ⟨rfl,rfl⟩) λZ Z q=>bR q
 ·exact mq (P:=λva vb=>wpAny (model prog w) A (compareOp .LtE va vb) (λv s'=>v=.bool c∧s'=s) E s) ra rb (λx y t u e3=>ai e3▸le_int ⟨rfl,rfl⟩) λZ Z q=>bR q
 ·exact mq (P:=λva vb=>wpAny (model prog w) A (compareOp .Gt va vb) (λv s'=>v=.bool c∧s'=s) E s) ra rb (λx y t u e3=>ai e3▸gt_int ⟨rfl,rfl⟩) λZ Z q=>bR q
 ·exact mq (P:=λva vb=>wpAny (model prog w) A (compareOp .GtE va vb) (λv s'=>v=.bool c∧s'=s) E s) ra rb (λx y t u e3=>ai e3▸ge_int ⟨rfl,rfl⟩) λZ Z q=>bR q
 ·refine Rx (Q:=λvb=>wpAny (model prog w) A (compareOp .Is va vb) (λv s'=>v=.bool c∧s'=s) E s) rb λe2=>is_none ⟨?_,rfl⟩
  rw[←e2,Og ra];cases va<;>rfl
 ·refine Rx (Q:=λvb=>wpAny (model prog w) A (compareOp .IsNot va vb) (λv s'=>v=.bool c∧s'=s) E s) rb λe2=>isNot_none ⟨?_,rfl⟩
  rw[←e2,Og ra];cases va<;>rfl
theorem Bw {n j:Nat}{i:Int}(h:eI n i=some j):n≤bh∧j<n∧seqIndex? i n=some j∧(0≤i∧i.toNat=j∨i<0∧(i+n).toNat=j∧-(n:Int)≤i):=by
 unfold eI at h
 unfold seqIndex?
 split at h
 ·rename_i hc
  split at h
  ·rename_i h0
   split at h
   ·rename_i h1
    cases h
    refine⟨hc,by exact rl 0x391e54a085454b11 rfl _ _ h0 h1,?_,.inl ⟨h0,rfl⟩⟩
    have:¬ i<0:=rl 0x5e4b5454b10 rfl _ h0
    simp only[this,if_false]
    simp[h0,h1]
   ·exact bR h
  ·rename_i h0
   split at h
   ·rename_i h1
    cases h
    refine⟨hc,by exact rl 0xe47a9042a348214bbc54b11 rfl _ _ h0 h1,?_,.inr ⟨by exact rl 0x496abc54b10 rfl _ h0,rfl,by exact rl 0x455c822348214b11 rfl _ _ h1⟩⟩
    have:i<0:=rl 0x496abc54b10 rfl _ h0
    simp only[this,if_true]
    have h2:i+(n:Int)<n:=rl 0x4a08a410abc54b11 rfl _ _ h0
    simp[h1,h2]
   ·exact bR h
 ·exact bR h
theorem Bb {l:Addr}{vs:List Value}{i:Int}{t:Tok}{j:Nat}{x:Value}{Q:Value→Shared→Prop}(hl:s.heap.IsList l vs.toArray∨s.heap.IsTuple l vs.toArray) (hi:eI vs.length i=some j) (hx:vs[j]?=some x) (h:Q x s) :
  wpAny (model prog w) A (getItem (.ref l) (.int i t)) Q E s:=by
 refine jR (Bw hi) λh1 h2 h3 h4=>?_
 rcases hl with hl | hl
 ·rcases h4 with ⟨h4,rfl⟩ | ⟨h4,rfl,h5⟩
  ·exact wpAny_getItem_list hl h4 (by exact rl 0x496000000000000000000000000000a9c8f29a9000000008811 rfl _ _ h1 h2) (by simpa using hx) h
  ·exact wpAny_getItem_list_neg hl h4 (by simpa using h5) (by exact rl 0x115716000000000000000000000000000c55c821a9000000008811 rfl _ _ h1 h5) (by simpa using hx) h
 ·exact getItem_tuple hl (by exact rl 0x22ae2c000000000000000000000000001f87ff8ab90405e8f52080aa4b57de8f2a2a5b520000000110112 rfl _ _ _ h1 h4) (by exact rl 0x1258000000000000000000000000002af87ff8ab90405e8f52080aa4b57de8f2a2a5b90143520000000110112 rfl _ _ _ h1 h2 h4) (by simpa using h3) (by simpa using hx) h
end
end
section
variable {prog:Program}{w:World}
noncomputable def oy:List Str:=a5++[ae "range",ae "enumerate",ae "reversed"]
structure GW (H₀:Heap) (mg mb:Str→Option Value):Prop where
 ns:H₀.Ns mainGlobals mg
 nsb:H₀.Ns builtinsNs mb
 blt:∀ x:Str,x≠"__name__"→mb x=bootBuiltins x
 nolimit:H₀.NoLimit
 xZ:H₀.NoSeer
 free:∀ x∈oy,mg x=none
 mods:∃ o,H₀.get? sysModules=some o
 cst:∀ x d,cst x=some d→∃ v,mg x=some v∧Rep H₀ (λZ=>False) v d
structure Hid (H₀:Heap) (O:Addr→Prop) (h:Heap):Prop where
 up:∀ b o,H₀.get? b=some o→h.get? b=some o
 new:∀ a,O a→H₀.get? a=none
 alive:jB O h
structure nR (env:Env) (sc:Scope):Prop where
 kind:env.scope.kind=.function
 glob:env.globals=mainGlobals
 blt:env.builtins=builtinsNs
 lg:∀ x,sc.names.lookup x=some .globalImplicit→env.kindOf x=some .globalImplicit
 ll:∀ x,sc.names.lookup x=some .local→env.kindOf x=some .local
 lc:∀ x,sc.names.lookup x=some .cell→env.kindOf x=some .cell
 lf:∀ x,sc.names.lookup x=some .free→env.kindOf x=some .cell∨env.kindOf x=some .free
 cells:∀ x,sc.names.lookup x=some .cell∨sc.names.lookup x=some .free→∃ c,env.cells.lookup x=some c
 inj:∀ x y c,env.cells.lookup x=some c→env.cells.lookup y=some c→x=y
noncomputable def bV (env:Env) (h:Heap) (x:Str) (v:Value):Prop:=
 (env.kindOf x=some .local∧∃ m,h.Ns env.locals m∧m x=some v) ∨
 ((env.kindOf x=some .cell∨env.kindOf x=some .free)∧∃ c,env.cells.lookup x=some c∧h.IsCell c (some v))
noncomputable def dunder (x:Str):Bool:=x==("__debug__":Str)||x==("__classdict__":Str)
structure dS (prog:Program) (w:World) (H₀:Heap) (O:Addr→Prop) (env:Env) (ρ:au) (h:Heap):Prop where
 dP:Hid H₀ O h
 vars:∀ x t,ρ.lookup x=some t→dunder x=false∧∃ v as,bV env h x v∧bf prog w h O v t as∧∀ a∈as,H₀.get? a=none
theorem bV.mv {env:Env}{h h':Heap}{x:Str}{v:Value} (k1:∀ o,h.get? env.locals=some o→(∃ es n,o.data=.dict es n)→h'.get? env.locals=some o) (k2:∀ b o v,h.get? b=some o→o.data=.cell v→h'.get? b=some o) (X:bV env h x v):bV env h' x v:=
 X.imp (λy=>⟨y.1,aT y.2 λm b c=>⟨m,zV b λo es ep ho hd r=>⟨o,es,ep,k1 o ho ⟨_,_,hd⟩,hd,r⟩,c⟩⟩) λy=>⟨y.1,aT y.2 λc b d=>⟨c,b,aT d λo ho hd=>⟨o,k2 _ o _ ho hd,hd⟩⟩⟩
theorem bV.keeps {env:Env}{h h':Heap}{x:Str}{v:Value}(k:∀ b o,h.get? b=some o→h'.get? b=some o) (X:bV env h x v):bV env h' x v:=X.mv (λo e Z=>k _ o e) λb o Z e Z=>k b o e
theorem Hid.keeps {H₀ h h':Heap}{O:Addr→Prop}(k:∀ b o,h.get? b=some o→h'.get? b=some o) (X:Hid H₀ O h):Hid H₀ O h':=
 ⟨λb o e=>k b o (X.up b o e),X.new,λa ha=>let ⟨o,e⟩:=X.alive a ha;⟨o,k _ _ e⟩⟩
theorem dS.keeps {H₀:Heap}{O:Addr→Prop}{env:Env}{ρ:au}{h h':Heap}(k:∀ b o,h.get? b=some o→h'.get? b=some o) (X:dS prog w H₀ O env ρ h):dS prog w H₀ O env ρ h':=
 ⟨X.dP.keeps k,λx t e=>by
  refine zU (X.vars x t e) λh1 v as h2 h3 h4=>?_
  exact⟨h1,v,as,h2.keeps k,h3.tr (Tr.keeps k) λa Z o e=>k a o e,h4⟩⟩
theorem Kp.fn {s s':Shared}(k:Kp s s'):∀ b o,s.heap.get? b=some o→s'.heap.get? b=some o:=λZ Z e=>k.get e
structure PE (prog:Program) (w:World) (s:Shared) (O:Addr→Prop) (fr:Bool) (t:OT) (v:Value) (s':Shared):Prop where
 keeps:Kp s s'
 rep:∃ as,bf prog w s'.heap O v t as
 af:∀ d,t=.af d→Res s O fr d v s'
theorem PE.of {s s':Shared}{O:Addr→Prop}{fr:Bool}{d:DV}{v:Value}(x:Res s O fr d v s'):PE prog w s O fr (.af d) v s':=
 ⟨x.keeps,⟨[],.af x.rep⟩,λZ e=>by cases e;exact x⟩
theorem PE.pre {s₀ s s':Shared}{O:Addr→Prop}{fr:Bool}{t:OT}{v:Value}(k:Kp s₀ s) (x:PE prog w s O fr t v s'):PE prog w s₀ O fr t v s':=
 ⟨k.tr x.keeps,x.rep,λd e=>(x.af d e).pre k⟩
theorem PE.gU {s s':Shared}{O:Addr→Prop}{fr:Bool}{d:DV}{v:Value}(x:PE prog w s O fr (.af d) v s'):Rep s'.heap O v d:=(x.af d rfl).rep
structure iN (as:List Addr) (s s':Shared):Prop where
 same:∃ h' tk,s'={ s with heap:=h',toks:=tk }
 get:∀ {b:Addr}{o:Obj},b∉as→s.heap.get? b=some o→s'.heap.get? b=some o
noncomputable def iZ (prog:Program) (w:World) (O:Addr→Prop) (s:Shared) (vs:List Value) (as:List Addr) (d:DV) (jt:List OT) (r:Result) (s':Shared):Prop:=
 ∃ v,r=.ok (.ret v)∧iN as s s'∧Rep s'.heap (λb=>O b∨b∈as) v d ∧
  (as=[]∨(d.j9=true∧(∀ a∈as,∃ o,s'.heap.get? a=some o)∧∃ gw,aM prog w s'.heap (λb=>O b∨b∈gw) vs jt gw∧gw.Nodup∧∀ a∈gw,a∈as∨s.heap.get? a=none))
noncomputable def bk (prog:Program) (w:World) (H₀:Heap) (mg:Str→Option Value) (n:Nat) (C:ey):Prop:=
 ∀ f ts d jt,C f ts=some (d,jt)→∃ a o fd,mg f=some (.ref a)∧H₀.get? a=some o∧o.data=.func fd ∧
  ∀ A O s vs as,vx (n+1) A→(∃ l,A.frames=some l)→Hid H₀ (λb=>O b∨b∈as) s.heap→(∀ b∈as,¬ O b)→as.Nodup→aM prog w s.heap (λb=>O b∨b∈as) vs ts as →
   codeAny (model prog w) A (.call (.ref a) ⟨vs,[]⟩) (iZ prog w O s vs as d jt) s
noncomputable def jv (e:Expr):Bool:=(Kn e).isSome
noncomputable def xX (t:Expr):Expr→Bool
 | .Call f es ks _=>(match f with
  | .Name f _=>(match es with
   | _::es=>(match es with
    | []=>(match ks with
     | []=>f != ae "enumerate"||jv t
     | _=>true)
    | _=>true)
   | _=>true)
  | _=>true)
 | .Name ..=>true
 | .Tuple ..=>true
 | .Subscript ..=>true
 | _=>false
mutual
noncomputable def dY (sc:Scope):Expr→Bool
 | .Name x _=>!dunder x&&(match cst x with | none=>true | some _=>sc.names.lookup x==some .globalImplicit)
 | .BinOp l _ r _=>dY sc l&&dY sc r
 | .UnaryOp _ e _=>dY sc e
 | .IfExp a b c _=>dY sc a&&dY sc b&&dY sc c
 | .Compare l _ rs _=>dY sc l&&jj sc rs
 | .BoolOp _ es _=>jj sc es
 | .Call f args _ _=>(match f with
  | .Name f _=>!dunder f&&sc.names.lookup f==some .globalImplicit
  | .Attribute o _ _=>dY sc o
  | _=>true)&&jj sc args
 | .Subscript v i _=>dY sc v&&dY sc i
 | .Slice a b c _=>t9 sc a&&t9 sc b&&t9 sc c
 | .List es _=>jj sc es
 | .Tuple es _ _=>jj sc es
 | .ListComp elt gens cB _=>(match cB.kind with | .function=>true | _=>false)&&!gens.isEmpty&&(cB.names.all λp=>(p.2 != .free||sc.names.lookup p.1==some .cell||sc.names.lookup p.1==some .free)&&cB.names.lookup p.1==some p.2&&p.2 != .globalExplicit)&&z6 sc cB gens&&dY cB elt
 | _=>true
noncomputable def jj (sc:Scope):List Expr→Bool
 | []=>true
 | e::es=>dY sc e&&jj sc es
noncomputable def t9 (sc:Scope):Option Expr→Bool
 | none=>true
 | some e=>dY sc e
noncomputable def z6 (sc cB:Scope):List Comprehension→Bool
 | []=>true
 | ⟨t,it,ifs,a⟩::gs=>dY sc it&&BV cB t&&jj cB ifs&&a==0&&xX t it&&z6 cB cB gs
noncomputable def BV (sc:Scope):Expr→Bool
 | .Name x _=>!dunder x&&(sc.names.lookup x==some .local||sc.names.lookup x==some .cell)
 | .Tuple es k r=>(match wc (.Tuple es k r) with
  | some (x,y)=>!dunder x&&!dunder y&&sc.names.lookup x==some .local&&sc.names.lookup y==some .local&&x != y
  | none=>false)
 | _=>false
end
theorem ZT {e:Expr}(h:jv e=true):∃ es k p,e=.Tuple es k p:=by
 exact(dp.mp h).elim λa Z=>⟨a.1,a.2⟩
theorem u6 {α:Type}{P:α→Prop}{x y b:α}(h:b∈[x,y]) (h1:P x) (h2:P y):P b:=by
 simp only[aC,bT,or_false] at h
 rcases h with rfl | rfl
 ·exact h1
 ·exact h2
theorem K8 {α:Type}{P:α→Prop}{x y z b:α}(h:b∈[x,y,z]) (h1:P x) (h2:P y) (h3:P z):P b:=by
 simp only[aC,bT,or_false] at h
 rcases h with rfl | rfl | rfl
 ·exact h1
 ·exact h2
 ·exact h3
theorem noSeq {h:Heap}{b:Addr}{o o':Obj}{xs:Array Value}{Q:Prop} (e1:h.get? b=some o) (d:o.data=.fields xs) (e2:h.get? b=some o') (hs:fW o'):Q:=by
 rw[e1] at e2;cases e2
 refine iB hs λZ Z q=>?_;clear hs;rw[d] at q;cases q
theorem sE {b:Bool}(h:(!b)=true):b=false:=by
 cases b with
 | false=>rfl
 | true=>exact lN h
theorem Gq {sc:Scope}{f:Str}{q p:Pos}{args:List Expr}{ks:List Keyword}(h:dY sc (.Call (.Name f q) args ks p)=true):(dunder f=false∧sc.names.lookup f=some .globalImplicit)∧jj sc args=true:=
 have x:=a6 h
 have y:=a6 x.1
 ⟨⟨sE y.1,eq_of_beq y.2⟩,x.2⟩
theorem F1 {sc:Scope}{l r:Expr}{op:CmpOp}{p:Pos}(h:dY sc (.Compare l [op] [r] p)=true):dY sc l=true∧dY sc r=true:=
 have x:=a6 h
 ⟨x.1,(a6 x.2).1⟩
theorem PC {sc:Scope}{v:Expr}{lo hi st:Option Expr}{q p:Pos}(h:dY sc (.Subscript v (.Slice lo hi st q) p)=true):dY sc v=true∧(t9 sc lo=true∧t9 sc hi=true)∧t9 sc st=true:=
 have x:=a6 h
 ⟨x.1,gI x.2⟩
theorem xG {sc cB:Scope}{t it:Expr}{ifs:List Expr}{a:Int}{gs:List Comprehension}(h:z6 sc cB (⟨t,it,ifs,a⟩::gs)=true):((((dY sc it=true∧BV cB t=true)∧jj cB ifs=true)∧a=0)∧xX t it=true)∧z6 cB cB gs=true:=
 have x:=a6 h
 have y:=a6 x.1
 have z:=a6 y.1
 ⟨⟨⟨gI z.1,eq_of_beq z.2⟩,y.2⟩,x.2⟩
theorem Yo {t a:Expr}{p q:Pos}(h:xX t (.Call (.Name (ae "enumerate") p) [a] [] q)=true):jv t=true:=by
 have w:(ae "enumerate" != ae "enumerate"||jv t)=true:=h
 rw[bne_self_eq_false,AB] at w
 exact w
theorem OR {k:ScopeKind}(h:(match k with | .function=>true | _=>false)=true):k=.function:=by
 cases k<;>first | rfl | exact lN h
noncomputable def bo:Expr→Bool
 | .List ..=>true
 | .ListComp ..=>true
 | .BinOp ..=>true
 | .Subscript _ i _=>(match i with | .Slice ..=>true | _=>false)
 | .Call f _ _ _=>(match f with | .Name f _=>f=ae "list"||f=ae "sorted" | _=>false)
 | _=>false
structure Cx (prog:Program) (n:Nat) (A:Around) (env:Env) (sc:Scope):Prop where
 room:vx (n+1) A
 lQ:NU prog A
 env:nR env sc
section
variable {A:Around}{E:Value→Shared→Prop}{s:Shared}{env:Env}{sc:Scope}{H₀:Heap}{mg mb:Str→Option Value}{O:Addr→Prop}{ρ:au}{n:Nat}
theorem GC {x:Str}(h:dunder x=false):(x==("__debug__":Str))=false∧(x==("__classdict__":Str))=false:=by
 simpa [dunder,gk] using h
theorem PK {x:Str}{v:Value}{Q:Value→Shared→Prop}(K:env.scope.kind=.function) (hd:dunder x=false) (X:bV env s.heap x v) (h:Q v s):wpAny (model prog w) A (loadName env x) Q E s:=by
 rcases X with ⟨a,m,b,c⟩ | ⟨a,c,b,d⟩
 ·exact wpAny_loadName_local K a b c h
 ·rcases a with a | a
  ·exact wpAny_loadName_cell K a b d h
  ·exact wpAny_loadName_free K a b d h (GC hd).2
theorem pj {x:Str}{pos:Pos}{v:Value}{Q:Value→Shared→Prop}(K:env.scope.kind=.function) (hd:dunder x=false) (X:bV env s.heap x v) (h:Q v s):wpAny (model prog w) A (eval (.Name x pos) env) Q E s:=
 wpAny_Name (PK K hd X h) (GC hd).1
theorem JJ {x:Str}{pos:Pos}{v:Value}{Q:Value→Shared→Prop}(G:GW H₀ mg mb) (up:∀ b o,H₀.get? b=some o→s.heap.get? b=some o) (e:nR env sc) (hd:dunder x=false) (hx:sc.names.lookup x=some .globalImplicit)
  (hv:mg x=some v) (h:Q v s):wpAny (model prog w) A (eval (.Name x pos) env) Q E s:=
 mW e.kind (e.lg x hx) (Calls.loadGlobal_global (by rw[e.glob];exact G.ns.keeps up) hv h) (GC hd).1
theorem PL {x:Str}{pos:Pos}{v:Value}{Q:Value→Shared→Prop}(G:GW H₀ mg mb) (up:∀ b o,H₀.get? b=some o→s.heap.get? b=some o) (e:nR env sc) (hd:dunder x=false) (hx:sc.names.lookup x=some .globalImplicit)
  (hb:x∈oy) (hv:bootBuiltins x=some v) (h:Q v s):wpAny (model prog w) A (eval (.Name x pos) env) Q E s:=by
 have hn:x≠"__name__":=by
  rintro rfl
  revert hb;decide +kernel
 exact mW e.kind (e.lg x hx) (Calls.loadGlobal_builtin (by rw[e.glob];exact G.ns.keeps up) (G.free x hb) (by rw[e.blt];exact G.nsb.keeps up) ((G.blt x hn).trans hv) h) (GC hd).1
theorem qY {e:Expr}{es:List Expr}(h:∀ a p,e≠.Starred a p):starEach (e::es) env=(false,eval e env)::starEach es env:=by
 cases e<;>first | rfl | exact absurd rfl (h _ _)
end
end
section
variable {prog:Program}{w:World}
theorem Z8 {s:Shared}{a:Addr}{vs:Array Value}(h:s.heap.IsTuple a vs):s.TypeIs (.ref a) "tuple":=let ⟨o,q1,q2,_⟩:=h;⟨o,q1,q2⟩
theorem lh {t:OT}{d:DV}(h:t.lf=some d):t=.af d:=by cases t<;>first | exact bR h | exact congrArg _ (ai h)
theorem t7:∀ {ts:List OT}{ds:List DV},jn ts=some ds→ts=ds.map .af
 | [],ds,h=>ai h▸rfl
 | t::ts,ds,h=>by
  revert h
  refine bv λd h1=>bv λyL h2 h3=>?_
  cases h3
  refine(ak (lh h1))▸(ak (t7 h2))▸?_;rfl
theorem GD:∀ {ds:List DV}{ns:List Int},fi ds=some ns→ds=ns.map .int
 | [],ns,h=>ai h▸rfl
 | d::ds,ns,h=>by
  revert h
  refine bv λi h1=>bv λr h2 h3=>?_
  cases h3
  refine(ak (GD h2))▸?_
  cases d<;>first | exact bR h1 | exact ai h1▸rfl
theorem K3 {d:DV}{t:OT}{P:Prop}(h:(match d with | .int i=>some (OT.af (.int (-i))) | _=>none)=some t) (k:∀ i,d=.int i→.af (.int (-i))=t→P):P:=by
 cases d<;>first | exact bR h | exact k _ rfl (ai h)
theorem onI {t:OT}{c:Option Int}{P:Prop}(h:(match t with | .af (.int i)=>some (some i) | _=>none)=some c) (k:∀ i,t=.af (.int i)→some i=c→P):P:=by
 cases t with
 | af d=>cases d<;>first | exact bR h | exact k _ rfl (ai h)
 | own _=>exact bR h
 | fI _=>exact bR h
section
variable (prog w)
variable (H₀:Heap) (mg mb:Str→Option Value) (n:Nat) (C:ey)
noncomputable def SE (e:Expr):Prop:=∀ {env sc ρ t A O s E},Cx prog n A env sc→dY sc e=true→dS prog w H₀ O env ρ s.heap→ev C e ρ=some t →
 wpAny (model prog w) A (eval e env) (PE prog w s O (bo e) t) E s
noncomputable def pT (es:List Expr):Prop:=∀ {env sc ρ ts A O s E pos},Cx prog n A env sc→jj sc es=true→dS prog w H₀ O env ρ s.heap→jw C es ρ=some ts →
 wpAny (model prog w) A (spliced (backTo pos (starEach es env))) (λvs s'=>Kp s s'∧∃ as,aM prog w s'.heap O vs ts as) E s
noncomputable def SB (e:Expr):Prop:=∀ {env sc ρ c A O s E},Cx prog n A env sc→dY sc e=true→dS prog w H₀ O env ρ s.heap→fx C e ρ=some c →
 wpAny (model prog w) A (isTrue e env (eval e env)) (λb s'=>b=c∧Kp s s') E s
noncomputable def EV (es:List Expr):Prop:=∀ {env sc ρ c A O s E op},Cx prog n A env sc→jj sc es=true→dS prog w H₀ O env ρ s.heap→iV C op es ρ=some c →
 wpAny (model prog w) A (allTrue op es env) (λb s'=>b=c∧Kp s s') E s
noncomputable def SO (e:Option Expr):Prop:=∀ {env sc ρ c A O s E},Cx prog n A env sc→t9 sc e=true→dS prog w H₀ O env ρ s.heap→mO C e ρ=some c →
 wpAny (model prog w) A (evalPart e env) (λv s'=>IsPart v c∧Kp s s') E s
end
section
variable {H₀:Heap}{mg mb:Str→Option Value}{n:Nat}{C:ey}(G:GW H₀ mg mb) (hC:bk prog w H₀ mg n C)
theorem GW.wb (G:GW H₀ mg mb){O:Addr→Prop}{h:Heap}(X:Hid H₀ O h):h.NoLimit:=G.nolimit.keeps X.up
theorem GW.seer {O:Addr→Prop}{h:Heap}(G:GW H₀ mg mb) (X:Hid H₀ O h):h.NoSeer:=G.xZ.keeps X.up
theorem dS.kp {O:Addr→Prop}{env:Env}{ρ:au}{s s':Shared}(st:dS prog w H₀ O env ρ s.heap) (k:Kp s s'):dS prog w H₀ O env ρ s'.heap:=st.keeps k.fn
theorem Uj (i:Int) (k:Nat) (p:Pos):SE prog w H₀ n C (.Constant (.int i) k p):=λZ Z Z h=>by
 obtain rfl:=ai h
 exact wpAny_Constant_int (PE.of (Res.j9 (Kp.tok ..) (.int _ _) rfl))
theorem Wj (k:Nat) (p:Pos):SE prog w H₀ n C (.Constant .none k p):=λZ Z Z h=>by
 obtain rfl:=ai h
 exact wpAny_Constant_none (PE.of (Res.j9 (Kp.rf _) .none rfl))
theorem Wd (b:Bool) (k:Nat) (p:Pos):SE prog w H₀ n C (.Constant (.bool b) k p):=λZ Z Z h=>by
 obtain rfl:=ai h
 exact wpAny_Constant_bool (PE.of (Res.j9 (Kp.rf _) (.bool _) rfl))
include G in
theorem Wi (x:Str) (p:Pos):SE prog w H₀ n C (.Name x p):=λ{env sc ρ t A O s E} cx wf st h=>by
 refine XG h (λhx=>?_) λd h1 h2=>?_
 ·refine zU (st.vars x t hx) λhd v as hv r Z=>?_
  refine pj cx.env.kind hd hv ⟨Kp.rf _,⟨as,r⟩,λd e=>?_⟩
  subst e
  exact Res.ju (Kp.rf _) r.cG
 ·subst h2
  refine aT (G.cst x d h1) λv hv r=>?_
  have hg:=(a6 wf).2
  rw[h1] at hg
  refine JJ G st.dP.up cx.env (sE (a6 wf).1) (eq_of_beq hg) hv (PE.of (Res.ju (Kp.rf _) (r.tr λa o Z e Z=>⟨st.dP.up a o e,λhO=>?_⟩)))
  rw[st.dP.new a hO] at e;exact bR e
include G in
theorem Uh {l r:Expr}(hl:SE prog w H₀ n C l) (hr:SE prog w H₀ n C r) (op:Operator) (p:Pos):SE prog w H₀ n C (.BinOp l op r p):=λ{env sc ρ t A O s E} cx wf st h=>by
 revert h
 refine bl λa h1=>bl λb h3=>mv λd h5 h6=>?_
 subst h6
 refine wpAny_BinOp (wm (hl cx (a6 wf).1 st h1) (λva s₁ p1=>wm (hr cx (a6 wf).2 (st.kp p1.keeps) h3) (λvb s₂ p2=>?_)))
 have k:=p1.keeps.tr p2.keeps
 have X:=st.dP.keeps k.fn
 exact wm (P1 ⟨_,cx.room⟩ cx.lQ (G.seer X) (G.wb X) X.alive (p1.gU.tr (Tr.keeps p2.keeps.fn)) p2.gU h5) (λv s₃ q=>PE.of (q.pre k))
theorem Uk {e:Expr}(he:SE prog w H₀ n C e) (p:Pos):SE prog w H₀ n C (.UnaryOp .USub e p):=λ{env sc ρ t A O s E} cx wf st h=>by
 revert h
 refine bl λd h1 h3=>K3 h3 λi e1 e2=>?_
 subst e1 e2
 refine wpAny_UnaryOp (wm (he cx wf st h1) (λv s₁ p1=>?_))
 refine Rep.eU (Q:=λv=>wpAny (model prog w) A (unaryOp .USub v) (PE prog w s O _ _) E s₁) p1.gU λu=>?_
 exact neg_int (PE.of (Res.j9 (p1.keeps.tr (Kp.tok ..)) (.int _ _) rfl))
theorem XN {a b c:Expr}(ha:SB prog w H₀ n C a) (hb:SE prog w H₀ n C b) (hc:SE prog w H₀ n C c) (p:Pos):SE prog w H₀ n C (.IfExp a b c p):=λ{env sc ρ t A O s E} cx wf st h=>by
 have wf:=gI wf
 revert h
 refine bv λq h1 h2=>?_
 refine wpAny_IfExp (wm (ha cx wf.1.1 st h1) (λq' s₁ p1=>?_))
 obtain⟨rfl,k⟩:=p1
 have fin:∀ {e:Expr}{v:Value}{s₂:Shared},PE prog w s₁ O (bo e) t v s₂→PE prog w s O (bo (.IfExp a b c p)) t v s₂:=λx=>
  ⟨k.tr x.keeps,x.rep,λd e=>((x.af d e).pre k).weak⟩
 cases q'
 ·exact wm (hc cx wf.2 (st.kp k) h2) (λZ Z=>fin)
 ·exact wm (hb cx wf.1.2 (st.kp k) h2) (λZ Z=>fin)
theorem Pd {e:Expr}{ρ:au}{t:OT}(h:ev C e ρ=some t) (op:CmpOp):behindInMarks op e=false:=by
 cases e<;>first | rfl | exact bR h
theorem vV {e:Expr}{ρ:au}{t:OT}(h:ev C e ρ=some t):∀ a p,e≠.Starred a p:=by
 rintro a p rfl;exact bR h
theorem N2 {l r:Expr}(hl:SE prog w H₀ n C l) (hr:SE prog w H₀ n C r){env sc ρ A O s E op c a b ta tb}(cx:Cx prog n A env sc) (wl:dY sc l=true) (wr:dY sc r=true) (st:dS prog w H₀ O env ρ s.heap)
  (h1:ev C l ρ=some ta) (h2:ta.lf=some a) (h3:ev C r ρ=some tb) (h4:tb.lf=some b) (h5:jy op a b=some c) :
  wpAny (model prog w) A (eval l env) (λva s₁=>wpAny (model prog w) A (eval r env) (λvb s₂=>wpAny (model prog w) A (compareOp op va vb) (λv s'=>v=.bool c∧Kp s s') E s₂) E s₁) E s:=by
 cases lh h2;cases lh h4
 refine wm (hl cx wl st h1) (λva s₁ p1=>wm (hr cx wr (st.kp p1.keeps) h3) (λvb s₂ p2=>?_))
 exact wm (YO ⟨_,cx.room⟩ (p1.gU.tr (Tr.keeps p2.keeps.fn)) p2.gU h5) (λv s₃ q=>⟨q.1,q.2▸p1.keeps.tr p2.keeps⟩)
theorem Ui {l r:Expr}(hl:SE prog w H₀ n C l) (hr:SE prog w H₀ n C r) (op:CmpOp) (p:Pos):SE prog w H₀ n C (.Compare l [op] [r] p):=λ{env sc ρ t A O s E} cx wf st h=>by
 revert h
 refine bv λta h1=>bv λa h2=>bv λtb h3=>bv λb h4=>mv λd h5 h6=>?_
 subst h6
 refine wpAny_Compare1 (wm (N2 hl hr (E:=E) cx (F1 wf).1 (F1 wf).2 st h1 h2 h3 h4 h5) (λva s₁ p1=>wm p1 (λvb s₂ p2=>wm p2 (λv s₃ p3=>?_)))) (Pd h3 op)
 exact p3.1▸PE.of (Res.j9 p3.2 (.bool _) rfl)
theorem TR {l r:Expr}(hl:SE prog w H₀ n C l) (hr:SE prog w H₀ n C r) (op:CmpOp) (p:Pos){env sc ρ A O s E c a b ta tb}(cx:Cx prog n A env sc) (wl:dY sc l=true) (wr:dY sc r=true) (st:dS prog w H₀ O env ρ s.heap)
  (h1:ev C l ρ=some ta) (h2:ta.lf=some a) (h3:ev C r ρ=some tb) (h4:tb.lf=some b) (h5:jy op a b=some c) :
  wpAny (model prog w) A (isTrue (.Compare l [op] [r] p) env (eval (.Compare l [op] [r] p) env)) (λb s'=>b=c∧Kp s s') E s:=by
 refine wpAny_isTrue_Compare1 (wm (N2 hl hr (E:=E) cx wl wr st h1 h2 h3 h4 h5) (λva s₁ p1=>wm p1 (λvb s₂ p2=>wm p2 (λv s₃ p3=>?_)))) (Pd h3 op)
 exact p3.1▸wpAny_truthy_bool ⟨rfl,p3.2⟩
theorem O5:pT prog w H₀ n C []:=λ{env sc ρ ts A O s E pos} cx wf st h=>by
 obtain rfl:=ai h
 exact wpAny_items_nil ⟨Kp.rf _,_,.nil⟩
theorem JD {e:Expr}{es:List Expr}(he:SE prog w H₀ n C e) (kq:pT prog w H₀ n C es):pT prog w H₀ n C (e::es):=λ{env sc ρ ts A O s E pos} cx wf st h=>by
 revert h
 refine bv λt h1=>bv λjt h2 h3=>ai h3▸?_
 refine(ak (qY (vV h1)))▸?_
 refine bW (wm (he cx (a6 wf).1 st h1) (λv s₁ p1=>wm (kq (pos:=pos) cx (a6 wf).2 (st.kp p1.keeps) h2) (λvs s₂ p2=>?_)))
 refine pD p2 λk bs rs=>?_;clear p2
 refine gF p1.rep λas r=>?_
 exact⟨p1.keeps.tr k,_,.cons (r.tr (Tr.keeps k.fn) λa Z o e=>k.get e) rs⟩
theorem Wh {es:List Expr}(kq:pT prog w H₀ n C es) (p:Pos):SE prog w H₀ n C (.List es p):=λ{env sc ρ t A O s E} cx wf st h=>by
 revert h
 refine bv λts h1=>bv λds h2 h3=>?_
 refine gg h3 λhc h3=>?_
 ·refine ai h3▸?_
  refine wpAny_List (wm (kq cx wf st h1) (λvs s₁ p1=>?_))
  refine pD p1 λk as rs=>?_;clear p1
  exact⟨by exact tZ (by exact HW _ _ hc (((t7 h2▸rs).fT).length)),PE.of ((Res.hU (st.dP.keeps k.fn).alive (by simpa using eV.push s₁ vs.toArray s₁.toks) ((t7 h2▸rs).fT)).pre k)⟩
theorem PX {es:List Expr}(kq:pT prog w H₀ n C es) (k':Nat) (p:Pos):SE prog w H₀ n C (.Tuple es k' p):=λ{env sc ρ t A O s E} cx wf st h=>by
 revert h
 refine bv λts h1=>bv λds h2 h3=>?_
 refine gg h3 λhc h3=>?_
 ·refine ai h3▸?_
  refine wpAny_Tuple (wm (kq cx wf st h1) (λvs s₁ p1=>?_))
  refine pD p1 λk as rs=>?_;clear p1
  refine⟨by exact tZ (by exact HW _ _ hc (((t7 h2▸rs).fT).length)),PE.of (Res.ju (k.tr (Kp.push s₁ _)) (.tup ⟨_,bK _ rfl,rfl,0,rfl⟩ (λhO=>?_) (((t7 h2▸rs).fT).tr (Tr.keeps λb o e=>cY _ e))))⟩
  refine gF ((st.dP.keeps k.fn).alive _ hO) λo e=>?_
  rw[qZ] at e;exact bR e
theorem Wq:SO prog w H₀ n C none:=λZ Z Z h=>by
 obtain rfl:=ai h
 exact wpAny_evalPart_none ⟨.none,Kp.rf _⟩
theorem Wr {e:Expr}(he:SE prog w H₀ n C e):SO prog w H₀ n C (some e):=λcx wf st h=>by
 revert h
 refine bv λt h1 h2=>onI h2 λi e1 e2=>?_
 subst e1 e2
 exact wpAny_evalPart_some (wm (he cx wf st h1) (λv s₁ p=>⟨Rep.eU (va:=v) (Q:=λv=>IsPart v (some i)) p.gU λu=>.int _ _,p.keeps⟩))
set_option tactic.hygienic true in
theorem Bg (slice:Expr) (o i:Value):∃ gE,subscripted slice false o i=operate gE (getItem o i):=by
 cases slice<;>first | exact⟨_,rfl⟩ | skip
 rename_i s _
 cases s<;>exact⟨_,rfl⟩
theorem YS {t:OT}{l:List DV}(h:kU t=some l):t=.af (.list l)∨t=.af (.tup l)∨t=.own (l.map .af):=by
 cases t with
 | af d=>cases d<;>first | exact bR h | exact .inl (congrArg (OT.af ∘ DV.list) (ai h)) | exact .inr (.inl (congrArg (OT.af ∘ DV.tup) (ai h)))
 | own l=>exact .inr (.inr (by exact(ak (t7 h))▸rfl))
 | fI _=>exact bR h
noncomputable def wW (h:Heap) (O:Addr→Prop) (t:OT) (l:List DV) (v:Value):Prop:=∃ a vs,v=.ref a∧((t≠.af (.tup l)∧h.IsList a vs.toArray)∨(t=.af (.tup l)∧h.IsTuple a vs.toArray))∧bC h O vs l
theorem bf.seq {h:Heap}{O:Addr→Prop}{v:Value}{t:OT}{l:List DV}{as:List Addr}(x:bf prog w h O v t as) (e:kU t=some l):wW h O t l v:=
 (YS e).elim (λe=>Rep.listE (va:=v) (e▸x).cG λa vs x o r=>⟨a,vs,rfl,.inl ⟨λq=>(nomatch e.symm.trans q),x⟩,r⟩) λq=>q.elim (λe=>Rep.iy (va:=v) (e▸x).cG λa vs x o r=>⟨a,vs,rfl,.inr ⟨e,x⟩,r⟩)
  λe=>bf.sW (v:=v) (as:=as) (Q:=λv Z=>wW h O t l v) (e▸x) λa vs as x r=>⟨a,vs,rfl,.inl ⟨λq=>(nomatch e.symm.trans q),x.isList⟩,r.fT⟩
theorem bC.slice {h:Heap}{O:Addr→Prop}{vs:List Value}{ds:List DV}(r:bC h O vs ds) (lo hi:Option Int) :
  bC h O ((vs.drop (kms_lo lo vs.length)).take (kms_hi hi vs.length-kms_lo lo vs.length)) ((ds.drop (kms_lo lo ds.length)).take (kms_hi hi ds.length-kms_lo lo ds.length)):=by
 exact(ak r.length)▸((r.drop _).take _)
theorem Ov {v:Value}(h:IsPart v none):v=.none:=by cases h;rfl
theorem Kv {l r:List DV}{lo hi st:Option Int}{P:Prop}(h:m7 l lo hi st=some r) (k1:l.length≤bh→st=none→(l.drop (kms_lo lo l.length)).take (kms_hi hi l.length-kms_lo lo l.length)=r→P) (k2:l.length≤bh→st=some (-1)→lo=none→hi=none→l.reverse=r→P):P:=gg h λhc h=>by
 cases st with
 | none=>exact k1 hc rfl (ai h)
 | some k=>cases lo with
  | some _=>exact bR h
  | none=>cases hi with
   | some _=>exact bR h
   | none=>exact gg h λhk h=>k2 hc (congrArg some hk) rfl rfl (ai h)
theorem PZ {v:Expr}{lo hi st:Option Expr}(hv:SE prog w H₀ n C v) (Dz:SO prog w H₀ n C lo) (DA:SO prog w H₀ n C hi) (cI:SO prog w H₀ n C st) (p p':Pos)
  {env sc ρ A O s E t l u7 jc nI r}(cx:Cx prog n A env sc) (wv:dY sc v=true) (wl:t9 sc lo=true) (wh:t9 sc hi=true) (ws:t9 sc st=true) (rs:dS prog w H₀ O env ρ s.heap)
  (h1:ev C v ρ=some t) (h2:kU t=some l) (h3:mO C lo ρ=some u7) (h4:mO C hi ρ=some jc) (h5:mO C st ρ=some nI) (ht:∀ l',t≠.af (.tup l')) (h6:m7 l u7 jc nI=some r) :
  wpAny (model prog w) A (eval (.Subscript v (.Slice lo hi st p') p) env) (Res s O true (.list r)) E s:=by
 refine Subscript_ (wm (hv cx wv rs h1) (λva s₁ p1=>?_))
 refine wpAny_Slice (wm (Dz cx wl (rs.kp p1.keeps) h3) (λvl s₂ p2=>wm (DA cx wh (rs.kp (p1.keeps.tr p2.2)) h4) (λvh s₃ p3=>
  wm (cI cx ws (rs.kp ((p1.keeps.tr p2.2).tr p3.2)) h5) (λvk s₄ p4=>?_))))
 have k2:=(p2.2.tr p3.2).tr p4.2
 have k:=p1.keeps.tr k2
 refine gF p1.rep λas x=>?_
 refine nW ((x.tr (Tr.keeps k2.fn) λa Z o e=>k2.get e).seq h2) λa vs ev hl xM=>?_
 subst ev
 have dx:=xM.length
 let o:Obj:={ cls:=.type "slice",data:=.fields #[vl,vh,vk] }
 have k5:Kp s₄ { s₄ with heap:=s₄.heap.push o }:=Kp.push s₄ o
 have LJ:(s₄.heap.push o).IsList a vs.toArray:=(hl.elim (λq=>q.2) λq=>absurd q.1 (ht _):s₄.heap.IsList a vs.toArray).push o
 refine gF (Bg (.Slice lo hi st p') (.ref a) (.ref s₄.heap.objs.size)) λgE hs=>?_
 refine tail_any (s:={ s₄ with heap:=s₄.heap.push o }) LJ.typeIs slot_list_getitem.lookup ?_ hs
 refine Kv h6 (λhc e1 e2=>?_) λhc e1 e2 e3 e4=>?_
 ·subst e1 e2
  exact Vr LJ (mF ..) p2.1 p3.1 p4.1 (tZ (by exact Nx _ _ dx hc)) λv' s' f=>(Res.hU ((rs.dP.keeps (k.tr k5).fn).alive:jB O (s₄.heap.push o)) f ((xM.tr (Tr.keeps k5.fn)).slice u7 jc)).pre (k.tr k5)
 ·subst e1 e2 e3 e4
  have u1:=Ov p2.1
  have u2:=Ov p3.1
  subst u1 u2
  exact CM LJ (mF ..) p4.1 (tZ (by exact Nx _ _ dx hc)) λv' s' f=>(Res.hU ((rs.dP.keeps (k.tr k5).fn).alive:jB O (s₄.heap.push o)) f (xM.tr (Tr.keeps k5.fn)).reverse).pre (k.tr k5)
theorem XO {v:Expr}{lo hi st:Option Expr}(hv:SE prog w H₀ n C v) (Dz:SO prog w H₀ n C lo) (DA:SO prog w H₀ n C hi) (cI:SO prog w H₀ n C st) (p p':Pos):SE prog w H₀ n C (.Subscript v (.Slice lo hi st p') p):=
 λ{env sc ρ t A O s E} cx wf rs h=>by
  have wf:=PC wf
  revert h
  refine bv λt' h1=>bv λl h2=>bv λu7 h3=>bv λjc h4=>bv λnI h5 h6=>?_
  ·refine NI h6 λhn h6=>jF h6 λr h8 h7=>?_
   subst h7
   exact wm (PZ hv Dz DA cI p p' cx wf.1 wf.2.1.1 wf.2.1.2 wf.2.2 rs h1 h2 h3 h4 h5 hn h8) (λZ Z x=>PE.of x)
theorem PH {v i:Expr}{t k:OT}{t':OT}{va vi:Value}{s:Shared}{O:Addr→Prop}{as bs:List Addr}{A:Around}{E:Value→Shared→Prop}(x:bf prog w s.heap O va t as) (hi:bf prog w s.heap O vi k bs)
  (h:iJ t k=some t'):wpAny (model prog w) A (subscriptTail v i va vi) (PE prog w s O false t') E s:=by
 refine Lk h (λl n j d e1 e2 h1 h2 h3=>h3▸Rep.eU (Q:=λvi=>wpAny (model prog w) A (subscriptTail v i va vi) (PE prog w s O false _) E s) (e2▸hi).cG λu=>Rep.listE (Q:=λva=>wpAny (model prog w) A (subscriptTail v i va _) (PE prog w s O false _) E s) (e1▸x).cG λa vs hl Z r=>?_) (λl n j d e1 e2 h1 h2 h3=>h3▸Rep.eU (Q:=λvi=>wpAny (model prog w) A (subscriptTail v i va vi) (PE prog w s O false _) E s) (e2▸hi).cG λu=>Rep.iy (Q:=λva=>wpAny (model prog w) A (subscriptTail v i va _) (PE prog w s O false _) E s) (e1▸x).cG λa vs hl Z r=>?_)
  λl n j e1 e2 h1 h2=>Rep.eU (Q:=λvi=>wpAny (model prog w) A (subscriptTail v i va vi) (PE prog w s O false _) E s) (e2▸hi).cG λu=>bf.sW (v:=va) (as:=as) (Q:=λv Z=>wpAny (model prog w) A (subscriptTail _ i v _) (PE prog w s O false t') E s) (e1▸x) λa vs as hl r=>?_
 ·exact aT (r.get h2) λy hy ry=>(Bg i _ _).elim λgE hs=>tail_any hl.typeIs slot_list_getitem.lookup (Bb (.inl hl) (by rw[r.length];exact h1) hy (PE.of (Res.ju (Kp.rf _) ry))) hs
 ·exact aT (r.get h2) λy hy ry=>(Bg i _ _).elim λgE hs=>tail_any (Z8 hl) slot_tuple_getitem.lookup (Bb (.inr hl) (by rw[r.length];exact h1) hy (PE.of (Res.ju (Kp.rf _) ry))) hs
 ·exact nW (r.get h2) λy bs hy ry Z=>(Bg i _ _).elim λgE hs=>tail_any hl.isList.typeIs slot_list_getitem.lookup (Bb (.inl hl.isList) (by rw[r.length];exact h1) hy ⟨Kp.rf _,⟨bs,ry⟩,λd e=>Res.ju (Kp.rf _) (e▸ry).cG⟩) hs
theorem VO {v i:Expr}(oY:∀ a b c p',i≠.Slice a b c p') (p:Pos) (ρ:au):ev C (.Subscript v i p) ρ=(ev C v ρ).bind λt=>(ev C i ρ).bind λk=>iJ t k:=by
 cases i<;>first | exact absurd rfl (oY _ _ _ _) | rfl
theorem y6R {v i:Expr}{p:Pos}(oY:∀ a b c p',i≠.Slice a b c p'):bo (.Subscript v i p)=false:=by cases i<;>first | exact absurd rfl (oY _ _ _ _) | rfl
theorem Wg {v i:Expr}(hv:SE prog w H₀ n C v) (hi:SE prog w H₀ n C i) (oY:∀ a b c p',i≠.Slice a b c p') (p:Pos):SE prog w H₀ n C (.Subscript v i p):=λ{env sc ρ t A O s E} cx wf rs h=>by
 rw[VO oY] at h
 revert h
 refine bv λt' h1=>bv λk h2 h3=>?_
 refine Subscript_ (wm (hv cx (a6 wf).1 rs h1) (λva s₁ p1=>wm (hi cx (a6 wf).2 (rs.kp p1.keeps) h2) (λvi s₂ p2=>?_)))
 refine gF p1.rep λas x=>?_
 refine gF p2.rep λbs y=>?_
 exact(ak ((y6R (v:=v) (p:=p) oY)))▸(wm (PH (x.tr (Tr.keeps p2.keeps.fn) λa Z o e=>p2.keeps.get e) y h3) (λZ Z q=>q.pre (p1.keeps.tr p2.keeps)))
end
end
section
variable {prog:Program}{w:World}
section
variable {A:Around}{E:Value→Shared→Prop}{s:Shared}
theorem aM.mj {P:List Value→Prop}{h:Heap}{O:Addr→Prop}{vs:List Value}{t:OT}{as:List Addr}(x:aM prog w h O vs [t] as) (k:∀ v as,bf prog w h O v t as→P [v]):P vs:=
 x.lR (Q:=λvs Z=>P vs) λv vs as bs r rs=>rs.uY (Q:=λvs Z=>P (v::vs)) (k v as r)
theorem aM.one {h:Heap}{O:Addr→Prop}{vs:List Value}{t:OT}{as:List Addr}(x:aM prog w h O vs [t] as):∃ v,vs=[v]∧bf prog w h O v t as:=
 x.lR (Q:=λvs as=>∃ v,vs=[v]∧bf prog w h O v t as) λv vs as bs r rs=>rs.uY (Q:=λvs bs=>∃ u,v::vs=[u]∧bf prog w h O u t (as++bs)) ⟨v,rfl,as.append_nil.symm▸r⟩
theorem aM.uL {P:List Value→Prop}{h:Heap}{O:Addr→Prop}{vs:List Value}{t u:OT}{as:List Addr}(x:aM prog w h O vs [t,u] as) (k:∀ a b as bs,bf prog w h O a t as→bf prog w h O b u bs→P [a,b]):P vs:=
 x.lR (Q:=λvs Z=>P vs) λv vs as bs r rs=>rs.mj (P:=λvs=>P (v::vs)) λb bs=>k v b as bs r
theorem aM.two {h:Heap}{O:Addr→Prop}{vs:List Value}{t u:OT}{as:List Addr}(x:aM prog w h O vs [t,u] as):∃ a b bs cs,vs=[a,b]∧bf prog w h O a t bs∧bf prog w h O b u cs:=
 x.uL (P:=λvs=>∃ a b bs cs,vs=[a,b]∧bf prog w h O a t bs∧bf prog w h O b u cs) λa b as bs r q=>⟨a,b,as,bs,rfl,r,q⟩
theorem Q9 {F:Int→Int→Option DV}{d:DV}{ts:List OT}{P:List OT→Prop}(h:(match ts with | [.af (.int a),.af (.int b)]=>F a b | _=>none)=some d) (k:∀ a b,F a b=some d→P [.af (.int a),.af (.int b)]):P ts:=by
 cases ts with
 | nil=>exact bR h
 | cons t ts=>
  cases t with
  | own _=>exact bR h
  | fI _=>exact bR h
  | af e=>
   cases e<;>first | exact bR h | skip
   cases ts with
   | nil=>exact bR h
   | cons u ts=>
    cases u with
    | own _=>exact bR h
    | fI _=>exact bR h
    | af e=>
     cases e<;>first | exact bR h | skip
     cases ts with
     | nil=>exact k _ _ h
     | cons _ _=>exact bR h
theorem Ro {F:Int→Option DV}{d:DV}{ts:List OT}{P:List OT→Prop}(h:(match ts with | [.af (.int a)]=>F a | _=>none)=some d) (k:∀ a,F a=some d→P [.af (.int a)]):P ts:=by
 cases ts with
 | nil=>exact bR h
 | cons t ts=>
  cases t with
  | own _=>exact bR h
  | fI _=>exact bR h
  | af e=>
   cases e<;>first | exact bR h | skip
   cases ts with
   | nil=>exact k _ h
   | cons _ _=>exact bR h
theorem Rn {F:List DV→Option DV}{d:DV}{ts:List OT}{P:List OT→Prop}(h:(match ts with | [.af (.list l)]=>F l | _=>none)=some d) (k:∀ l,F l=some d→P [.af (.list l)]):P ts:=by
 cases ts with
 | nil=>exact bR h
 | cons t ts=>
  cases t with
  | own _=>exact bR h
  | fI _=>exact bR h
  | af e=>
   cases e<;>first | exact bR h | skip
   cases ts with
   | nil=>exact k _ h
   | cons _ _=>exact bR h
theorem Rl {F:OT→Option DV}{d:DV}{ts:List OT}{P:List OT→Prop}(h:(match ts with | [t]=>F t | _=>none)=some d) (k:∀ t,F t=some d→P [t]):P ts:=by
 cases ts with
 | nil=>exact bR h
 | cons t ts=>
  cases ts with
  | nil=>exact k _ h
  | cons _ _=>exact bR h
theorem Lo {α:Type}{c:Prop}{i:Decidable c}{a b:Option α}{r:α}{P:Prop}(h:(if c then a else b)=some r) (k:c→a=some r→P) (l:¬ c→b=some r→P):P:=by
 by_cases q:c
 ·rw[if_pos q] at h;exact k q h
 ·rw[if_neg q] at h;exact l q h
theorem pG {α:Type}{c:Prop}{i:Decidable c}{a b:Option α}{r:α}{P:Prop}(h:(if c then a else b)=some r) (k:c→a=some r→P) (l:b=some r→P):P:=Lo h k λZ=>l
theorem biP {P:Str→List OT→DV→Prop}{f:Str}{ts:List OT}{d:DV}(h:bi f ts=some d) (k1:∀ t n,rG t=some n→n≤bh→P (ae "len") [t] (.int n))
  (k2:∀ a b,P (ae "max") [.af (.int a),.af (.int b)] (.int (if a<b then b else a))) (k3:∀ a b,P (ae "min") [.af (.int a),.af (.int b)] (.int (if b<a then b else a)))
  (k4:∀ a,P (ae "abs") [.af (.int a)] (.int a.natAbs)) (k5:∀ a,P (ae "int") [.af (.int a)] (.int a))
  (k6:∀ ns:List Int,P (ae "sum") [.af (.list (ns.map .int))] (.int ns.sum)) (k7:∀ ns:List Int,ns.length<64→P (ae "sorted") [.af (.list (ns.map .int))] (.list ((ft ns).map .int)))
  (k8:∀ t l,kU t=some l→l.length≤bh→P (ae "list") [t] (.list l)):P f ts d:=by
 unfold bi at h
 refine pG h (λe h=>e▸Rl (P:=λts=>P _ ts d) h λt h=>bJ h λn h1 h=>gg h λh2 h=>ai h▸k1 t n h1 h2) λh=>?_
 refine pG h (λe h=>e▸Q9 (P:=λts=>P _ ts d) (F:=λa b=>some (.int (if a<b then b else a))) h λa b h=>ai h▸k2 a b) λh=>?_
 refine pG h (λe h=>e▸Q9 (P:=λts=>P _ ts d) (F:=λa b=>some (.int (if b<a then b else a))) h λa b h=>ai h▸k3 a b) λh=>?_
 refine pG h (λe h=>e▸Ro (P:=λts=>P _ ts d) (F:=λa=>some (.int a.natAbs)) h λa h=>ai h▸k4 a) λh=>?_
 refine pG h (λe h=>e▸Ro (P:=λts=>P _ ts d) (F:=λa=>some (.int a)) h λa h=>ai h▸k5 a) λh=>?_
 refine pG h (λe h=>e▸Rn (P:=λts=>P _ ts d) h λl h=>gg h λZ h=>bJ h λns h1 h=>GD h1▸ai h▸k6 ns) λh=>?_
 refine pG h (λe h=>e▸Rn (P:=λts=>P _ ts d) h λl h=>gg h λh0 h=>bJ h λns h1 h'=>by
  clear h
  have e:=GD h1
  clear h1
  subst e
  rw[ag] at h0
  exact ai h'▸k7 ns h0) λh=>?_
 exact pG h (λe h=>e▸Rl (P:=λts=>P _ ts d) h λt h=>bJ h λl h1 h=>gg h λh2 h=>ai h▸k8 t l h1 h2) λh=>bR h
theorem Eu {P:Value→Prop}{h:Heap}{O:Addr→Prop}{v:Value}{t:OT}{as:List Addr}{n:Nat}(x:bf prog w h O v t as) (e:rG t=some n) (k:∀ a vs,h.IsList a (vs:List Value).toArray→vs.length=n→P (.ref a)) (l:∀ a vs,h.IsTuple a (vs:List Value).toArray→vs.length=n→P (.ref a)):P v:=by
 cases t with
 | af d=>
  have r:=x.cG
  cases d<;>first
   | exact bR e
   | exact r.listE (Q:=P) λa vs i Z r=>k a vs i (r.length.trans (ai e))
   | exact r.iy (Q:=P) λa vs i Z r=>l a vs i (r.length.trans (ai e))
 | own l=>
  exact x.sW (Q:=λv Z=>P v) λa vs as i r=>k _ _ i.isList (r.length.trans (ai e))
 | fI _=>exact bR e
variable (prog w A E s) in
noncomputable def BI (O:Addr→Prop) (f:Str) (d:DV) (vs:List Value):Prop:=∃ fv,bootBuiltins f=some fv∧((∃ id,fv=.builtin id)∨∃ T,fv=.type T)∧wpAny (model prog w) A (call fv vs) (Res s O (decide (f=ae "list"∨f=ae "sorted")) d) E s
theorem Am {O:Addr→Prop}{f:Str}{d:DV}{vs:List Value}{id:String}(e:bootBuiltins f=some (.builtin id)) (h:wpAny (model prog w) A (call (.builtin id) vs) (Res s O (decide (f=ae "list"∨f=ae "sorted")) d) E s):BI prog w A E s O f d vs:=⟨_,e,.inl ⟨_,rfl⟩,h⟩
theorem Si {O:Addr→Prop}{f:Str}{d:DV}{vs:List Value}{T:String}(e:bootBuiltins f=some (.type T)) (h:wpAny (model prog w) A (call (.type T) vs) (Res s O (decide (f=ae "list"∨f=ae "sorted")) d) E s):BI prog w A E s O f d vs:=⟨_,e,.inr ⟨_,rfl⟩,h⟩
theorem WX {O:Addr→Prop}{f:Str}{ts:List OT}{d:DV}{vs:List Value}{as:List Addr}(hh:A.handled=none) (hO:jB O s.heap) (h:bi f ts=some d) (x:aM prog w s.heap O vs ts as):BI prog w A E s O f d vs:=by
 have cp:∀ {vs:List Value}{n:Nat},vs.length=n→n≤bh→(vs.toArray.size:Int)<2^63:=λ{vs n} e h=>by rw[bx,e];exact qM.mpr (ck h (by decide:bh<2^63))
 refine biP (P:=λf ts d=>∀ {vs as},aM prog w s.heap O vs ts as→BI prog w A E s O f d vs) h (λt n h1 h2 {vs as} x=>?_) (λi j {vs as} x=>?_) (λi j {vs as} x=>?_) (λi {vs as} x=>?_) (λi {vs as} x=>?_) (λns {vs as} x=>?_) (λns h1 {vs as} x=>?_) (λt l h1 h2 {vs as} x=>?_) x
 ·refine Am (id:="len") (by decide +kernel) (x.mj (P:=λvs=>wpAny (model prog w) A (call _ vs) _ E s) λv as y=>Eu (P:=λv=>wpAny (model prog w) A (call _ [v]) _ E s) y h1 (λa vs i e=>?_) λa vs i e=>?_)
  ·exact Calls.call_len_list i (cp e h2) (Res.j9 ⟨⟨_,_,rfl⟩,id⟩ (by rw[bx,e];exact .int _ _) rfl)
  ·exact len_tuple i (cp e h2) (Res.j9 ⟨⟨_,_,rfl⟩,id⟩ (by rw[bx,e];exact .int _ _) rfl)
 ·refine Am (id:="max") (by decide +kernel) (x.uL (P:=λvs=>wpAny (model prog w) A (call _ vs) _ E s) λa b as bs ya yb=>ya.cG.eU (Q:=λv=>wpAny (model prog w) A (call _ [v,b]) _ E s) λt=>yb.cG.eU (Q:=λv=>wpAny (model prog w) A (call _ [_,v]) _ E s) λu=>?_)
  refine max_two_ints hh λh' tk k=>Res.j9 (Kp.of k) ?_ rfl
  by_cases q:i<j
  ·rw[if_pos q,if_pos q];exact .int _ _
  ·rw[if_neg q,if_neg q];exact .int _ _
 ·refine Am (id:="min") (by decide +kernel) (x.uL (P:=λvs=>wpAny (model prog w) A (call _ vs) _ E s) λa b as bs ya yb=>ya.cG.eU (Q:=λv=>wpAny (model prog w) A (call _ [v,b]) _ E s) λt=>yb.cG.eU (Q:=λv=>wpAny (model prog w) A (call _ [_,v]) _ E s) λu=>?_)
  refine min_two_ints hh λh' tk k=>Res.j9 (Kp.of k) ?_ rfl
  by_cases q:j<i
  ·rw[if_pos q,if_pos q];exact .int _ _
  ·rw[if_neg q,if_neg q];exact .int _ _
 ·refine Am (id:="abs") (by decide +kernel) (x.mj (P:=λvs=>wpAny (model prog w) A (call _ vs) _ E s) λv as y=>y.cG.eU (Q:=λv=>wpAny (model prog w) A (call _ [v]) _ E s) λt=>?_)
  refine call_abs_int λu tk=>Res.j9 (Kp.tok ..) ?_ rfl
  have:(if i<0 then -i else i)=(i.natAbs:Int):=by split<;>lia
  rw[this];exact .int _ _
 ·exact Si (T:="int") (by decide +kernel) (x.mj (P:=λvs=>wpAny (model prog w) A (call _ vs) _ E s) λv as y=>y.cG.eU (Q:=λv=>wpAny (model prog w) A (call _ [v]) _ E s) λt=>call_int_int (Res.j9 (Kp.rf _) (.int _ _) rfl))
 ·exact Am (id:="sum") (by decide +kernel) (x.mj (P:=λvs=>wpAny (model prog w) A (call _ vs) _ E s) λv as y=>y.cG.listE (Q:=λv=>wpAny (model prog w) A (call _ [v]) _ E s) λa vs i Z r=>CL hh i r.ints λt s' k=>Res.j9 k (.int _ _) rfl)
 ·exact Am (id:="sorted") (by decide +kernel) (x.mj (P:=λvs=>wpAny (model prog w) A (call _ vs) _ E s) λv as y=>y.cG.listE (Q:=λv=>wpAny (model prog w) A (call _ [v]) _ E s) λa vs i Z r=>Yr i r.ints (by rw[r.length,ag];exact h1) λv s' ws f hi=>Res.hU hO f (bC.ofInts hi))
 ·refine Si (T:="list") (by decide +kernel) (x.mj (P:=λvs=>wpAny (model prog w) A (call _ vs) _ E s) λv as y=>?_)
  refine nW (y.seq h1) λb ws e hl r=>e▸?_
  exact Yq (hl.elim (λq=>.inl q.2) λq=>.inr q.2) (by rw[r.length];exact tZ h2) λv s' f=>Res.hU hO f r
end
section
variable {A:Around}{E:Value→Shared→Prop}{s:Shared}{env:Env}{M:Model}
noncomputable def pU (es:List Expr):Prop:=∀ e∈es,∀ a p,e≠.Starred a p
theorem J1 {es:List Expr}(h:pU es) (p:Pos):(backTo p (starEach es env)).any (·.1)=false:=by
 induction es with
 | nil=>rfl
 | cons e es ih=>
  rw[qY (h e (.head _))]
  show(false||(backTo p (starEach es env)).any (·.1))=false
  rw[ih λe' he=>h e' (.tail _ he)];rfl
theorem zY {C:ey}:∀ {es:List Expr}{ρ:au}{ts:List OT},jw C es ρ=some ts→pU es
 | [],_,_,_=>λZ h=>nomatch h
 | e::es,ρ,ts,h=>by
  revert h
  refine bv λt h1=>bv λjt h2 h3=>?_
  intro e' he
  exact(aC.mp he).elim (λe=>e▸vV h1) (zY h2 e')
theorem F9 {f:Value}{es:List Expr}{p:Pos}{Q:Args→Shared→Prop}(hn:pU es) (h0:es=[]→Q ⟨[],[]⟩ s)
  (h:wpAny M A (spliced (backTo p (starEach es env))) (λvs s'=>Q ⟨vs,[]⟩ s') E s):wpAny M A (evalArgs f true (backTo p (starEach es env)) []) Q E s:=by
 cases es with
 | nil=>exact ME (h0 rfl)
 | cons e es=>
  rw[qY (hn e (.head _))] at h ⊢
  exact jA h
end
section
variable {H₀:Heap}{mg mb:Str→Option Value}{n:Nat}{C:ey}(G:GW H₀ mg mb) (hC:bk prog w H₀ mg n C)
theorem y78 {f:Str}(h:f∈a5):f∈oy:=ba _ h
noncomputable def tq:Value→Bool
 | .type _=>true
 | .builtin _=>true
 | _=>false
theorem TU {v:Value}(h:tq v=true):(∃ id,v=.builtin id)∨∃ T,v=.type T:=by
 cases v<;>first | exact lN h | exact .inl ⟨_,rfl⟩ | exact .inr ⟨_,rfl⟩
theorem UE {f:Str}(hf:f∈a5):∃ fv,bootBuiltins f=some fv∧((∃ id,fv=.builtin id)∨∃ T,fv=.type T):=
 kC (bootBuiltins f) (λe=>lN (e▸aA.mp (by decide +kernel:a5.all (λf=>((bootBuiltins f).map tq).getD false)=true) f hf:((none:Option Value).map tq).getD false=true)) λv e=>⟨v,e,TU (e▸aA.mp (by decide +kernel:a5.all (λf=>((bootBuiltins f).map tq).getD false)=true) f hf:((some v).map tq).getD false=true)⟩
include G in
theorem OB {f:Str}{es:List Expr}(kq:pT prog w H₀ n C es) (pf p:Pos){env sc ρ ts d A O s E}(cx:Cx prog n A env sc) (wf:dY sc (.Call (.Name f pf) es [] p)=true) (st:dS prog w H₀ O env ρ s.heap)
  (h1:jw C es ρ=some ts) (hf:f∈a5) (h2:bi f ts=some d) :
  wpAny (model prog w) A (eval (.Call (.Name f pf) es [] p) env) (Res s O (bo (.Call (.Name f pf) es [] p)) d) E s:=by
 have wf:=Gq wf
 have hn:=zY h1
 refine aT (UE hf) λfv m1 m2=>?_
 have DW:∀ vs s₁ as,Kp s s₁→aM prog w s₁.heap O vs ts as→wpAny (model prog w) A (call fv vs) (Res s O (bo (.Call (.Name f pf) es [] p)) d) E s₁:=λvs s₁ as k x=>
  iw (WX (E:=E) cx.room.handled (st.dP.keeps k.fn).alive h2 x) λfv' q1 q2 q3=>ai (q1.symm.trans m1)▸wm q3 λv s₂ r=>by rw[show bo (.Call (.Name f pf) es [] p)=decide (f=ae "list"∨f=ae "sorted") from (Bool.decide_or _ _).symm];exact r.pre k
 have args:∀ {f':Value}{P:Args→Shared→Prop},(∀ vs s₁ as,Kp s s₁→aM prog w s₁.heap O vs ts as→P ⟨vs,[]⟩ s₁)→wpAny (model prog w) A (evalArgs f' true (backTo p (starEach es env)) []) P E s:=λhP=>by
  refine F9 hn (λe=>?_) (wm (kq cx wf.2 st h1) (λvs s₁ q=>?_))
  ·subst e
   exact hP [] s [] (Kp.rf _) (ai h1▸.nil)
  ·refine pD q λk as x=>?_;clear q
   exact hP vs s₁ as k x
 refine Call_ (PL G st.dP.up cx.env wf.1.1 wf.1.2 (y78 hf) m1 ?_)
 exact m2.elim (λm=>m.elim λid e=>e▸iO (J1 hn p) (args λvs s₁ as k x=>e▸DW vs s₁ as k x))
  λm=>m.elim λT e=>e▸kr (J1 hn p) (args λvs s₁ as k x=>e▸DW vs s₁ as k x)
include G hC in
theorem P4 {f:Str}{es:List Expr}(kq:pT prog w H₀ n C es) (pf p:Pos){env sc ρ}{ds:List DV}{r A O s E}(cx:Cx prog n A env sc) (wf:dY sc (.Call (.Name f pf) es [] p)=true) (st:dS prog w H₀ O env ρ s.heap)
  (h1:jw C es ρ=some (ds.map .af)) (h2:C f (ds.map .af)=some r) :
  wpAny (model prog w) A (eval (.Call (.Name f pf) es [] p) env) (Res s O false r.1) E s:=by
 have wf:=Gq wf
 have hn:=zY h1
 obtain⟨d,jt⟩:=r
 refine nU (hC f _ d jt h2) λa o fd ha ho hd tD=>?_
 refine mZ cx.lQ.frame λL' l' fr Z=>?_
 have fin:∀ vs s₁ as,Kp s s₁→aM prog w s₁.heap O vs (ds.map .af) as→(s₁.heap.get? a=some o∧o.data=.func fd)∧wpAny (model prog w) A (call (.ref a) vs) (Res s O false d) E s₁:=λvs s₁ as k x=>by
  have X:=st.dP.keeps k.fn
  refine⟨⟨X.up _ _ ho,hd⟩,wpAny_call (codeAny_mono (tD A O s₁ vs [] cx.room ⟨_,fr⟩ ?_ (λZ h=>nomatch h) dg ?_) λr' s₂ hr=>?_)⟩
  ·exact⟨X.up,λa' h=>X.new a' (h.elim id λq=>nomatch q),λa' h=>X.alive a' (h.elim id λq=>nomatch q)⟩
  ·exact aM.kg (x.fT.tr λa' o' hO e Z=>⟨e,λq=>hO (q.elim id λq=>nomatch q)⟩)
  ·obtain⟨v,rfl,k2,rep,_⟩:=hr
   have k2:Kp s₁ s₂:=⟨k2.same,λe=>k2.get (λq=>nomatch q) e⟩
   exact Res.ju (k.tr k2) (rep.tr λa' o' hO e Z=>⟨e,λq=>hO (.inl q)⟩)
 refine Call_ (JJ G st.dP.up cx.env wf.1.1 wf.1.2 ha (oM (o:=o) (fd:=fd) (F9 hn (λe=>?_) (wm (kq cx wf.2 st h1) (λvs s₁ q=>?_)))))
 ·subst e
  have h1:=ai h1
  have:=fin [] s [] (Kp.rf _) (by rw[←h1];exact .nil)
  exact this
 ·refine pD q λk as x=>?_;clear q
  exact fin vs s₁ as k x
include G hC in
theorem We {f:Str}{es:List Expr}(kq:pT prog w H₀ n C es) (pf p:Pos):SE prog w H₀ n C (.Call (.Name f pf) es [] p):=λ{env sc ρ t A O s E} cx wf st h=>by
 revert h
 refine bv λf' hf'=>bv λts h1 h2=>?_
 have e:f=f':=ai hf'
 subst e
 refine Lo h2 (λhf=>mv λd h3 h4=>h4▸wm (OB G kq pf p cx wf st h1 hf h3) λZ Z x=>PE.of x) λhf h2=>?_
 have fr:bo (.Call (.Name f pf) es [] p)=false:=gk.mpr ⟨decide_eq_false λe=>hf (e▸by decide +kernel),decide_eq_false λe=>hf (e▸by decide +kernel)⟩
 exact bJ h2 λds h3=>mv λr h4 h5=>h5▸fr▸wm (P4 G hC kq pf p cx wf st (t7 h3▸h1) h4) λZ Z x=>PE.of x
end
end
section
variable {prog:Program}{w:World}
noncomputable def gJ (tg:Expr) (h:Heap) (O:Addr→Prop) (v:Value) (d:DV):Prop:=
 if jv tg then ∀ p q,d=.tup [p,q]→∃ T x y,v=.ref T∧h.IsTuple T #[x,y]∧Rep h O x p∧Rep h O y q
 else Rep h O v d
theorem iN.rf (as:List Addr) (s:Shared):iN as s s:=⟨⟨s.heap,s.toks,rfl⟩,λZ e=>e⟩
theorem iN.tr {as:List Addr}{s s' mh:Shared}(x:iN as s s') (y:iN as s' mh):iN as s mh:=by
 obtain⟨⟨h,t,rfl⟩,k⟩:=x
 obtain⟨⟨h',t',rfl⟩,k'⟩:=y
 exact⟨⟨h',t',rfl⟩,λn e=>k' n (k n e)⟩
theorem Kp.b {as:List Addr}{s s':Shared}(x:Kp s s'):iN as s s':=⟨x.same,λZ e=>x.get e⟩
structure Src (prog:Program) (w:World) (A:Around) (tg:Expr) (I:Addr) (fp wr:List Addr) (ds:List DV) (O:Addr→Prop) (St:Nat→Heap→Prop):Prop where
 sub:∀ b∈wr,b∈fp
 seq:∀ i h,St i h→∀ b∈wr,∃ o,h.get? b=some o∧¬ fW o∧(∀ v,o.data≠.cell v)∧(∀ es n,o.data≠.dict es n)
 frame:∀ i h h',St i h→(∀ b o,h.get? b=some o→(b∈fp∨(fW o∧¬ O b))→h'.get? b=some o)→St i h'
 item:∀ i d (s:Shared),ds[i]?=some d→St i s.heap→wpAny (model prog w) A (pyNext (.ref I)) (λr s₁=>∃ v,r=some v ∧
  wpAny (model prog w) A (letOwnedTupleGo tg (.ref I) v) (λZ s₂=>iN wr s s₂∧St (i+1) s₂.heap∧gJ tg s₂.heap O v d) (λZ Z=>False) s₁) (λZ Z=>False) s
 done:∀ s:Shared,St ds.length s.heap→wpAny (model prog w) A (pyNext (.ref I)) (λr s₁=>r=none∧iN wr s s₁) (λZ Z=>False) s
 self:∀ i (s:Shared) (Q:Value→Shared→Prop) (E:Value→Shared→Prop),St i s.heap→Q (.ref I) s→wpAny (model prog w) A (pyIter (.ref I)) Q E s
noncomputable def More (O:Addr→Prop) (h:Heap) (OO:Addr→Prop):Prop:=∀ b,OO b→O b∨h.get? b=none
noncomputable def dQ (prog:Program) (w:World) (A:Around) (tg:Expr) (ds:List DV) (O:Addr→Prop) (s:Shared) (it:Value) (s₂:Shared):Prop:=
 Kp s s₂∧∃ I fp wr,it=.ref I∧(∀ b∈wr,s.heap.get? b=none)∧(∀ b∈fp,b∈wr∨∃ o,s₂.heap.get? b=some o∧fW o∧¬ O b)∧∀ OO,More O s₂.heap OO→∃ St,Src prog w A tg I fp wr ds OO St∧St 0 s₂.heap
theorem Kp.gone {s s':Shared}(k:Kp s s'){b:Addr}(h:s'.heap.get? b=none):s.heap.get? b=none:=kC (s.heap.get? b) id λZ q=>bR (h.symm.trans (k.get q))
theorem dQ.pre {A:Around}{tg:Expr}{ds:List DV}{O:Addr→Prop}{s₀ s s₂:Shared}{it:Value}(k:Kp s₀ s) (x:dQ prog w A tg ds O s it s₂):dQ prog w A tg ds O s₀ it s₂:=by
 refine sJ x λk' I fp wr h1 h4 h5 h2=>?_;clear x
 exact⟨k.tr k',I,fp,wr,h1,λb hb=>k.gone (h4 b hb),h5,h2⟩
theorem More.tr {O OO:Addr→Prop}{s s₂:Shared}(m:More O s₂.heap OO) (k:Kp s s₂):Tr s.heap O s₂.heap OO:=λa o hO e Z=>⟨k.get e,λq=>(m a q).elim hO λz=>by rw[k.get e] at z;cases z⟩
noncomputable def Quiet (o:Obj):Prop:=∃ T,o.cls=.type T∧(["enumerate","zip","dict_itemiterator","dict_reverseitemiterator","odict_iterator","itertools.zip_longest","itertools.pairwise"].contains T)=false
set_option backward.match.sparseCases true in
theorem XK {A:Around}{E:Value→Shared→Prop}{s:Shared}{tg:Expr}{I:Addr}{o:Obj}{v:Value}{Q:Unit→Shared→Prop}(ho:s.heap.get? I=some o) (hc:Quiet o) (h:Q () s) :
  wpAny (model prog w) A (letOwnedTupleGo tg (.ref I) v) Q E s:=by
 have fs:∀ a,wpAny (model prog w) A (do
   let o ←load I
   match o.cls,o.data with
   | .type n,.fields vs=>
    if ["enumerate","zip","dict_itemiterator","dict_reverseitemiterator","odict_iterator","itertools.zip_longest","itertools.pairwise"].contains n&&vs[0]?==some (rawInt a) then
     rule "for.unpacks-the-owned-tuple"
     updateField I 0 .none
   | _,_=>pure ()) Q E s:=λa=>by
  refine wpAny_bind (wpAny_load ho ?_)
  obtain⟨cls,d,data,sl⟩:=o
  refine aT hc λT hc hT=>?_
  have hc:cls=.type T:=hc
  subst hc
  clear ho
  cases data with
  | fields vs=>
   show wpAny (model prog w) A (if ["enumerate","zip","dict_itemiterator","dict_reverseitemiterator","odict_iterator","itertools.zip_longest","itertools.pairwise"].contains T&&vs[0]?==some (rawInt a) then _ else _) Q E s
   rw[hT]
   exact wpAny_pure h
  | _=>exact wpAny_pure h
 cases tg<;>first | exact wpAny_pure h | (cases v<;>first | exact wpAny_pure h | exact fs _)
noncomputable def wY (h:Heap) (b:Addr):Prop:=∃ o,h.get? b=some o∧∃ xs,o.data=.fields xs
theorem wY.not {h:Heap}{b:Addr}(x:wY h b):∃ o,h.get? b=some o∧¬ fW o∧(∀ v,o.data≠.cell v)∧∀ es n,o.data≠.dict es n:=
 NJ x λo ho Z hd=>⟨o,ho,λq=>q.elim λZ q=>q.elim λZ q=>(nomatch hd.symm.trans q),λZ q=>(nomatch hd.symm.trans q),λZ Z q=>nomatch hd.symm.trans q⟩
theorem Jd {h h':Heap}{wr:List Addr}(f:∀ b∈wr,wY h b) (k:∀ b o,b∉wr→h.get? b=some o→h'.get? b=some o){b:Addr}{o:Obj}(e:h.get? b=some o) (hs:fW o):h'.get? b=some o:=
 k b o (λq=>NJ (f b q) λZ ho Z hd=>noSeq ho hd e hs) e
theorem pV {I b:Addr}{P:Addr→Prop}(h:b∈[I]) (k:P I):P b:=aK.mp h▸k
theorem Src.ofWalks {A:Around}{tg:Expr}{I:Addr}{fp:List Addr}{ds:List DV}{O:Addr→Prop}{P:Nat→Value→Prop}{St:Nat→Heap→Prop}(W:Walks prog w A I fp [I] ds.length P St) (R:Heap→Prop)
  (hI:∀ i h,St i h→∃ o,h.get? I=some o∧Quiet o∧∃ vs,o.data=.fields vs)
  (hR:∀ h h',R h→(∀ b o,h.get? b=some o→fW o→¬ O b→h'.get? b=some o)→R h')
  (hP2:∀ i h v d,St (i+1) h→P i v→R h→ds[i]?=some d→gJ tg h O v d) :
  Src prog w A tg I fp [I] ds O (λi h=>St i h∧R h):=by
 have fl:∀ {i h},St i h→∀ b∈[I],wY h b:=λst b hb=>pV hb (iw (hI _ _ st) λo ho Z hd=>⟨o,ho,hd⟩)
 refine⟨W.sub,λi h st b hb=>(fl st.1 b hb).not,λi h h' st k=>⟨W.frame i h h' st.1 λb hb o e=>k b o e (.inl hb),hR _ _ st.2 λb o e hs hO=>k b o e (.inr ⟨hs,hO⟩)⟩,λi d s hd st=>?_,λs st=>?_,λi s Q E st h=>W.self i s Q E st.1 h⟩
 ·refine W.item i s _ _ (b7.mp hd).1 st.1 λv h' tk hp nI k=>⟨v,rfl,?_⟩
  have r':=hR _ h' st.2 λb o e hs Z=>Jd (fl st.1) k e hs
  exact iw (hI _ _ nI) λo ho hc Z=>XK (s:={ s with heap:=h',toks:=tk }) ho hc ⟨⟨⟨h',tk,rfl⟩,λ{b o} hb e=>k b o hb e⟩,⟨nI,r'⟩,hP2 i h' v d nI hp r' hd⟩
 ·exact W.done s _ _ st.1 λh' tk k=>⟨rfl,⟨⟨h',tk,rfl⟩,λ{b o} hb e=>k b o hb e⟩⟩
theorem gJ.ju {tg:Expr}{h:Heap}{O:Addr→Prop}{v:Value}{d:DV}(r:Rep h O v d):gJ tg h O v d:=by
 unfold gJ
 split
 ·exact λp q e=>(e▸r:Rep h O v (.tup [p,q])).iy (Q:=λv=>∃ T x y,v=.ref T∧h.IsTuple T #[x,y]∧Rep h O x p∧Rep h O y q) λa vs ht Z rs=>
   rs.lR (Q:=λvs=>h.IsTuple a vs.toArray→_) (λx vs r1 rs=>rs.lR (Q:=λvs=>h.IsTuple a (x::vs).toArray→_) λy vs r2 rs=>rs.uY (Q:=λvs=>h.IsTuple a (x::y::vs).toArray→_) λht=>⟨_,_,_,rfl,ht,r1,r2⟩) ht
 ·exact r
section
variable {A:Around}{E:Value→Shared→Prop}{s:Shared}
theorem FQ {h h':Heap}{O:Addr→Prop}(k:∀ b o,h.get? b=some o→fW o→¬ O b→h'.get? b=some o):Tr h O h' O:=λb o hO e hs=>⟨k b o e hs hO,hO⟩
theorem IQ {tg:Expr}{O:Addr→Prop}{I a:Addr}{vs:List Value}{l ds:List DV}{P:Nat→Value→Prop}{St:Nat→Heap→Prop}{s₀:Shared}{n:Nat}(W:Walks prog w A I [I,a] [I] n P St) (en:n=ds.length)
  (hP:∀ {i v d OO h},P i v→bC h OO vs l→ds[i]?=some d→Rep h OO v d) (k₀:Kp s₀ s) (h1:s₀.heap.get? I=none) (hq:∃ o,s.heap.get? a=some o∧fW o) (ho:¬ O a) (rs:bC s.heap O vs l)
  (hI:∀ i h,St i h→∃ o,h.get? I=some o∧Quiet o∧∃ vs,o.data=.fields vs) (h0:St 0 s.heap):dQ prog w A tg ds O s₀ (.ref I) s:=
 ⟨k₀,I,[I,a],[I],rfl,λb hb=>pV (P:=λb=>s₀.heap.get? b=none) hb h1,λb hb=>u6 (P:=λb=>b∈[I]∨∃ o,s.heap.get? b=some o∧fW o∧¬ O b) hb (.inl (.head _)) (.inr (aT hq λo e q=>⟨o,e,q,ho⟩)),
  λOO mo=>⟨_,Src.ofWalks (en▸W) (λh=>bC h OO vs l) hI (λh h' r q=>r.tr (FQ q)) (λi h v d Z hp r hd=>gJ.ju (hP hp r hd)),h0,rs.tr (mo.tr (Kp.rf s))⟩⟩
theorem FO {vs:List Value}{ds:List DV}{i:Nat}{v:Value}{d:DV}{OO:Addr→Prop}{h:Heap}(hp:vs[i]?=some v) (r:bC h OO vs ds) (hd:ds[i]?=some d):Rep h OO v d:=
 aT (r.get hd) λZ e r'=>ai (e.symm.trans hp)▸r'
theorem XW {tg:Expr}{O:Addr→Prop}{a:Addr}{vs:List Value}{ds:List DV}(hh:A.handled=none) (hl:s.heap.IsList a vs.toArray) (ho:¬ O a) (rs:bC s.heap O vs ds) :
  wpAny (model prog w) A (pyIter (.ref a)) (dQ prog w A tg ds O s) E s:=by
 refine wpAny_pyIter_list hl (rQ hl λo e1 Z n e2=>?_)
 have k:=Kp.push s { cls:=.type "list_iterator",data:=.fields #[.ref a,.int 0 0] }
 exact IQ (Walks.list hh s.heap.objs.size a (dr (cE e1)) vs.toArray) rs.length (λhp r hd=>FO (by simpa using hp) r hd) k (qZ _) ⟨o,k.get e1,_,_,e2⟩ ho (rs.tr (Tr.keeps k.fn))
  (λi h st=>iw st.1 λo e c dd=>⟨o,e,⟨_,c,by decide +kernel⟩,_,dd⟩) ⟨⟨_,bK _ rfl,rfl,rfl⟩,hl.push _⟩
theorem Wu {tg:Expr}{O:Addr→Prop}{a:Addr}{vs:List Value}{ds:List DV}(hh:A.handled=none) (hl:s.heap.IsTuple a vs.toArray) (ho:¬ O a) (rs:bC s.heap O vs ds) :
  wpAny (model prog w) A (pyIter (.ref a)) (dQ prog w A tg ds O s) E s:=by
 refine wpAny_pyIter_tuple hl (rQ hl λo e1 c n e2=>?_)
 have k:=Kp.push s { cls:=.type "tuple_iterator",data:=.fields #[.ref a,.int 0 0] }
 exact IQ (Walks.tuple hh s.heap.objs.size a (dr (cE e1)) vs.toArray) rs.length (λhp r hd=>FO (by simpa using hp) r hd) k (qZ _) ⟨o,k.get e1,_,_,e2⟩ ho (rs.tr (Tr.keeps k.fn))
  (λi h st=>iw st.1 λo e c dd=>⟨o,e,⟨_,c,by decide +kernel⟩,_,dd⟩) ⟨⟨_,bK _ rfl,rfl,rfl⟩,⟨o,k.get e1,c,n,e2⟩⟩
theorem Bn {tg:Expr}{O:Addr→Prop}{d:DV}{v:Value}{ds:List DV}(hh:A.handled=none) (r:Rep s.heap O v d) (hd:tG (.af d)=some ds) :
  wpAny (model prog w) A (pyIter v) (dQ prog w A tg ds O s) E s:=by
 cases d<;>first
  | exact bR hd
  | exact Rep.listE (Q:=λv=>wpAny (model prog w) A (pyIter v) (dQ prog w A tg ds O s) E s) r λa vs hl ho rs=>XW hh hl ho (ai hd▸rs)
  | exact Rep.iy (Q:=λv=>wpAny (model prog w) A (pyIter v) (dQ prog w A tg ds O s) E s) r λa vs hl ho rs=>Wu hh hl ho (ai hd▸rs)
end
end
section
variable {prog:Program}{w:World}
section
variable {A:Around}{E:Value→Shared→Prop}{s:Shared}
theorem VE {m n:Int}{i:Nat}{d:DV}(h:(ke m n)[i]?=some d):d=.int (m+i):=by
 unfold ke at h
 rw[aU] at h
 simp only[iE] at h
 refine aT h λj h1 h2=>?_;clear h
 refine gF (b7.mp h1) λh3 h4=>?_
 simp at h4;subst h4;exact h2.symm
theorem VF (m n:Int):(ke m n).length=(n-m).toNat:=by simp[ke]
theorem Qk {tg:Expr}{O:Addr→Prop}{r:Addr}{m n:Int}{t u x:Tok}(hh:A.handled=none) (hr:IsRange s.heap r m n 1 t u x) (hm:-(bh:Int)≤m∧m≤bh) (hn:-(bh:Int)≤n∧n≤bh) :
  wpAny (model prog w) A (pyIter (.ref r)) (dQ prog w A tg (ke m n) O s) E s:=by
 have hs:HH m n 1=true:=small_one (by exact Nv _ hm) (by exact Nu _ hm) (by exact Nv _ hn) (by exact Nu _ hn)
 refine wpAny_pyIter_range hr hs ?_
 have W:=Walks.range (prog:=prog) (w:=w) hh s.heap.objs.size m 1 (ke m n).length
 have k:=Kp.push s { cls:=.type "range_iterator",data:=.fields #[rawInt m,rawInt (kY m n 1),rawInt 1] }
 have e:kY m n 1=((ke m n).length:Int):=by rw[rangeSize_one,VF];split<;>lia
 refine⟨k,_,_,_,rfl,λb hb=>?_,λb hb=>.inl hb,λOO mo=>⟨_,Src.ofWalks W (λZ=>True) (λi h st=>?_) (λZ Z Z Z=>trivial) (λi h v d Z hp Z hd=>?_),⟨?_,trivial⟩⟩⟩
 ·rw[aK] at hb;subst hb;exact qZ _
 ·exact⟨_,st,⟨_,rfl,by decide +kernel⟩,_,rfl⟩
 ·exact hp.elim λt' e=>by rw[e,VE hd,ML];exact gJ.ju (.int _ _)
 ·rw[e]
  simpa using bK s.heap (o:={ cls:=.type "range_iterator",data:=.fields #[rawInt m,rawInt ((ke m n).length:Int),rawInt 1] }) rfl
theorem YT {l:List DV}{k i:Nat}{d:DV}(h:(eh k l)[i]?=some d):∃ x,l[i]?=some x∧d=.tup [.int ((k+i:Nat):Int),x]:=by
 induction l generalizing k i with
 | nil=>simp[VM] at h
 | cons a l ih=>
  cases i with
  | zero=>simp[Gf] at h;subst h;exact⟨a,rfl,by simp⟩
  | succ i=>
   simp only[Gf,eY] at h
   refine aT (ih h) λx h1 h2=>?_
   exact⟨x,by simpa using h1,by rw[h2];congr 4;exact rl 0x3d8c48501431016242802 rfl _ _⟩
theorem qX (k:Nat) (l:List DV):(eh k l).length=l.length:=by
 induction l generalizing k with
 | nil=>rfl
 | cons a l ih=>simp[Gf,ih]
section
variable {e it a:Addr}{vs:List Value}{l:List DV}{OO:Addr→Prop}
noncomputable def y8 (e it a:Addr) (vs:List Value) (i:Nat) (h:Heap):Prop:=(∃ old,IsEnum h e it i old)∧h.IsListIter it a i∧h.IsList a vs.toArray
theorem y8.fld {i:Nat}{h:Heap}(x:y8 e it a vs i h):∀ b∈[e,it],wY h b:=λb hb=>
 u6 (P:=wY h) hb (x.1.elim λZ q=>⟨_,q,_,rfl⟩) (iw x.2.1 λo h2 Z h3=>⟨o,h2,_,h3⟩)
theorem YU {h:Heap}{i:Nat}{d:DV}{T:Addr}{fR:Array Value}(hd:(eh 0 l)[i]?=some d) (hp:∃ t x,vs.toArray[i]?=some x∧fR=#[.int i t,x]) (r:bC h OO vs l) (ht:h.IsTuple T fR){yH:List Expr}{kk:Nat}{pp:Pos}:gJ (.Tuple yH kk pp) h OO (.ref T) d:=
 aT (YT hd) λx hx e=>mZ hp λt y hy hv=>(λp q e'=>by
  have e':=DV.tup.inj (e.symm.trans e')
  have r:=FO (by simpa using hy) r hx
  have e1:=(dI e').1
  have e2:=(dI (dI e').2).1
  exact⟨T,_,y,rfl,hv▸ht,e1▸(by simpa using Rep.int (i:Int) t),e2▸r⟩:∀ p q,d=.tup [p,q]→∃ T' x y,Value.ref T=.ref T'∧h.IsTuple T' #[x,y]∧Rep h OO x p∧Rep h OO y q)
theorem XU {tg:Expr}{O:Addr→Prop}(hh:A.handled=none) (he:IsEnum s.heap e it 0 .none) (nK:s.heap.IsListIter it a 0) (hl:s.heap.IsList a vs.toArray)
  (hei:e≠it) (hae:a≠e) (LY:a≠it) (LC:¬ O a) (rs:bC s.heap O vs l) (htg:jv tg=true){s₀:Shared}(k₀:Kp s₀ s) (h1:s₀.heap.get? e=none) (h2:s₀.heap.get? it=none) :
  wpAny (model prog w) A (pyIter (.ref e)) (dQ prog w A tg (eh 0 l) O s₀) E s:=by
 refine wpAny_pyIter_enum he ((ZT htg).elim λyH q=>q.elim λkk q=>q.elim λpp et=>?_)
 subst et
 have W:=WalksT.enumerate (prog:=prog) (w:=w) hh e it a hei hae LY vs.toArray
 have en:vs.toArray.size=(eh 0 l).length:=rs.length.trans (qX 0 l).symm
 rw[en] at W
 refine⟨k₀,e,[e,it,a],[e,it],rfl,λb hb=>u6 (P:=λb=>s₀.heap.get? b=none) hb h1 h2,
  λb hb=>K8 (P:=λb=>b∈[e,it]∨∃ o,s.heap.get? b=some o∧fW o∧¬ O b) hb (.inl (.head _)) (.inl (.tail _ (.head _))) (.inr (rQ hl λo e1 Z n e2=>⟨o,e1,⟨_,_,e2⟩,LC⟩)),
  λOO mo=>⟨λi h=>y8 e it a vs i h∧bC h OO vs l,⟨W.sub,λi h st b hb=>(st.1.fld b hb).not,λi h h' st k=>⟨W.frame i h h' st.1 λb hb o e=>k b o e (.inl hb),st.2.tr (FQ λb o e hs hO=>k b o e (.inr ⟨hs,hO⟩))⟩,
  λi d s hd st=>W.item i s _ _ (b7.mp hd).1 st.1 λT fR h' tk hp hT ht hm k=>⟨.ref T,rfl,?_⟩,λs st=>W.done s _ _ st.1 λh' tk k=>⟨rfl,⟨⟨h',tk,rfl⟩,λ{b o} hb e=>k b o hb e⟩⟩,λi s Q E st h=>W.self i s Q E st.1 h⟩,⟨⟨_,he⟩,nK,hl⟩,rs.tr (mo.tr (Kp.rf s))⟩⟩
 have r':=st.2.tr (FQ λb o e hs Z=>Jd st.1.fld k e hs)
 refine W.go yH kk pp i T { s with heap:=h',toks:=tk } _ _ hm λh'' nI k'=>?_
 have fl:∀ b∈[e,it],wY h' b:=λb hb=>u6 (P:=wY h') hb (hm.1.elim λZ q=>⟨_,q,_,rfl⟩) (iw hm.2.1 λo h2 Z h3=>⟨o,h2,_,h3⟩)
 have Rd:=r'.tr (FQ λb o e hs Z=>Jd fl k' e hs)
 exact⟨⟨⟨h'',tk,rfl⟩,λ{b o} hb e=>k' b o hb (k b o hb e)⟩,⟨nI,Rd⟩,YU hd hp Rd (aT ht λo ho hc=>⟨o,k' T o (W.apart i T _ hm) ho,hc⟩)⟩
end
theorem Wt {tg:Expr}{O:Addr→Prop}{I a:Addr}{vs:List Value}{l:List DV}(hh:A.handled=none) (nK:s.heap.IsRevIter I a ((vs.length:Int)-1)) (hl:s.heap.IsList a vs.toArray) (LY:a≠I) (LC:¬ O a)
  (rs:bC s.heap O vs l){s₀:Shared}(k₀:Kp s₀ s) (h1:s₀.heap.get? I=none) :
  wpAny (model prog w) A (pyIter (.ref I)) (dQ prog w A tg l.reverse O s₀) E s:=by
 refine wpAny_pyIter_revIter nK ?_
 have dx:=rs.length
 refine IQ (Walks.listRev hh I a LY vs.toArray) (dx.trans dD.symm) (λ{i v d OO h} hp r hd=>?_) k₀ h1 (rQ hl λo e1 Z n e2=>⟨o,e1,⟨_,_,e2⟩⟩) LC rs (λi h st=>iw st.2.1 λo e c dd=>⟨o,e,⟨_,c,by decide +kernel⟩,_,dd⟩)
  ⟨fh _,by simpa using nK,hl⟩
 have hi:i<l.reverse.length:=(b7.mp hd).1
 rw[dD] at hi
 have hp:vs[l.length-1-i]?=some v:=by simpa [dx] using hp
 refine FO ?_ r.reverse hd
 rw[List.getElem?_reverse (by exact rl 0xe40901721017a10203 rfl _ _ _ dx hi),dx,hp]
end
end
section
variable {prog:Program}{w:World}
structure oK (env:Env) (sc:Scope) (W:List Addr) (h:Heap):Prop where
 ns:∃ m,h.Ns env.locals m
 loc:env.locals∈W
 own:∀ x,sc.names.lookup x=some .cell→∃ c v,env.cells.lookup x=some c∧h.IsCell c v∧c∈W
 data:∀ a∈W,∃ o,h.get? a=some o∧¬ fW o
theorem Jh {h:Heap}{a c:Addr}{m:Str→Option Value}{v:Option Value}(x:h.Ns a m) (y:h.IsCell c v):a≠c:=by
 rintro rfl
 refine zV x λo es ep ho hd Z=>?_;clear x
 refine aT y λo' mw jH=>?_;clear y
 rw[ho] at mw;cases mw
 rw[hd] at jH;cases jH
theorem oK.kp {env:Env}{sc:Scope}{W:List Addr}{h h':Heap}(F:oK env sc W h) (k:∀ a∈W,∀ o,h.get? a=some o→h'.get? a=some o):oK env sc W h':=by
 refine⟨?_,F.loc,λx hx=>?_,λa ha=>?_⟩
 ·refine Vp F.ns λm o es ep ho r=>?_
  exact⟨m,o,es,ep,k _ F.loc o ho,r⟩
 ·obtain⟨c,v,h1,⟨o,ho,hd⟩,h3⟩:=F.own x hx
  exact⟨c,v,h1,⟨o,k _ h3 o ho,hd⟩,h3⟩
 ·refine aT (F.data a ha) λo ho hs=>?_
  exact⟨o,k a ha o ho,hs⟩
section
variable {A:Around}{E:Value→Shared→Prop}{s:Shared}{env:Env}{sc:Scope}{W:List Addr}
theorem zX {o:Obj}{es:Array DictEntry}{n:Nat}(h:o.data=.dict es n):¬ fW o:=by
 rintro⟨_,_,q⟩;rw[h] at q;cases q
theorem Gy {o:Obj}{v:Option Value}(h:o.data=.cell v):¬ fW o:=by
 rintro⟨_,_,q⟩;rw[h] at q;cases q
theorem Gz {x:Str}{v:Value}(e:nR env sc) (F:oK env sc W s.heap) (hx:sc.names.lookup x=some .local∨sc.names.lookup x=some .cell) :
  wpAny (model prog w) A (storeName env x v) (λZ s'=>iN W s s'∧oK env sc W s'.heap∧bV env s'.heap x v∧∀ y u,y≠x→bV env s.heap y u→bV env s'.heap y u) E s:=by
 refine gF F.ns λm hn=>?_
 rcases hx with hx | hx
 ·have hl:=e.ll x hx
  refine wpAny_storeName_local hl hn (λh' qp hs=>?_) (by rw[e.kind];rfl)
  refine⟨⟨⟨h',_,rfl⟩,λ{b o} hb q=>(hs.2 b λq'=>hb (q'▸F.loc)).trans q⟩,⟨⟨_,qp⟩,F.loc,λy hy=>?_,λa ha=>?_⟩,.inl ⟨hl,_,qp,by simp⟩,λy u hy V=>?_⟩
  ·refine nW (F.own y hy) λc u h1 h2 h3=>?_
   exact⟨c,u,h1,h2.sameBut hs (Ne.symm (Jh hn h2)),h3⟩
  ·by_cases q:a=env.locals
   ·subst q
    refine zV qp λo es ep ho hd Z=>?_;clear qp
    exact⟨o,ho,zX hd⟩
   ·refine aT (F.data a ha) λo ho Dl=>?_
    exact⟨o,(hs.2 a q).trans ho,Dl⟩
  ·rcases V with ⟨a,m',b,c⟩ | ⟨a,c,b,d⟩
   ·refine .inl ⟨a,_,qp,?_⟩
    have:m'=m:=by
     funext z
     refine nU b λo es ep ho hd Z hm=>?_;clear b
     refine nU hn λo' L9 ep' mw jH Z yr=>?_;clear hn
     rw[ho] at mw;cases mw
     rw[hd] at jH;cases jH
     rw[←hm z,←yr z]
    subst this
    simp[hy,c]
   ·exact .inr ⟨a,c,b,d.sameBut hs (Ne.symm (Jh hn d))⟩
 ·have hl:=e.lc x hx
  refine nW (F.own x hx) λc u h1 h2 h3=>?_
  refine wpAny_storeName_cell e.kind hl h1 h2 λh' um hs=>?_
  have Ac:=Jh hn h2
  refine⟨⟨⟨h',_,rfl⟩,λ{b o} hb q=>(hs.2 b λq'=>hb (q'▸h3)).trans q⟩,⟨⟨m,hn.sameBut hs Ac⟩,F.loc,λy hy=>?_,λa ha=>?_⟩,.inr ⟨.inl hl,c,h1,um⟩,λy u hy V=>?_⟩
  ·refine nW (F.own y hy) λc' u' q1 q2 q3=>?_
   by_cases q:c'=c
   ·subst q;exact⟨c',_,q1,um,q3⟩
   ·exact⟨c',u',q1,q2.sameBut hs q,q3⟩
  ·by_cases q:a=c
   ·subst q
    refine aT um λo ho hd=>?_;clear um
    exact⟨o,ho,Gy hd⟩
   ·refine aT (F.data a ha) λo ho Dl=>?_
    exact⟨o,(hs.2 a q).trans ho,Dl⟩
  ·rcases V with ⟨a,m',b,c'⟩ | ⟨a,c',b,d⟩
   ·exact .inl ⟨a,m',b.sameBut hs Ac,c'⟩
   ·exact .inr ⟨a,c',b,d.sameBut hs λq=>hy (e.inj y x c (q▸b) h1)⟩
end
end
section
variable {prog:Program}{w:World}
noncomputable def gm (ρ:au):Prop:=∀ x t,ρ.lookup x=some t→∃ d,t=.af d
theorem dS.GY {H₀ h h':Heap}{O O':Addr→Prop}{env:Env}{ρ:au}(al:gm ρ) (X:dS prog w H₀ O env ρ h) (H:Hid H₀ O' h') (T:Tr h O h' O')
  (V:∀ x t v,ρ.lookup x=some t→bV env h x v→bV env h' x v):dS prog w H₀ O' env ρ h':=
 ⟨H,λx t e=>by
  refine zU (X.vars x t e) λh1 v as h2 h3 h4=>?_
  obtain⟨d,rfl⟩:=al x t e
  exact⟨h1,v,[],V x _ v e h2,.af (h3.cG.tr T),λZ q=>nomatch q⟩⟩
theorem Hid.sub {H₀ h:Heap}{O O':Addr→Prop}(X:Hid H₀ O h) (k:∀ a,O' a→O a):Hid H₀ O' h:=⟨X.up,λa ha=>X.new a (k a ha),λa ha=>X.alive a (k a ha)⟩
theorem lookup_cons_self {x:Str}{t:OT}{ρ:au}:aj x ((x,t)::ρ)=some t:=by simp[]
theorem oU {x y:Str}{t:OT}{ρ:au}(h:x≠y):aj x ((y,t)::ρ)=aj x ρ:=by
 have:(x==y)=false:=beq_eq_false_iff_ne.mpr h
 simp[aQ,this]
theorem dS.cons {H₀ h:Heap}{O:Addr→Prop}{env:Env}{ρ:au}{x:Str}{d:DV}{v:Value}(X:dS prog w H₀ O env ρ h) (hd:dunder x=false) (V:bV env h x v) (r:Rep h O v d) :
  dS prog w H₀ O env ((x,.af d)::ρ) h:=
 ⟨X.dP,λy t e=>by
  by_cases q:y=x
  ·subst q
   rw[lookup_cons_self] at e;cases e
   exact⟨hd,v,[],V,.af r,λZ q=>nomatch q⟩
  ·rw[oU q] at e
   exact X.vars y t e⟩
theorem gm.cons {ρ:au}{x:Str}{d:DV}(al:gm ρ):gm ((x,.af d)::ρ):=λy t e=>by
 by_cases q:y=x
 ·subst q;rw[lookup_cons_self] at e;cases e;exact⟨d,rfl⟩
 ·rw[oU q] at e;exact al y t e
theorem Tr.nj {W:List Addr}{s s':Shared}{O:Addr→Prop}(k:iN W s s') (hW:∀ a∈W,∀ o,s.heap.get? a=some o→¬ fW o):Tr s.heap O s'.heap O:=
 λa o hO e hs=>⟨k.get (λq=>hW a q o e hs) e,hO⟩
theorem oK.ix {env:Env}{sc:Scope}{W:List Addr}{h:Heap}(F:oK env sc W h):∀ a∈W,∀ o,h.get? a=some o→¬ fW o:=λa ha o e=>by
 refine aT (F.data a ha) λo' e' hs=>?_
 rw[e] at e';cases e';exact hs
theorem Hid.nj {H₀:Heap}{O:Addr→Prop}{s s':Shared}{W:List Addr}(X:Hid H₀ O s.heap) (k:iN W s s') (hW:∀ a∈W,H₀.get? a=none∧¬ O a):Hid H₀ O s'.heap:=
 ⟨λb o e=>k.get (λq=>by rw[(hW b q).1] at e;cases e) (X.up b o e),X.new,λa ha=>let ⟨o,e⟩:=X.alive a ha;⟨o,k.get (λq=>(hW a q).2 ha) e⟩⟩
section
variable {A:Around}{E:Value→Shared→Prop}{s:Shared}{env:Env}{sc:Scope}{W:List Addr}{H₀:Heap}{O:Addr→Prop}{ρ ρ':au}
theorem UK {tg:Expr}{d:DV}{v:Value}(hh:A.handled=none) (e:nR env sc) (F:oK env sc W s.heap) (hW:∀ a∈W,H₀.get? a=none∧¬ O a) (wf:BV sc tg=true) (al:gm ρ)
  (X:dS prog w H₀ O env ρ s.heap) (I:gJ tg s.heap O v d) (h:cW tg d ρ=some ρ') :
  wpAny (model prog w) A (assign tg env v) (λZ s'=>iN W s s'∧oK env sc W s'.heap∧dS prog w H₀ O env ρ' s'.heap∧gm ρ'∧dS prog w H₀ O env ρ s'.heap) E s:=by
 refine P2 h (λx p e1 hn e2=>?_) λx y p1 p2 kk p3 p q e1 e3 hn1 hn2 e2=>?_
 ·subst e1;subst e2
  have wf:=a6 (wf:(!dunder x&&(sc.names.lookup x==some .local||sc.names.lookup x==some .cell))=true)
  have r:Rep s.heap O v d:=I
  refine wpAny_assign_Name (wm (Gz e F ((cU.mp wf.2).imp eq_of_beq eq_of_beq)) (λZ s' q=>?_))
  refine jR q λk F' V V'=>?_;clear q
  have T:Tr s.heap O s'.heap O:=Tr.nj k F.ix
  have H':=X.dP.nj k hW
  have X':dS prog w H₀ O env ρ s'.heap:=X.GY al H' T λy t u hy=>V' y u (λq=>by subst q;rw[hn] at hy;exact bR hy)
  exact⟨k,F',X'.cons (sE wf.1) V (r.tr T),al.cons,X'⟩
 ·subst e1;subst e2;subst e3
  have wf:(!dunder x&&!dunder y&&sc.names.lookup x==some .local&&sc.names.lookup y==some .local&&x != y)=true:=wf
  have wf:=a6 wf
  have wg:=gI wf.1
  have wh:=a6 wg.1.1
  refine nU ((I:∀ p' q',DV.tup [p,q]=.tup [p',q']→∃ T x y,v=.ref T∧s.heap.IsTuple T #[x,y]∧Rep s.heap O x p'∧Rep s.heap O y q') p q rfl) λT a b ev ht ra rb=>ev▸?_
  refine wpAny_assign_Tuple hh ht rfl rfl λh₁ DE=>?_
  have k₁:Kp s { s with heap:=h₁ }:=⟨⟨h₁,s.toks,rfl⟩,λ{b o} e=>DE b o (dr (cE e)) e⟩
  have F₁:oK env sc W h₁:=F.kp λa Z o e=>k₁.get e
  refine assignInOrder_cons (wpAny_assign_Name (wm (Gz (s:={ s with heap:=h₁ }) e F₁ (.inl (eq_of_beq wg.1.2))) (λZ s₂ z=>?_)))
  refine jR z λk₂ F₂ V₂ EP=>?_;clear z
  refine assignInOrder_cons (wpAny_assign_Name (wm (Gz (s:=s₂) e F₂ (.inl (eq_of_beq wg.2))) (λZ s₃ z=>?_)))
  refine jR z λk₃ F₃ V₃ wJ=>?_;clear z
  refine assignInOrder_nil ?_
  have k:iN W s s₃:=k₁.b.tr (k₂.tr k₃)
  have T₁:Tr s.heap O s₃.heap O:=Tr.nj k F.ix
  have H₃:=X.dP.nj k hW
  have X₃:dS prog w H₀ O env ρ s₃.heap:=X.GY al H₃ T₁ λz t u hz V=>wJ z u (λq=>by subst q;rw[hn2] at hz;exact bR hz) (EP z u (λq=>by subst q;rw[hn1] at hz;exact bR hz) (V.keeps k₁.fn))
  exact⟨k,F₃,(X₃.cons (sE wh.1) (wJ x a (bne_iff_ne.mp wf.2) V₂) (ra.tr T₁)).cons (sE wh.2) V₃ (rb.tr T₁),al.cons.cons,X₃⟩
end
end
section
variable {prog:Program}{w:World}
theorem aM.append {h:Heap}{O:Addr→Prop}{vs ws:List Value}{ts us:List OT}{as bs:List Addr}(x:aM prog w h O vs ts as) (y:aM prog w h O ws us bs):aM prog w h O (vs++ws) (ts++us) (as++bs):=
 x.ind (Q:=λvs ts as=>aM prog w h O (vs++ws) (ts++us) (as++bs)) y λr Z q=>(dq ..).symm▸.cons r q
theorem fH {α:Type}{o:Option α}{a:α}{P:Prop}(h:o=none) (h':o=some a):P:=bR (h.symm.trans h')
section
variable (prog w)
variable (H₀:Heap) (n:Nat) (C:ey)
noncomputable def oZ (e:Expr):Prop:=∀ {env sc ρ ds A O s E tg},Cx prog n A env sc→dY sc e=true→dS prog w H₀ O env ρ s.heap→eJ C e ρ=some ds→(∀ f p a q,e=.Call (.Name f p) [a] [] q→f=ae "enumerate"→jv tg=true) →
 wpAny (model prog w) A (eval e env) (λx s₁=>wpAny (model prog w) A (pyIter x) (dQ prog w A tg ds O s) E s₁) E s
end
noncomputable def iQ (own:Bool):DV→OT
 | .list l=>if own then .own (l.map .af) else .af (.list l)
 | d=>.af d
noncomputable def Oa (O:Addr→Prop) (acc:Addr) (as:List Addr):Addr→Prop:=λb=>O b∨b=acc∨b∈as
structure CI (prog:Program) (w:World) (H₀:Heap) (O:Addr→Prop) (bH:Env) (sc:Scope) (W:List Addr) (acc:Addr) (s₀:Shared) (ρ:au) (ts:List OT) (as:List Addr) (s:Shared):Prop where
 iI:dS prog w H₀ (Oa O acc as) bH ρ s.heap
 af:gm ρ
 kp:Kp s₀ s
 ie:oK bH sc W s.heap
 mD:∃ ys,s.heap.PlainList acc ys.toArray∧aM prog w s.heap (Oa O acc as) ys ts as
 fresh:∀ a∈as,s₀.heap.get? a=none∧a∉W∧a≠acc
 nodup:as.Nodup
structure CC (prog:Program) (n:Nat) (A:Around) (H₀:Heap) (O:Addr→Prop) (bH:Env) (sc:Scope) (W:List Addr) (acc:Addr) (s₀:Shared):Prop where
 cx:Cx prog n A bH sc
 oC:acc∉W
 fresh:∀ a,a=acc∨a∈W→s₀.heap.get? a=none
 dP:Hid H₀ O s₀.heap
section
variable {A:Around}{E:Value→Shared→Prop}{s s₀:Shared}{bH:Env}{sc:Scope}{W:List Addr}{H₀:Heap}{O:Addr→Prop}{ρ:au}{acc:Addr}{ts:List OT}{as:List Addr}{n:Nat}{C:ey}
theorem CC.hW (c:CC prog n A H₀ O bH sc W acc s₀) (i:CI prog w H₀ O bH sc W acc s₀ ρ ts as s):∀ a∈W,H₀.get? a=none∧¬ Oa O acc as a:=λa ha=>by
 have h1:=c.fresh a (.inr ha)
 exact⟨kC (H₀.get? a) id λo q=>fH h1 (c.dP.up a o q),λh=>h.elim (λh=>(c.dP.alive a h).elim λo e=>fH h1 e) λh=>h.elim (λh=>c.oC (h▸ha)) λh=>(i.fresh a h).2.1 ha⟩
theorem CI.Lj (i:CI prog w H₀ O bH sc W acc s₀ ρ ts as s){s':Shared}(k:Kp s s'):CI prog w H₀ O bH sc W acc s₀ ρ ts as s':=by
 refine aT i.mD λys h1 h2=>?_
 exact⟨i.iI.kp k,i.af,i.kp.tr k,i.ie.kp λa Z o e=>k.get e,⟨ys,h1.at λo e=>k.get e,h2.tr (Tr.keeps k.fn) λa Z o e=>k.get e⟩,i.fresh,i.nodup⟩
theorem CI.kw (c:CC prog n A H₀ O bH sc W acc s₀) (i:CI prog w H₀ O bH sc W acc s₀ ρ ts as s){s':Shared}{ρ':au}{V:List Addr}(k:iN V s s') (hV:∀ a∈V,a∈W∨(s₀.heap.get? a=none∧a≠acc∧a∉as∧∀ o,s.heap.get? a=some o→¬ fW o)) (F:oK bH sc W s'.heap)
  (X:dS prog w H₀ (Oa O acc as) bH ρ' s'.heap) (al:gm ρ'):CI prog w H₀ O bH sc W acc s₀ ρ' ts as s':=by
 refine aT i.mD λys h1 h2=>?_
 have oY:∀ a∈V,∀ o,s.heap.get? a=some o→¬ fW o:=λa ha o e=>(hV a ha).elim (λq=>i.ie.ix a q o e) λq=>q.2.2.2 o e
 have LZ:acc∉V:=λq=>(hV acc q).elim c.oC λq=>q.2.1 rfl
 have DO:∀ a∈as,a∉V:=λa ha q=>(hV a q).elim (i.fresh a ha).2.1 λq=>q.2.2.1 ha
 refine⟨X,al,⟨?_,λ{b o} e=>?_⟩,F,⟨ys,h1.at λo e=>k.get LZ e,h2.tr (Tr.nj k oY) λa ha o e=>k.get (DO a ha) e⟩,i.fresh,i.nodup⟩
 ·refine iB i.kp.same λh t e=>?_
  refine iB k.same λh' t' e'=>?_
  exact⟨h',t',by rw[e',e]⟩
 ·refine k.get (λq=>?_) (i.kp.get e)
  exact(hV b q).elim (λq=>fH (c.fresh b (.inr q)) e) λq=>fH q.1 e
noncomputable def lJ (bH:Env) (ifs:List Expr) (b:Bool):Sem Bool:=forIn ifs b λc r=>if r=true then do let ok ←isTrue c bH (eval c bH);pure (eF ok) else pure (eF r)
theorem XZ {bH:Env}(l:List Expr):lJ bH l false=pure false:=by
 unfold lJ
 induction l with
 | nil=>rfl
 | cons x l ih=>rw[mE,if_neg kx,pure_bind];exact ih
theorem X0 (c:CC prog n A H₀ O bH sc W acc s₀){ifs:List Expr}{s:Shared}{b:Bool}(hi:∀ e∈ifs,SB prog w H₀ n C e) (wf:jj sc ifs=true) (X:dS prog w H₀ (Oa O acc as) bH ρ s.heap) (h:iV C .And ifs ρ=some b) :
  wpAny (model prog w) A (lJ bH ifs true) (λok s'=>ok=b∧Kp s s') E s:=by
 induction ifs generalizing s with
 | nil=>exact wpAny_pure ⟨ai h,Kp.rf s⟩
 | cons e ifs ih=>
  have wf:=a6 wf
  refine bJ h λq h1 h2=>?_
  unfold lJ
  rw[mE,if_pos rfl]
  refine wpAny_bind (wpAny_bind (wm (hi e (.head _) c.cx wf.1 X h1) λok s₁ p=>wpAny_pure ?_))
  have e:=p.1
  subst e
  cases ok with
  | true=>exact wm (ih (λe he=>hi e (.tail _ he)) wf.2 (X.kp p.2) h2) λZ Z z=>⟨z.1,p.2.tr z.2⟩
  | false=>exact wpAny_of_eq (XZ ifs) ⟨ai h2,p.2⟩
theorem Oa.app {O:Addr→Prop}{acc:Addr}{as bs:List Addr}{a:Addr}(q:Oa O acc (as++bs) a):Oa O acc as a∨a∈bs:=
 q.elim (λq=>.inl (.inl q)) λq=>q.elim (λq=>.inl (.inr (.inl q))) λq=>(aP.mp q).imp (λq=>.inr (.inr q)) id
theorem XC {own:Bool}{d:DV}{v:Value}{s₁:Shared}{fr:Bool}(r:Res s (Oa O acc as) fr d v s₁) (hf:own=true→fr=true) (jX:own=true→∃ l,d=.list l) :
  ∃ bs,bf prog w s₁.heap (Oa O acc (as++bs)) v (iQ own d) bs∧(∀ b∈bs,s.heap.get? b=none)∧bs.Nodup∧(∀ b∈bs,∃ o,s₁.heap.get? b=some o):=by
 cases own with
 | false=>exact⟨[],(by cases d<;>rfl:iQ false d=.af d).symm▸as.append_nil.symm▸.af r.rep,nofun,.nil,nofun⟩
 | true=>
  refine(jX rfl).elim λl e=>Bk (r.fresh (hf rfl) l e) λb vs ev hb Hi hbr=>?_
  subst e ev
  refine⟨[b],.own Hi (aM.kg (hbr.tr λa o hO e Z=>⟨e,λq=>hO (Oa.app q |>.imp id aK.mp)⟩)),λa ha=>pV (P:=λa=>s.heap.get? a=none) ha hb,eW _ b,λa ha=>pV (P:=λa=>∃ o,s₁.heap.get? a=some o) ha (aT Hi.isList λo ho Z=>⟨o,ho⟩)⟩
theorem Vo {own:Bool}{elt:Expr}{d:DV}{t:OT}(c:CC prog n A H₀ O bH sc W acc s₀) (he:SE prog w H₀ n C elt) (wf:dY sc elt=true) (hf:own=true→bo elt=true) (i:CI prog w H₀ O bH sc W acc s₀ ρ ts as s)
  (h1:ev C elt ρ=some t) (h2:t.lf=some d) (jX:own=true→∃ l,d=.list l) (hc:ts.length+1≤bh) :
  wpAny (model prog w) A (do let _ ←call (.builtin "list.append") [.ref acc,←eval elt bH]) (λZ s'=>∃ gw,CI prog w H₀ O bH sc W acc s₀ ρ (ts++[iQ own d]) gw s'∧iN (acc::W) s s'∧∀ a∈gw,a∈as∨s.heap.get? a=none) E s:=by
 cases lh h2
 refine wpAny_bind (wm (he c.cx wf i.iI h1) (λv s₁ p=>?_))
 have i₁:=i.Lj p.keeps
 refine aT i₁.mD λys hl hr=>?_
 have r:=p.af d rfl
 refine vT (XC (prog:=prog) (w:=w) r hf jX) λbs hv yx Hi Hj=>?_
 have wB:∀ b∈bs,b≠acc:=λb hb q=>aT i.mD λZ x Z=>aT x.isList λo ho Z=>fH (yx b hb) (q▸ho)
 have LU:∀ b∈bs,b∉as:=λb hb q=>(i.iI.dP.alive b (.inr (.inr q))).elim λo e=>fH (yx _ hb) e
 have hbW:∀ b∈bs,b∉W:=λb hb q=>aT (i.ie.data b q) λo e Z=>fH (yx _ hb) e
 have TO:Tr s.heap (Oa O acc as) s₁.heap (Oa O acc (as++bs)):=λa o hO e hs=>⟨p.keeps.get e,λq=>q.app.elim hO λq=>fH (yx a q) e⟩
 have H₁:Hid H₀ (Oa O acc (as++bs)) s₁.heap:=⟨i₁.iI.dP.up,λa q=>q.app.elim (i₁.iI.dP.new a) λq=>kC (H₀.get? a) id λo z=>fH (yx a q) (i.iI.dP.up a o z),λa q=>q.app.elim (i₁.iI.dP.alive a) (Hj a)⟩
 refine aT i.mD λsD Dy Dp=>?_
 have wi:aM prog w s₁.heap (Oa O acc (as++bs)) sD ts as:=Dp.tr TO λa Z o e=>p.keeps.get e
 have oh:s₁.heap.PlainList acc sD.toArray:=Dy.at λo e=>p.keeps.get e
 have vj:=wi.length
 refine wpAny_bind (wpAny_list_append_plain oh (λh' lx pH=>wpAny_pure ⟨as++bs,?_⟩) (by rw[bx];exact tZ (by exact Nt _ _ hc vj)))
 have T':Tr s₁.heap (Oa O acc (as++bs)) h' (Oa O acc (as++bs)):=λa o hO e hs=>⟨(pH.2 a λq=>hO (.inr (.inl q))).trans e,hO⟩
 have alv:∃ o,h'.get? acc=some o:=aT lx.isList λo ho Z=>⟨o,ho⟩
 have H':Hid H₀ (Oa O acc (as++bs)) h':=⟨λb o e=>(pH.2 b λq=>fH (H₁.new b (.inr (.inl q))) e).trans (H₁.up b o e),H₁.new,λa q=>(bA (a=acc)).elim (λz=>z▸alv) λz=>(H₁.alive a q).elim λo ho=>⟨o,(pH.2 a z).trans ho⟩⟩
 have CS:∀ {b o},s₁.heap.get? b=some o→¬ fW o→b≠acc:=λ{b o} e hs q=>rQ oh.isList λo' e' Z n' d'=>hs (ai ((q▸e').symm.trans e)▸⟨_,_,d'⟩)
 have DP:∀ x u,bV bH s₁.heap x u→bV bH h' x u:=λx u V=>V.mv (λo e q=>(pH.2 _ (CS e (q.elim λZ q=>q.elim λZ q=>zX q))).trans e) λb o Z e q=>(pH.2 _ (CS e (Gy q))).trans e
 have nj:iN (acc::W) s { s₁ with heap:=h' }:=by
  refine iB p.keeps.same λhh t e=>?_
  exact⟨⟨h',t,by rw[e]⟩,λ{b o} hb e=>(pH.2 b λq=>hb (by rw[q];exact .head _)).trans (p.keeps.get e)⟩
 have tC:∀ a∈as++bs,a∈as∨s.heap.get? a=none:=λa ha=>(aP.mp ha).imp id λq=>yx a q
 refine⟨⟨?_,i.af,⟨?_,λ{b o} e=>?_⟩,?_,⟨sD++[v],by simpa using lx,?_⟩,λa ha=>?_,?_⟩,nj,tC⟩
 ·exact i.iI.GY i.af H' (λa o hO e hs=>⟨(T' a o (TO a o hO e hs).2 (TO a o hO e hs).1 hs).1,(TO a o hO e hs).2⟩) λx t u Z V=>DP x u (V.keeps p.keeps.fn)
 ·refine iB i₁.kp.same λh t e=>?_
  exact⟨h',t,by rw[e]⟩
 ·refine(pH.2 b λq=>?_).trans (i₁.kp.get e)
  exact fH (c.fresh b (.inl q)) e
 ·exact i₁.ie.kp λa ha o e=>(pH.2 a λq=>c.oC (q▸ha)).trans e
 ·have hx:=(wi.tr T' λa ha o e=>(pH.2 a λq=>(i.fresh a ha).2.2 q).trans e)
  have hy:=hv.tr T' λa ha o e=>(pH.2 a λq=>wB a ha q).trans e
  have:=aM.append hx (aM.cons hy .nil)
  simpa using this
 ·exact(aP.mp ha).elim (i.fresh a) λha=>⟨kC (s₀.heap.get? a) id λo z=>fH (yx a ha) (i.kp.get z),hbW a ha,wB a ha⟩
 ·exact cP.mpr ⟨i.nodup,Hi,λa ha b hb q=>LU b hb (q▸ha)⟩
end
end
section
variable {prog:Program}{w:World}
section
variable {H₀:Heap}{mg mb:Str→Option Value}{n:Nat}{C:ey}(G:GW H₀ mg mb) (hC:bk prog w H₀ mg n C)
theorem W' {t:OT}{ds:List DV}(h:tG t=some ds):∃ d,t=.af d∧tG (.af d)=some ds:=by
 cases t with
 | af d=>cases d<;>first | exact bR h | (cases h;exact⟨_,rfl,rfl⟩)
 | own _=>exact bR h
 | fI _=>exact bR h
include G in
theorem Gj {f:Str}{T:String}{es:List Expr}(kq:pT prog w H₀ n C es) (pf p:Pos){env sc ρ ts A O s E}{Q:Value→Shared→Prop}(cx:Cx prog n A env sc) (wf:dY sc (.Call (.Name f pf) es [] p)=true) (st:dS prog w H₀ O env ρ s.heap)
  (h1:jw C es ρ=some ts) (Ac:es≠[]) (hf:f∈oy) (hT:bootBuiltins f=some (.type T))
  (h:∀ vs s₁ as,Kp s s₁→aM prog w s₁.heap O vs ts as→wpAny (model prog w) A (call (.type T) vs) Q E s₁):wpAny (model prog w) A (eval (.Call (.Name f pf) es [] p) env) Q E s:=by
 have wf:=Gq wf
 have hn:=zY h1
 refine Call_ (PL G st.dP.up cx.env wf.1.1 wf.1.2 hf hT (kr (J1 hn p) (F9 hn (λe=>absurd e Ac) (wm (kq cx wf.2 st h1) λvs s₁ q=>pD q λk as x=>h vs s₁ as k x))))
theorem zQ {a:Expr}(ha:SE prog w H₀ n C a):pT prog w H₀ n C [a]:=JD ha O5
theorem Wl {a b:Expr}(ha:SE prog w H₀ n C a) (hb:SE prog w H₀ n C b):pT prog w H₀ n C [a,b]:=JD ha (zQ hb)
theorem Br {a:Expr}{ρ:au}{t:OT}(h:ev C a ρ=some t):jw C [a] ρ=some [t]:=zD h rfl
theorem VZ {a b:Expr}{ρ:au}{t u:OT}(h:ev C a ρ=some t) (h':ev C b ρ=some u):jw C [a,b] ρ=some [t,u]:=zD h (zD h' rfl)
theorem tnI {α:Type}{F:Int→Option α}{t:OT}{b:α}{P:Prop}(h:(match t with | .af (.int n)=>F n | _=>none)=some b) (k:∀ n,t=.af (.int n)→F n=some b→P):P:=by
 cases t with
 | af d=>cases d<;>first | exact bR h | exact k _ rfl h
 | own _=>exact bR h
 | fI _=>exact bR h
theorem Q8 {α:Type}{F:List DV→Option α}{t:OT}{b:α}{P:Prop}(h:(match t with | .af (.list n)=>F n | _=>none)=some b) (k:∀ n,t=.af (.list n)→F n=some b→P):P:=by
 cases t with
 | af d=>cases d<;>first | exact bR h | exact k _ rfl h
 | own _=>exact bR h
 | fI _=>exact bR h
theorem V6 {f:Str}{t:OT}{ds:List DV}{P:Prop}(h:ki C f t=some ds) (k1:f=ae "range"→∀ n,t=.af (.int n)→-(bh:Int)≤n∧n≤bh→ke 0 n=ds→P) (k2:f=ae "enumerate"→∀ l,t=.af (.list l)→eh 0 l=ds→P)
  (k3:f=ae "reversed"→∀ l,t=.af (.list l)→l.reverse=ds→P) (k4:f∈a5→∀ d,bi f [t]=some d→tG (.af d)=some ds→P) (k5:∀ d,t=.af d→∀ r,C f [.af d]=some r→tG (.af r.1)=some ds→P):P:=
 pG h (λe h=>tnI h λn e' h=>gg h λhc h=>k1 e n e' hc (ai h)) λh=>pG h (λe h=>Q8 h λn e' h=>gg h λhc h=>k2 e n e' (ai h)) λh=>
  pG h (λe h=>Q8 h λn e' h=>gg h λhc h=>k3 e n e' (ai h)) λh=>pG h (λe h=>bJ h λd h1 h2=>k4 e d h1 h2) λh=>bJ h λd h1 h=>bJ h λr h2 h3=>k5 d (lh h1) r h2 h3
section
variable {env:Env}{sc:Scope}{ρ:au}{ds:List DV}{A:Around}{O:Addr→Prop}{s:Shared}{E:Value→Shared→Prop}{tg:Expr}
variable (prog w A tg ds O s E) in
noncomputable def MJ (x:Value) (s₁:Shared):Prop:=wpAny (model prog w) A (pyIter x) (dQ prog w A tg ds O s) E s₁
include G
theorem Zp {a:Expr}(ha:SE prog w H₀ n C a) (pf p:Pos){m:Int}(cx:Cx prog n A env sc) (wf:dY sc (.Call (.Name (ae "range") pf) [a] [] p)=true) (st:dS prog w H₀ O env ρ s.heap) (h1:ev C a ρ=some (.af (.int m))) (hb:-(bh:Int)≤m∧m≤bh) :
  wpAny (model prog w) A (eval (.Call (.Name (ae "range") pf) [a] [] p) env) (MJ prog w (ke 0 m) A O s E tg) E s:=
 Gj (T:="range") G (zQ ha) pf p cx wf st (Br h1) (λh=>nomatch h) (by decide +kernel) (by decide +kernel) λvs s₁ as k x=>x.mj (P:=λvs=>wpAny (model prog w) A (call _ vs) _ E s₁) λv as y=>y.cG.eU (Q:=λv=>wpAny (model prog w) A (call _ [v]) _ E s₁) λt=>
  call_range_1 (wm (Qk (tg:=tg) (O:=O) cx.room.handled (y6 ..) (by exact rl 0x3f158000000045c57c580000000400 rfl) hb) λit s₂ q=>q.pre (k.tr ⟨⟨_,_,rfl⟩,λe=>cY _ e⟩))
theorem XR {a:Expr}(ha:SE prog w H₀ n C a) (pf p:Pos){l:List DV}(cx:Cx prog n A env sc) (wf:dY sc (.Call (.Name (ae "enumerate") pf) [a] [] p)=true) (st:dS prog w H₀ O env ρ s.heap) (h1:ev C a ρ=some (.af (.list l))) (uh:jv tg=true) :
  wpAny (model prog w) A (eval (.Call (.Name (ae "enumerate") pf) [a] [] p) env) (MJ prog w (eh 0 l) A O s E tg) E s:=
 Gj (T:="enumerate") G (zQ ha) pf p cx wf st (Br h1) (λh=>nomatch h) (by decide +kernel) (by decide +kernel) λvs s₁ as k x=>x.mj (P:=λvs=>wpAny (model prog w) A (call _ vs) _ E s₁) λv as y=>y.cG.listE (Q:=λv=>wpAny (model prog w) A (call _ [v]) _ E s₁) λa' ws hl ho rs=>
  aT hl λo e q=>have kl:=cE e
  call_enumerate_list hl λh' he nK qn hk=>wm (XU (tg:=tg) (s:={ s₁ with heap:=h' }) (O:=O) cx.room.handled he nK ⟨o,hk _ _ e,q⟩ (Nat.succ_ne_self _) (dr (ig kl)) (dr kl) ho (rs.tr (Tr.keeps hk)) uh (Kp.of (t:=s₁.toks) hk)
   (kC (s₁.heap.get? (s₁.heap.objs.size+1)) id λo z=>absurd (ig (cE z)) (o6 _)) (qZ _)) λit s₂ q=>q.pre k
theorem Wo {a:Expr}(ha:SE prog w H₀ n C a) (pf p:Pos){l:List DV}(cx:Cx prog n A env sc) (wf:dY sc (.Call (.Name (ae "reversed") pf) [a] [] p)=true) (st:dS prog w H₀ O env ρ s.heap) (h1:ev C a ρ=some (.af (.list l))) :
  wpAny (model prog w) A (eval (.Call (.Name (ae "reversed") pf) [a] [] p) env) (MJ prog w l.reverse A O s E tg) E s:=
 Gj (T:="reversed") G (zQ ha) pf p cx wf st (Br h1) (λh=>nomatch h) (by decide +kernel) (by decide +kernel) λvs s₁ as k x=>x.mj (P:=λvs=>wpAny (model prog w) A (call _ vs) _ E s₁) λv as y=>y.cG.listE (Q:=λv=>wpAny (model prog w) A (call _ [v]) _ E s₁) λa' ws hl ho rs=>
  aT hl λo e Z=>have k':=Kp.push s₁ (revObj a' (((ws.toArray).size:Int)-1))
  call_reversed_list hl (wm (Wt (tg:=tg) (s:={ s₁ with heap:=s₁.heap.push (revObj a' (((ws.toArray).size:Int)-1)) }) (O:=O) cx.room.handled ⟨_,bK _ rfl,rfl,by simp[revObj]⟩ (hl.push _) (dr (cE e)) ho (rs.tr (Tr.keeps k'.fn)) k' (qZ _)) λit s₂ q=>q.pre k)
end
include G hC in
theorem Zn {f:Str}{a:Expr}(ha:SE prog w H₀ n C a) (pf p:Pos):oZ prog w H₀ n C (.Call (.Name f pf) [a] [] p):=λ{env sc ρ ds A O s E tg} cx wf st h uh=>
 bJ h λt h1 h2=>V6 h2 (λe n et hb ed=>by subst e et ed;exact Zp G ha pf p cx wf st h1 hb) (λe n et ed=>by subst e et ed;exact XR G ha pf p cx wf st h1 (uh _ _ _ _ rfl rfl)) (λe n et ed=>by subst e et ed;exact Wo G ha pf p cx wf st h1)
  (λhf d h3 h4=>wm (OB G (zQ ha) pf p cx wf st (Br h1) hf h3) λx s₁ q=>wm (Bn cx.room.handled q.rep h4) λit s₂ z=>z.pre q.keeps)
  λd et r h4 h5=>wm (P4 (ds:=[d]) G hC (zQ ha) pf p cx wf st (Br (et▸h1)) h4) λx s₁ q=>wm (Bn cx.room.handled q.rep h5) λit s₂ z=>z.pre q.keeps
theorem Ue {t u:OT}{ds:List DV}{P:Prop}(h:qm t u=some ds) (k:∀ m n,t=.af (.int m)→u=.af (.int n)→(-(bh:Int)≤m∧m≤bh)∧-(bh:Int)≤n∧n≤bh→ke m n=ds→P):P:=
 bJ h λm Z h=>bJ h λn Z h=>gg h λhc h=>k m.1 n.1 m.2 n.2 hc (ai h)
include G in
theorem Zo {f:Str}{a b:Expr}(ha:SE prog w H₀ n C a) (hb:SE prog w H₀ n C b) (pf p:Pos):oZ prog w H₀ n C (.Call (.Name f pf) [a,b] [] p):=λ{env sc ρ ds A O s E tg} cx wf st h uh=>by
 refine gg h λhf h=>bJ h λt h1=>bv λu h2 h3=>Ue h3 λm k' e1 e2 hc e3=>?_
 subst hf e1 e2 e3
 exact Gj (T:="range") G (Wl ha hb) pf p cx wf st (VZ h1 h2) (λh=>nomatch h) (by decide +kernel) (by decide +kernel) λvs s₁ as k x=>x.uL (P:=λvs=>wpAny (model prog w) A (call _ vs) _ E s₁) λv v' Z Z y1 y2=>
  y1.cG.eU (Q:=λv=>wpAny (model prog w) A (call _ [v,_]) _ E s₁) λt=>y2.cG.eU (Q:=λv=>wpAny (model prog w) A (call _ [_,v]) _ E s₁) λu=>
   call_range_2 (wm (Qk (tg:=tg) (O:=O) cx.room.handled (y6 ..) hc.1 hc.2) λit s₂ q=>q.pre (k.tr ⟨⟨_,_,rfl⟩,λe=>cY _ e⟩))
theorem XT (x:Str) (p:Pos):oZ prog w H₀ n C (.Name x p):=λ{env sc ρ ds A O s E tg} cx wf st h uh=>by
 exact bJ h λt h1 h2=>aT (W' h2) λd e h3=>zU (st.vars x _ h1) λhd v as hv r Z=>pj cx.env.kind hd hv (Bn cx.room.handled (e▸r).cG h3)
theorem Zr {es:List Expr}(kq:pT prog w H₀ n C es) (k':Nat) (p:Pos):oZ prog w H₀ n C (.Tuple es k' p):=λ{env sc ρ ds A O s E tg} cx wf st h uh=>by
 revert h
 refine bv λts h1=>bv λyL h2 h3=>?_
 refine gg h3 λhl h3=>?_
 have h3:=ai h3
 subst h3
 have he:ev C (.Tuple es k' p) ρ=some (.af (.tup yL)):=by
  show((jw C es ρ).bind λts=>(jn ts).bind λds=>if ds.length≤bh then some (OT.af (.tup ds)) else none)=_
  rw[h1,ao,h2];exact if_pos hl
 exact wm (PX kq k' p cx wf st he) (λx s₁ q=>wm (Bn cx.room.handled q.gU rfl) (λit s₂ z=>z.pre q.keeps))
theorem Zq {v:Expr}{lo hi st:Option Expr}(hv:SE prog w H₀ n C v) (Dz:SO prog w H₀ n C lo) (DA:SO prog w H₀ n C hi) (cI:SO prog w H₀ n C st) (p p':Pos):oZ prog w H₀ n C (.Subscript v (.Slice lo hi st p') p):=
 λ{env sc ρ ds A O s E tg} cx wf rs h uh=>by
  have wf:=PC wf
  revert h
  refine bv λt' h1=>bv λl h2=>bv λu7 h3=>bv λjc h4=>bv λnI h5 h6=>?_
  ·refine NI h6 λhn h6=>?_
   exact wm (PZ hv Dz DA cI p p' cx wf.1 wf.2.1.1 wf.2.1.2 wf.2.2 rs h1 h2 h3 h4 h5 hn h6) (λx s₁ q=>wm (Bn cx.room.handled q.rep rfl) (λit s₂ z=>z.pre q.keeps))
end
end
section
variable {prog:Program}{w:World}
noncomputable def ky (prog:Program) (w:World) (A:Around) (elt:Expr) (gens:List Comprehension) (sc:Scope) (pos:Pos) (k:Nat) (acc:Value) (env:Env) (Q:Shared→Prop) (s:Shared):Prop:=
 match gens[k]? with
 | some g'=>wpAny (model prog w) A (eval g'.iter env) (λx s₁=>wpAny (model prog w) A (pyIter x) (λit s₂=>
   codeAny (model prog w) A (.compStart (.ListComp elt gens sc pos) k it acc env) (λr s'=>r=.ok .next∧Q s') s₂) (λZ Z=>False) s₁) (λZ Z=>False) s
 | none=>wpAny (model prog w) A (do let _ ←call (.builtin "list.append") [acc,←eval elt env]) (λZ s'=>Q s') (λZ Z=>False) s
theorem ky.mono {A:Around}{elt:Expr}{gens:List Comprehension}{sc:Scope}{pos:Pos}{k:Nat}{acc:Value}{env:Env}{Q Q':Shared→Prop}{s:Shared}(h:ky prog w A elt gens sc pos k acc env Q s) (f:∀ s,Q s→Q' s):ky prog w A elt gens sc pos k acc env Q' s:=by
 revert h
 unfold ky
 cases gens[k]? with
 | some g'=>exact λh=>wm h λx s₆ q=>wm q λit s₇ q=>codeAny_mono q λr s₈ q=>⟨q.1,f _ q.2⟩
 | none=>exact λh=>wm h λx s₆ q=>f _ q
section
variable {A:Around}{s:Shared}
theorem vU {A:Around}{env:Env}{R:Result→Shared→Prop}:∀ (x:Value) (s':Shared),False→notedBy (model prog w) A env (λe s'=>R (.error e) s') x s':=λZ Z f=>f.elim
theorem YR {elt:Expr}{gens:List Comprehension}{sc:Scope}{pos:Pos}{k:Nat}{t iter:Expr}{ifs:List Expr}{it acc:Value}{env:Env}{R:Result→Shared→Prop}(hg:gens[k]?=some ⟨t,iter,ifs,0⟩)
  (tB:∀ g∈gens,g.is_async=0∧∀ x,foldedSetIterable g.iter env x=pure x) (I:Nat→Shared→Prop)
  (Kj:∀ n s,I n s→wpAny (model prog w) A (pyNext it) (λr s₁=>match r with
   | none=>R (.ok .next) s₁
   | some v=>wpAny (model prog w) A (letOwnedTupleGo t it v) (λZ s₂=>wpAny (model prog w) A (assign t env v) (λZ s₃=>
     wpAny (model prog w) A (lJ env ifs true) (λok s₄=>
      if ok=true then ky prog w A elt gens sc pos (k+1) acc env (λs₅=>∃ m,m<n∧I m s₅) s₄
      else ∃ m,m<n∧I m s₄) (λZ Z=>False) s₃) (λZ Z=>False) s₂) (λZ Z=>False) s₁) (λZ Z=>False) s)
  (n:Nat) (h:I n s):codeAny (model prog w) A (.compLoop (.ListComp elt gens sc pos) k it acc env) R s:=by
 refine codeAny_loop rfl I (λn s hI=>?_) n h
 show wpAny _ A ((compTurn (.ListComp elt gens sc pos) k it acc env).onRaise (λx=>do noteFrame x env;theTreesLotGoes x)) _ _ s
 refine wpAny_noted ?_
 unfold compTurn
 dsimp only
 rw[hg]
 dsimp only
 refine wpAny_bind (wpAny_standAt ?_)
 rw[if_neg (by decide)]
 refine wpAny_bind (wpAny_mono (Kj n s hI) (λr s₁ h₁=>?_) vU)
 cases r with
 | none=>exact wpAny_pure h₁
 | some v=>
  refine wpAny_bind (wpAny_mono h₁ (λZ s₂ h₂=>wpAny_bind (wpAny_mono h₂ (λZ s₃ h₃=>wpAny_bind (wpAny_mono h₃ (λok s₄ h₄=>?_) vU)) vU)) vU)
  cases ok with
  | false=>exact wpAny_pure ⟨rfl,h₄⟩
  | true=>
   rw[if_pos rfl] at h₄ ⊢
   unfold ky at h₄
   cases hk:gens[k+1]? with
   | none=>
    rw[hk] at h₄
    refine wpAny_bind (wpAny_mono h₄ (λZ s₅ h₅=>?_) vU)
    exact wpAny_pure ⟨rfl,h₅⟩
   | some g'=>
    rw[hk] at h₄
    refine dJ (tB g' (bt hk)) λha hf=>?_
    have RI:¬ ((g'.is_async != 0)=true):=by rw[ha];decide
    refine wpAny_bind (wpAny_mono h₄ (λx s₅ h₅=>wpAny_bind (wpAny_standAt ?_)) vU)
    rw[if_neg RI]
    refine wpAny_bind (wpAny_of_eq (hf x) (wpAny_bind (wpAny_holding ?_)))
    rw[if_neg RI]
    refine wpAny_mono h₅ (λLl s₆ h₆=>wpAny_bind (wpAny_runOwn (codeAny_mono h₆ λr s₇ h₇=>?_))) vU
    obtain⟨rfl,h₇⟩:=h₇
    exact wpAny_pure ⟨rfl,h₇⟩
theorem Qu {elt:Expr}{gens:List Comprehension}{sc:Scope}{pos:Pos}{k:Nat}{g:Comprehension}{it acc:Value}{env:Env}{R:Result→Shared→Prop}(hg:gens[k]?=some g) (ha:g.is_async=0)
  (h0:codeAny (model prog w) A (.compLoop (.ListComp elt gens sc pos) k it acc env) R s)
  (h:wpAny (model prog w) A (pyIter it) (λLl s'=>codeAny (model prog w) A (.compLoop (.ListComp elt gens sc pos) k Ll acc env) R s') (λZ Z=>False) s) :
  codeAny (model prog w) A (.compStart (.ListComp elt gens sc pos) k it acc env) R s:=by
 obtain⟨t,iter,ifs,a⟩:=g
 subst ha
 refine codeAny_of_tree ?_
 show wpAny _ _ ((compStart (.ListComp elt gens sc pos) k it acc env).onRaise (λx=>do noteFrame x env;standAt theWindowsPlace)) _ _ s
 refine wpAny_notedAt ?_
 unfold compStart
 have uk:(clausesOf (.ListComp elt gens sc pos))[k]?=some ⟨t,iter,ifs,0⟩:=hg
 rw[uk]
 refine wpAny_bind (wpAny_askSetting (wpAny_ite ?_))
 split
 ·exact wpAny_bind (wpAny_pure (wpAny_pure (pX rfl h0)))
 ·refine wpAny_bind (wpAny_rule (wpAny_bind (wpAny_standAt (wpAny_bind (wpAny_mono h (λLl s' h'=>wpAny_pure (pX rfl h')) vU)))))
end
end
section
variable {prog:Program}{w:World}
theorem Gw {t e:Expr}(h:xX t e=true) (env:Env) (x:Value):foldedSetIterable e env x=pure x:=by
 cases e<;>first | rfl | exact lN h
theorem bV.nj {env:Env}{V:List Addr}{s s':Shared}{x:Str}{v:Value}(k:iN V s s') (hV:∀ a∈V,∀ o,s.heap.get? a=some o→(∀ v,o.data≠.cell v)∧(∀ es n,o.data≠.dict es n)) (X:bV env s.heap x v) :
  bV env s'.heap x v:=
 X.mv (λo e q=>k.get (λz=>q.elim λZ q=>q.elim λZ q=>(hV _ z o e).2 _ _ q) e) λb o Z e q=>k.get (λz=>(hV _ z o e).1 _ q) e
theorem dS.less {H₀ h:Heap}{O:Addr→Prop}{env:Env}{ρ ρ':au}(k:∀ x t,ρ.lookup x=some t→ρ'.lookup x=some t) (X:dS prog w H₀ O env ρ' h):dS prog w H₀ O env ρ h:=
 ⟨X.dP,λx t e=>X.vars x t (k x t e)⟩
theorem Rep.sub {h:Heap}{O O':Addr→Prop}{v:Value}{d:DV}(k:∀ a,O' a→O a) (r:Rep h O v d):Rep h O' v d:=r.tr λa o hO e Z=>⟨e,λq=>hO (k a q)⟩
theorem gJ.sub {tg:Expr}{h:Heap}{O O':Addr→Prop}{v:Value}{d:DV}(k:∀ a,O' a→O a) (r:gJ tg h O v d):gJ tg h O' v d:=by
 revert r
 unfold gJ
 cases jv tg with
 | true=>exact λr p q e=>nU (r p q e) λT x y h1 h2 h3 h4=>⟨T,x,y,h1,h2,h3.sub k,h4.sub k⟩
 | false=>exact Rep.sub k
theorem Qf {x y:Str}{t u:OT}{ρ:au}(a:ρ.lookup x=none) (b:ρ.lookup y=some t):aj y ((x,u)::ρ)=some t:=
 (oU λq=>fH a (q▸b)).trans b
theorem Qr {tg:Expr}{d:DV}{ρ ρ':au}(h:cW tg d ρ=some ρ') (z:Str) (t:OT) (hz:ρ.lookup z=some t):ρ'.lookup z=some t:=
 P2 h (λx p Z hn e=>e▸Qf hn hz) λx y p q k r a b Z Z h1 h2 e=>e▸(oU λq=>fH h2 (q▸hz)).trans (Qf h1 hz)
theorem Kp.bb {V:List Addr}{s s':Shared}(k:Kp s s'):iN V s s':=⟨k.same,λ{b o} Z e=>k.get e⟩
noncomputable def Al (s s':Shared):Prop:=∀ a o,s.heap.get? a=some o→∃ o',s'.heap.get? a=some o'
theorem Al.fresh {s s':Shared}(x:Al s s'){a:Addr}(h:s'.heap.get? a=none):s.heap.get? a=none:=kC (s.heap.get? a) id λo q=>(x a o q).elim λZ e=>fH h e
noncomputable def tS (prog:Program) (w:World) (H₀:Heap) (O:Addr→Prop) (bH:Env) (sc:Scope) (W:List Addr) (acc:Addr) (s₀:Shared) (own:Bool) (ρ:au) (ts:List OT) (as:List Addr) (s:Shared) (wr:List Addr) (out:List DV) (gw:List Addr) (s':Shared):Prop:=
 CI prog w H₀ O bH sc W acc s₀ ρ (ts++out.map (iQ own)) gw s'∧iN (acc::W++wr) s s'∧∀ a∈gw,a∈as∨s.heap.get? a=none
noncomputable def pY (prog:Program) (w:World) (H₀:Heap) (O:Addr→Prop) (bH:Env) (sc:Scope) (W:List Addr) (acc:Addr) (s₀:Shared) (own:Bool) (ρ:au) (ts:List OT) (as:List Addr) (s:Shared) (wr:List Addr) (out:List DV) (s':Shared):Prop:=
 ∃ gw,tS prog w H₀ O bH sc W acc s₀ own ρ ts as s wr out gw s'
noncomputable def sO (C:ey) (tg:Expr) (ifs:List Expr) (K:au→Option (List DV)) (ρ:au) (d:DV):Option (List DV):=(cW tg d ρ).bind λρ'=>(iV C .And ifs ρ').bind λok=>if ok then K ρ' else some []
section
variable {A:Around}{s s₀:Shared}{bH:Env}{sc:Scope}{W:List Addr}{H₀:Heap}{O:Addr→Prop}{ρ:au}{acc:Addr}{ts:List OT}{as:List Addr}{n:Nat}{C:ey}{own:Bool}
theorem CI.al {wr:List Addr}{s':Shared}(i:CI prog w H₀ O bH sc W acc s₀ ρ ts as s') (k:iN (acc::W++wr) s s') (hw:∀ b∈wr,∃ o,s'.heap.get? b=some o):Al s s':=λa o e=>
 (bA (a∈acc::W++wr)).elim (λq=>(aP.mp q).elim (λq=>(aC.mp q).elim (λq=>aT i.mD λZ x Z=>aT x.isList λo ho Z=>⟨o,q▸ho⟩) λq=>aT (i.ie.data a q) λo ho Z=>⟨o,ho⟩) (hw a)) λq=>⟨o,k.get q e⟩
theorem iN.wide {V V':List Addr}{s s':Shared}(k:iN V s s') (h:∀ a∈V,a∈V'):iN V' s s':=⟨k.same,λ{b o} hb e=>k.get (λq=>hb (h b q)) e⟩
section
variable {tg:Expr}{I:Addr}{fp wr:List Addr}{ds:List DV}{OO:Addr→Prop}{St:Nat→Heap→Prop}(S:Src prog w A tg I fp wr ds OO St) (km:∀ b∈fp,b≠acc∧b∉W)
include S in
theorem Src.ix {j:Nat}{h:Heap}(sj:St j h):∀ b∈wr,∀ o,h.get? b=some o→¬ fW o:=λb hb o e=>vT (S.seq j h sj b hb) λZ e' q Z Z=>ai (e'.symm.trans e)▸q
include S in
theorem Src.alive {j:Nat}{h:Heap}(sj:St j h):∀ b∈wr,∃ o,h.get? b=some o:=λb hb=>aT (S.seq j h sj b hb) λo e Z=>⟨o,e⟩
include S km in
theorem Um (c:CC prog n A H₀ O bH sc W acc s₀){j:Nat}{s₁ s₂:Shared}(sj:St j s₁.heap) (hw:∀ b∈wr,s₀.heap.get? b=none∧b∉as) (ci:CI prog w H₀ O bH sc W acc s₀ ρ ts as s₁) (k₂:iN wr s₁ s₂):CI prog w H₀ O bH sc W acc s₀ ρ ts as s₂:=
 ci.kw c k₂ (λb hb=>.inr ⟨(hw b hb).1,(km b (S.sub b hb)).1,(hw b hb).2,S.ix sj b hb⟩) (ci.ie.kp λa ha o e=>k₂.get (λq=>(km a (S.sub a q)).2 ha) e)
  (ci.iI.GY ci.af (ci.iI.dP.nj k₂ λa ha=>⟨kC (H₀.get? a) id λo z=>fH (hw a ha).1 (c.dP.up a o z),λq=>q.elim (λq=>(c.dP.alive a q).elim λo e=>fH (hw a ha).1 e) λq=>q.elim (km a (S.sub a ha)).1 (hw a ha).2⟩) (Tr.nj k₂ (S.ix sj))
   λx t v Z V=>V.nj k₂ λa ha o e=>vT (S.seq j _ sj a ha) λZ e' Z q1 q2=>ai (e'.symm.trans e)▸⟨q1,q2⟩) ci.af
include S km in
theorem JE (oE:OO acc){i:Nat}{s s':Shared}(F:oK bH sc W s.heap) (k:iN (acc::W) s s') (st:St i s.heap):St i s'.heap:=
 S.frame i _ _ st λb o e q=>k.get (λz=>(aC.mp z).elim (λz=>q.elim (λq=>(km b q).1 z) λq=>q.2 (z▸oE)) λz=>q.elim (λq=>(km b q).2 z) λq=>F.ix b z o e q.1) e
end
theorem tS.app {tg:Expr}{d:DV}{ρ':au}{wr gw qz:List Addr}{s₅ s₆:Shared}{gy o1:List DV}(hb:cW tg d ρ=some ρ') (al:gm ρ) (n9:iN (acc::W++wr) s s₅) (EL:Al s s₅) (tC:∀ a∈gw,a∈as∨s.heap.get? a=none)
  (q:tS prog w H₀ O bH sc W acc s₀ own ρ' (ts++gy.map (iQ own)) gw s₅ [] o1 qz s₆):tS prog w H₀ O bH sc W acc s₀ own ρ ts as s wr (gy++o1) qz s₆:=
 have c:=q.1
 ⟨⟨c.iI.less (Qr hb),al,c.kp,c.ie,by rw[bL,←dq];exact c.mD,c.fresh,c.nodup⟩,n9.tr (q.2.1.wide λa ha=>ba _ (bS (acc::W)▸ha)),λa ha=>(q.2.2 a ha).elim (tC a) λz=>.inr (EL.fresh z)⟩
noncomputable def Fc (Q:List DV→List Addr→Shared→Prop) (F:DV→Option (List DV)) (ds out:List DV) (St:Nat→Heap→Prop) (m:Nat) (s':Shared):Prop:=
 ∃ i gy m9 gw,m=ds.length-i∧i≤ds.length∧Q gy gw s'∧gV F (ds.drop i)=some m9∧out=gy++m9∧St i s'.heap
theorem Pc (c:CC prog n A H₀ O bH sc W acc s₀){elt:Expr}{gens:List Comprehension}{pos:Pos}{k:Nat}{tg iter:Expr}{ifs:List Expr}(hg:gens[k]?=some ⟨tg,iter,ifs,0⟩)
  (tB:∀ g∈gens,g.is_async=0∧∀ x,foldedSetIterable g.iter bH x=pure x) (pK:∀ e∈ifs,SB prog w H₀ n C e) (wft:BV sc tg=true) (uJ:jj sc ifs=true) (K:au→Option (List DV))
  (IH:∀ {ρ' ts as s out},CI prog w H₀ O bH sc W acc s₀ ρ' ts as s→K ρ'=some out→ts.length+out.length≤bh→(own=true→∀ d∈out,∃ l,d=.list l) →
   ky prog w A elt gens sc pos (k+1) (.ref acc) bH (pY prog w H₀ O bH sc W acc s₀ own ρ' ts as s [] out) s)
  {ds out:List DV}{I:Addr}{fp wr:List Addr}{OO:Addr→Prop}{St:Nat→Heap→Prop}(S:Src prog w A tg I fp wr ds OO St) (i:CI prog w H₀ O bH sc W acc s₀ ρ ts as s)
  (RW:OO=λb=>Oa O acc as b∨s.heap.get? b=none) (st:St 0 s.heap) (km:∀ b∈fp,b≠acc∧b∉W) (oX:∀ b∈wr,s₀.heap.get? b=none∧b∉as)
  (h:gV (sO C tg ifs K ρ) ds=some out) (hc:ts.length+out.length≤bh) (jX:own=true→∀ d∈out,∃ l,d=.list l) :
  codeAny (model prog w) A (.compLoop (.ListComp elt gens sc pos) k (.ref I) (.ref acc) bH) (λr s'=>r=.ok .next∧pY prog w H₀ O bH sc W acc s₀ own ρ ts as s wr out s') s:=by
 have oE:OO acc:=RW▸.inl (.inr (.inl rfl))
 refine YR hg tB (Fc (tS prog w H₀ O bH sc W acc s₀ own ρ ts as s wr) (sO C tg ifs K ρ) ds out St) (λm s₁ hI=>?_) ds.length
  ⟨0,[],out,as,rfl,fh _,⟨by rw[dM,bS];exact i,iN.rf _ _,λa ha=>.inl ha⟩,h,rfl,st⟩
 refine QG hI λj gy m9 gw em hj q hf ho sj=>?_
 subst em
 clear hI
 refine fL q λci kk tC=>?_
 have wH:∀ {s₂},iN wr s₁ s₂→CI prog w H₀ O bH sc W acc s₀ ρ (ts++gy.map (iQ own)) gw s₂:=Um S km c sj (λb hb=>⟨(oX b hb).1,λq=>(tC b q).elim (oX b hb).2 λq=>(S.alive st b hb).elim λo e=>fH q e⟩) ci
 refine(bA (j<ds.length)).elim (λkl=>?_) λkl=>?_
 ·have hd:=aB kl
  rw[nP kl] at hf
  generalize ds[j]=d at hd hf
  refine bJ hf λo1 h1=>bv λo2 wj rx=>bJ h1 λρ' hb=>bv λok og hK=>?_
  clear hf h1
  have rx:=ai rx
  refine wm (S.item j d s₁ hd sj) λr s₂ q=>aT q λv er q'=>?_
  subst er
  refine wm q' λZ s₃ q=>fL q λk₃ qg tn=>?_
  have c₃:=wH k₃
  refine wm (UK c.cx.room.handled c.cx.env c₃.ie (c.hW c₃) wft c₃.af c₃.iI (tn.sub λa q=>RW▸q.elim (λq=>.inl (.inl q)) λq=>q.elim (λq=>.inl (.inr (.inl q))) λq=>(tC a q).imp (λz=>.inr (.inr z)) id) hb) λZ s₄ q=>oQ q λk₄ F₄ X₄ EM Sk=>?_
  have c₄:=c₃.kw c k₄ (λa ha=>.inl ha) F₄ X₄ EM
  have qf:=JE S km oE c₃.ie (k₄.wide λa ha=>.tail _ ha) qg
  refine wm (X0 c pK uJ X₄ og) λG5 s₅ q=>?_
  have eo:=q.1
  subst eo
  have k₅:=q.2
  have c₅:=c₄.Lj k₅
  have sP:St (j+1) s₅.heap:=JE S km oE c₄.ie k₅.bb qf
  have n9:iN (acc::W++wr) s s₅:=kk.tr ((k₃.wide λa ha=>bg _ ha).tr ((k₄.wide λa ha=>.tail _ (ba _ ha)).tr k₅.bb))
  cases G5 with
  | false=>
   have hK:=ai hK
   subst hK
   exact⟨ds.length-(j+1),by exact FK _ _ kl,j+1,gy,m9,gw,rfl,kl,⟨⟨c₅.iI.less (Qr hb),c₃.af,c₅.kp,c₅.ie,c₅.mD,c₅.fresh,c₅.nodup⟩,n9,tC⟩,rx▸wj,ho,sP⟩
  | true=>
   have mw:out=(gy++o1)++o2:=by rw[ho,←rx,dq]
   have hl:(ts++gy.map (iQ own)).length+o1.length≤bh:=by
    have:=congrArg rM mw
    simp only[aR,ag] at this ⊢
    exact rl 0xd48000000046202c409047b10c4050240da9000000008c40d0405 rfl _ _ _ _ _ hc this
   have fD:=IH c₅ hK hl λq d hd=>jX q d (mw▸ba _ (bg _ hd))
   exact fD.mono λs₆ q=>q.elim λqz q=>⟨ds.length-(j+1),by exact FK _ _ kl,j+1,gy++o1,o2,qz,rfl,kl,q.app hb c₃.af n9 (c₅.al n9 (S.alive sP)) tC,wj,mw,JE S km oE c₅.ie (bS (acc::W)▸q.2.1) sP⟩
 ·have kE:j=ds.length:=by exact rl 0xf40517720286a02802 rfl _ _ hj kl
  subst kE
  rw[vE] at hf
  have hf:=ai hf
  refine wm (S.done s₁ sj) λr s₂ q=>?_
  have er:=q.1
  subst er
  exact⟨rfl,gw,by rw[ho,←hf,bS];exact wH q.2,kk.tr (q.2.wide λa ha=>bg _ ha),tC⟩
end
end
section
variable {prog:Program}{w:World}
theorem V9 {s s':Shared}(k:Kp s s'){a:Addr}(h:s'.heap.get? a=none):s.heap.get? a=none:=k.gone h
theorem IZ {t it:Expr}(h:xX t it=true):∀ f p a q,it=.Call (.Name f p) [a] [] q→f=ae "enumerate"→jv t=true:=λf p a q e e'=>by
 subst e e';exact Yo h
section
variable {A:Around}{s s₀:Shared}{bH:Env}{sc:Scope}{W:List Addr}{H₀:Heap}{O:Addr→Prop}{ρ:au}{acc:Addr}{ts:List OT}{as:List Addr}{n:Nat}{C:ey}{own:Bool}
theorem WQ (c:CC prog n A H₀ O bH sc W acc s₀){elt:Expr}{gens:List Comprehension}{pos:Pos}{k:Nat}(hg:gens[k]?=none) (he:SE prog w H₀ n C elt) (BU:dY sc elt=true) (hf:own=true→bo elt=true){out:List DV}(i:CI prog w H₀ O bH sc W acc s₀ ρ ts as s)
  (h:((ev C elt ρ).bind λt=>t.lf.bind λd=>some [d])=some out) (hc:ts.length+out.length≤bh) (jX:own=true→∀ d∈out,∃ l,d=.list l) :
  ky prog w A elt gens sc pos k (.ref acc) bH (pY prog w H₀ O bH sc W acc s₀ own ρ ts as s [] out) s:=by
 unfold ky
 rw[hg]
 refine bJ h λt h1=>bv λd h2 h3=>?_
 have h3:=ai h3
 subst h3
 exact wm (Vo c he BU hf i h1 h2 (λq=>jX q d (.head _)) hc) λZ s' q=>iw q λgw ci k fr=>⟨gw,ci,k.wide λa ha=>(bS (acc::W)).symm▸ha,fr⟩
theorem XA (c:CC prog n A H₀ O bH sc W acc s₀){elt:Expr}{gens:List Comprehension}{pos:Pos}(tB:∀ g∈gens,g.is_async=0∧∀ x,foldedSetIterable g.iter bH x=pure x){k:Nat}{t it:Expr}{ifs:List Expr}(hg:gens[k]?=some ⟨t,it,ifs,0⟩)
  (nK:oZ prog w H₀ n C it) (pK:∀ e∈ifs,SB prog w H₀ n C e) (w1:dY sc it=true) (w2:BV sc t=true) (w3:jj sc ifs=true) (w5:xX t it=true) (K:au→Option (List DV))
  (IH:∀ {ρ' ts as s out},CI prog w H₀ O bH sc W acc s₀ ρ' ts as s→K ρ'=some out→ts.length+out.length≤bh→(own=true→∀ d∈out,∃ l,d=.list l)→ky prog w A elt gens sc pos (k+1) (.ref acc) bH (pY prog w H₀ O bH sc W acc s₀ own ρ' ts as s [] out) s)
  {out:List DV}(i:CI prog w H₀ O bH sc W acc s₀ ρ ts as s) (h:((eJ C it ρ).bind λitems=>gV (sO C t ifs K ρ) items)=some out) (hc:ts.length+out.length≤bh) (jX:own=true→∀ d∈out,∃ l,d=.list l) :
  ky prog w A elt gens sc pos k (.ref acc) bH (pY prog w H₀ O bH sc W acc s₀ own ρ ts as s [] out) s:=by
 unfold ky
 rw[hg]
 refine bJ h λitems h1 h2=>wm (nK c.cx w1 i.iI h1 (IZ w5)) λx s₁ q=>wm q λG9 s₂ q=>?_
 clear h
 refine sJ q λk₂ I fp wr ei oX km mk=>?_
 subst ei
 refine aT (mk (λb=>Oa O acc as b∨s₂.heap.get? b=none) λb q=>q) λSt S st=>?_
 have i₂:=i.Lj k₂
 have yv:∀ b∈fp,b≠acc∧b∉W:=λb hb=>(km b hb).elim (λq=>⟨λz=>aT i.mD λZ x Z=>aT x.isList λo ho Z=>fH (oX b q) (z▸ho),λz=>aT (i.ie.data b z) λo e Z=>fH (oX b q) e⟩)
  λq=>iw q λo e hs hO=>⟨λz=>hO (.inr (.inl z)),λz=>i₂.ie.ix b z o e hs⟩
 have Lu:∀ b∈wr,s₀.heap.get? b=none∧b∉as:=λb hb=>⟨i.kp.gone (oX b hb),λz=>(i.iI.dP.alive b (.inr (.inr z))).elim λo e=>fH (oX b hb) e⟩
 have L:=codeAny_mono (Pc (C:=C) (own:=own) c hg tB pK w2 w3 K IH (pos:=pos) S i₂ rfl st yv Lu h2 hc jX) λr s' q=>pX q.1 (show pY prog w H₀ O bH sc W acc s₀ own ρ ts as s [] out s' from
  q.2.elim λgw q=>⟨gw,q.1,⟨iB k₂.same λh t e=>iB q.2.1.same λh' t' e'=>⟨h',t',by rw[e',e]⟩,λ{b o} hb e=>q.2.1.get (λz=>(aP.mp z).elim (λz=>hb (ba _ z)) λz=>fH (oX b z) e) (k₂.get e)⟩,λa ha=>(q.2.2 a ha).imp id k₂.gone⟩)
 exact Qu hg rfl L (S.self 0 _ _ _ st L)
theorem Tt (c:CC prog n A H₀ O bH sc W acc s₀){elt:Expr}{gens:List Comprehension}{pos:Pos}(tB:∀ g∈gens,g.is_async=0∧∀ x,foldedSetIterable g.iter bH x=pure x)
  (he:SE prog w H₀ n C elt) (BU:dY sc elt=true) (hf:own=true→bo elt=true) (gs:List Comprehension) (k:Nat) (hk:gens.drop k=gs) (hs:∀ g∈gs,oZ prog w H₀ n C g.iter∧∀ e∈g.ifs,SB prog w H₀ n C e) (wf:z6 sc sc gs=true)
  {ρ:au}{ts:List OT}{as:List Addr}{s:Shared}{out:List DV}(i:CI prog w H₀ O bH sc W acc s₀ ρ ts as s)
  (h:fU C gs ρ ρ (λρ'=>(ev C elt ρ').bind λt=>t.lf.bind λd=>some [d])=some out) (hc:ts.length+out.length≤bh) (jX:own=true→∀ d∈out,∃ l,d=.list l) :
  ky prog w A elt gens sc pos k (.ref acc) bH (pY prog w H₀ O bH sc W acc s₀ own ρ ts as s [] out) s:=by
 induction gs generalizing k ρ ts as s out with
 | nil=>exact WQ c (List.getElem?_eq_none_iff.mpr (List.drop_eq_nil_iff.mp hk)) he BU hf i h hc jX
 | cons g gs ih=>
  obtain⟨t,it,ifs,a⟩:=g
  have wf:=xG wf
  have w4:=wf.1.1.2
  subst w4
  have hg:gens[k]?=some ⟨t,it,ifs,0⟩:=by rw[←Nat.add_zero k,←List.getElem?_drop,hk];rfl
  have yt:gens.drop (k+1)=gs:=by rw[←List.drop_drop,hk];rfl
  exact XA c tB hg (hs _ (.head _)).1 (hs _ (.head _)).2 wf.1.1.1.1.1 wf.1.1.1.1.2 wf.1.1.1.2 wf.1.2 _ (λ{ρ' ts as s out} ci hK hl hw=>ih (k+1) yt (λg hg=>hs g (.tail _ hg)) wf.2 ci hK hl hw) i h hc jX
end
end
section
variable {prog:Program}{w:World}
noncomputable def jJ (env:Env):List (Str×NameKind)→List (Str×Addr)→List (Str×Addr)
 | [],cs=>cs
 | (x,k)::r,cs=>jJ env r (if k==.free then (x,(env.cells.lookup x).getD 0)::cs else cs)
theorem IF {env:Env}:∀ x k r cs,jJ env ((x,k)::r) cs=(jJ env r (if k==.free then (x,(env.cells.lookup x).getD 0)::cs else cs)):=λ_ _ _ _=>rfl
theorem QR {env:Env}:∀ (l:List (Str×NameKind)) (cs:List (Str×Addr)),(∀ p∈l,p.2=.free→∃ c,env.cells.lookup p.1=some c) →
  (forIn l cs λ(p:Str×NameKind) cs=>if p.2==cq then (do let a ←cellOf env p.1;pure (eF ((p.1,a)::cs))) else pure (eF cs):Sem (List (Str×Addr)))=pure (jJ env l cs)
 | [],cs,_=>by rw[y5];rfl
 | (x,k)::r,cs,h=>by
  rw[mE,IF]
  have e:(if k==cq then (do let a ←cellOf env x;pure (eF ((x,a)::cs))) else pure (eF cs):Sem (ForInStep (List (Str×Addr))))=pure (.yield (if k==.free then (x,(env.cells.lookup x).getD 0)::cs else cs)):=by
   by_cases hk:k=.free
   ·refine gF (h _ (.head _) hk) λc hc=>?_
    have:cellOf env x=pure c:=by unfold cellOf;exact(ak hc)▸rfl
    rw[hk,this,hc];rfl
   ·rw[beq_eq_false_iff_ne.mpr hk];rfl
  exact(congrArg (λq=>q >>= _) e).trans ((pure_bind _ _).trans (QR r _ λp hp=>h p (.tail _ hp)))
theorem y5l {env:Env}{scope:Scope}(h:∀ p∈scope.names,p.2=.free→∃ c,env.cells.lookup p.1=some c):closureFor scope env=pure (jJ env scope.names []):=by
 unfold closureFor
 have:=QR (env:=env) scope.names [] h
 refine this▸?_
 rw[bind_pure]
theorem J2 {env:Env}{x:Str}{c:Addr}:∀ {l:List (Str×NameKind)}{cs:List (Str×Addr)},(jJ env l cs).lookup x=some c→(∃ p∈l,p.1=x∧p.2=.free∧(env.cells.lookup x).getD 0=c)∨cs.lookup x=some c
 | [],cs,h=>.inr h
 | (y,k)::r,cs,h=>by
  rw[IF] at h
  rcases J2 h with ⟨p,hp,q⟩ | h
  ·exact .inl ⟨p,.tail _ hp,q⟩
  ·split at h
   ·rename_i hk
    rw[aQ] at h
    split at h
    ·rename_i Ha
     injection h with h
     have:=beq_iff_eq.mp Ha
     subst this
     exact .inl ⟨_,.head _,rfl,by simpa using hk,h⟩
    ·exact .inr h
   ·exact .inr h
theorem xD {α:Type}{x:Str}:∀ {l:List (Str×α)},(∃ c,(x,c)∈l)→∃ c,l.lookup x=some c
 | (y,v)::r,⟨c,h⟩=>by
  rw[aQ]
  cases hb:x==y with
  | true=>exact⟨v,rfl⟩
  | false=>
   refine xD ⟨c,?_⟩
   refine(aC.mp h).elim (λe=>?_) λh=>?_
   ·cases e;simp at hb
   ·exact h
theorem Jt {env:Env}{x:Str}:∀ {l:List (Str×NameKind)}{cs:List (Str×Addr)},((x,cq)∈l∨∃ c,(x,c)∈cs)→∃ c,(x,c)∈jJ env l cs
 | [],cs,h=>by
  refine h.elim (λh=>?_) λh=>?_
  ·cases h
  ·exact h
 | (y,k)::r,cs,h=>by
  rw[IF]
  refine Jt ?_
  rcases h with h | ⟨c,h⟩
  ·refine(aC.mp h).elim (λe=>?_) λh=>?_
   ·cases e
    exact .inr ⟨_,by rw[if_pos (by rfl)];exact .head _⟩
   ·exact .inl h
  ·refine .inr ⟨c,?_⟩
   split
   ·exact .tail _ h
   ·exact h
theorem t5:∀ (n:Nat) (l:List (Str×NameKind)) (acc:List (Str×Addr)),cellsFrom n l acc=cellsFrom n l []++acc
 | n,[],acc=>rfl
 | n,(x,k)::r,acc=>by
  unfold cellsFrom
  split
  ·rw[t5 _ r ((x,n)::acc),t5 _ r [(x,n)]];simp
  ·exact t5 n r acc
theorem GR {x:Str}{c:Addr}:∀ {n:Nat}{l:List (Str×NameKind)},(x,c)∈cellsFrom n l []→(x,eD)∈l
 | n,[],h=>nomatch h
 | n,(y,k)::r,h=>by
  unfold cellsFrom at h
  split at h
  ·rename_i hk
   rw[t5] at h
   refine(aP.mp h).elim (λh=>?_) λh=>?_
   ·exact .tail _ (GR h)
   ·rw[aK] at h;cases h
    have:=beq_iff_eq.mp hk
    subst this;exact .head _
  ·exact .tail _ (GR h)
theorem z5 {x:Str}:∀ {n:Nat}{l:List (Str×NameKind)},(x,eD)∈l→∃ c,(x,c)∈cellsFrom n l []
 | n,(y,k)::r,h=>by
  unfold cellsFrom
  refine(aC.mp h).elim (λe=>?_) λh=>?_
  ·cases e
   rw[if_pos (by rfl),t5]
   exact⟨n,bg _ (.head _)⟩
  ·split
   ·refine gF (z5 (n:=n+1) h) λc hc=>?_
    rw[t5]
    exact⟨c,ba _ hc⟩
   ·exact z5 h
theorem GS {α:Type}{x:Str}{l m:List (Str×α)}:(l++m).lookup x=(l.lookup x).or (m.lookup x):=by
 induction l with
 | nil=>rfl
 | cons p l ih=>
  rw[List.cons_append,aQ,aQ]
  cases x==p.1<;>simp[ih]
theorem J4 {env:Env}{x:Str}:∀ (names:List (Str×NameKind)),
  (names.map λ(n,k)=>if (k==cq&&env.scope.kind==.function&&env.kindOf n==some .cell) then (n,eD) else (n,k)).lookup x =
   (names.lookup x).map λk=>if (k==cq&&env.scope.kind==.function&&env.kindOf x==some .cell) then eD else k
 | []=>rfl
 | (n,k)::r=>by
  show aj x ((if (k==cq&&env.scope.kind==.function&&env.kindOf n==some .cell)=true then (n,eD) else (n,k))::_)=_
  refine EE (x==n) (λhx=>?_) (λhx=>?_)
  ·have:=beq_iff_eq.mp hx
   subst this
   by_cases hc:(k==cq&&env.scope.kind==.function&&env.kindOf x==some .cell)=true
   ·rw[if_pos hc,aQ,aQ,hx]
    simp only[aD];rw[if_pos hc]
   ·rw[if_neg hc,aQ,aQ,hx]
    simp only[aD];rw[if_neg hc]
  ·by_cases hc:(k==cq&&env.scope.kind==.function&&env.kindOf n==some .cell)=true
   ·rw[if_pos hc,aQ,aQ,hx];exact(J4 (env:=env) (x:=x) r)
   ·rw[if_neg hc,aQ,aQ,hx];exact(J4 (env:=env) (x:=x) r)
theorem q7 {α:Type}{x:Str}{c:α}{l:List (Str×α)}(h:l.lookup x=some c):(x,c)∈l:=mem_of_lookup h
theorem UO {env:Env}{sc cB:Scope}{N:Nat}{C:Addr}{h:Heap}(e:nR env sc) (hk:cB.kind=.function)
  (hn:∀ p∈cB.names,(p.2=.free→sc.names.lookup p.1=some .cell∨sc.names.lookup p.1=some .free)∧cB.names.lookup p.1=some p.2)
  (ok:CellsOk h N (cellsFrom N cB.names [])) (up:∀ p∈cB.names,p.2=.free→∃ c,env.cells.lookup p.1=some c∧c<N) :
  nR { scope:=relabel cB env,locals:=C,globals:=env.globals,cells:=cellsFrom N cB.names (jJ env cB.names []),qual:=env.qual,func:=none,code:=env.code,frame:=env.frame,builtins:=env.builtins } cB:=by
 have hl:∀ x,Env.kindOf { scope:=relabel cB env,locals:=C,globals:=env.globals,cells:=cellsFrom N cB.names (jJ env cB.names []),qual:=env.qual,func:=none,code:=env.code,frame:=env.frame,builtins:=env.builtins } x
  = (cB.names.lookup x).map λk=>if (k==cq&&env.scope.kind==.function&&env.kindOf x==some .cell) then eD else k:=λx=>J4 _
 have Hr:∀ {x c},(jJ env cB.names []).lookup x=some c→cB.names.lookup x=some .free∧env.cells.lookup x=some c∧c<N:=λ{x c} q=>by
  rcases J2 q with ⟨p,hp,rfl,hf,hc⟩ | q
  ·refine aT (up p hp hf) λc' h1 h2=>?_
   rw[h1] at hc
   cases hc
   exact⟨by rw[(hn p hp).2,hf],h1,h2⟩
  ·exact bR q
 have own:∀ {x c},(cellsFrom N cB.names []).lookup x=some c→cB.names.lookup x=some .cell∧N≤c:=λ{x c} q=>by
  have:=q7 q
  exact⟨(hn _ (GR this)).2,(ok.empty _ _ this).2⟩
 have cell:∀ {x c},(cellsFrom N cB.names (jJ env cB.names [])).lookup x=some c→(cellsFrom N cB.names []).lookup x=some c∨((cellsFrom N cB.names []).lookup x=none∧(jJ env cB.names []).lookup x=some c):=λ{x c} q=>by
  rw[t5,GS] at q
  cases z:(cellsFrom N cB.names []).lookup x with
  | none=>rw[z] at q;exact .inr ⟨rfl,q⟩
  | some c'=>rw[z] at q;exact .inl q
 refine⟨hk,e.glob,e.blt,λx q=>?_,λx q=>?_,λx q=>?_,λx q=>?_,λx q=>?_,λx y c q q'=>?_⟩
 ·rw[hl,q];rfl
 ·rw[hl,q];rfl
 ·rw[hl,q];rfl
 ·rw[hl,q];simp only[aD];split<;>simp
 ·rw[t5,GS]
  refine q.elim (λq=>?_) λq=>?_
  ·refine gF (xD (z5 (n:=N) (q7 q))) λc hc=>?_
   exact⟨c,by rw[hc];rfl⟩
  ·refine gF (xD (Jt (env:=env) (cs:=[]) (.inl (q7 q)))) λc hc=>?_
   cases z:(cellsFrom N cB.names []).lookup x with
   | none=>exact⟨c,by rw[hc];rfl⟩
   | some c'=>exact⟨c',rfl⟩
 ·rcases cell q with a | ⟨_,a⟩<;>rcases cell q' with b | ⟨_,b⟩
  ·exact name_of_addr ok.apart (q7 a) (q7 b)
  ·exact absurd (Hr b).2.2 (kH.mpr (own a).2)
  ·exact absurd (Hr a).2.2 (kH.mpr (own b).2)
  ·exact e.inj x y c (Hr a).2.1 (Hr b).2.1
end
section
variable {prog:Program}{w:World}
theorem ZA {A:Around}{E:Value→Shared→Prop}{s:Shared}{env:Env}{sc cB:Scope}{Q:Env→Shared→Prop}(e:nR env sc) (hk:cB.kind=.function)
  (hn:∀ p∈cB.names,(p.2=.free→sc.names.lookup p.1=some .cell∨sc.names.lookup p.1=some .free)∧cB.names.lookup p.1=some p.2)
  (up:∀ p∈cB.names,p.2=.free→∃ c v,env.cells.lookup p.1=some c∧s.heap.IsCell c v)
  (h:∀ bH W s',nR { bH with scope:=relabel cB env } cB→oK { bH with scope:=relabel cB env } cB W s'.heap→Kp s s'→(∀ a∈W,s.heap.get? a=none) →
   (∀ x c,cB.names.lookup x=some .free→env.cells.lookup x=some c→({ bH with scope:=relabel cB env }:Env).cells.lookup x=some c)→Q bH s') :
  wpAny (model prog w) A (newFunctionEnv cB env.globals (jJ env cB.names []) [] env.qual none .none (some env)) Q E s:=by
 simp only[newFunctionEnv,bI,if_true]
 refine wpAny_bind (wpAny_alloc ?_)
 refine wpAny_bind (wpAny_layCells _ (λname kind cells=>by cases hkc:kind==eD<;>simp[]) _ _ _ _ ?_)
 have ok:=cellsFrom_ok cB.names (s.heap.push { cls:=.type "dict",data:=.dict #[] }) (s.heap.objs.size+1) [] ⟨λZ Z hm=>(nomatch hm),HB⟩ (by rw[nD];exact aL _)
 rw[nD] at ok
 rw[show({ s with heap:=s.heap.push { cls:=.type "dict",data:=.dict #[] } }:Shared).heap.objs.size=s.heap.objs.size+1 from nD ..]
 have k:∀ b o,s.heap.get? b=some o→(pushCells (s.heap.push { cls:=.type "dict",data:=.dict #[] }) cB.names).get? b=some o:=λb o e=>pushCells_keeps _ _ b o (cY _ e)
 have ns:(pushCells (s.heap.push { cls:=.type "dict",data:=.dict #[] }) cB.names).Ns s.heap.objs.size (λZ=>none):=(Heap.Ns.new s.heap (.type "dict")).keeps (pushCells_keeps _ _)
 rw[y5]
 refine wpAny_bind (wpAny_pure (wpAny_pure ?_))
 have E':=UO (C:=s.heap.objs.size) e hk hn ok λp hp hf=>by
  refine mZ (up p hp hf) λc v h1 h2=>?_
  exact⟨c,h1,ig h2.lt⟩
 have new:∀ {x c},(x,c)∈cellsFrom (s.heap.objs.size+1) cB.names []→s.heap.get? c=none:=λ{x c} hm=>by
  cases q:s.heap.get? c with
  | none=>rfl
  | some o=>
   have h1:=cE q
   have h2:=(ok.empty _ _ hm).2
   exact absurd h1 (kH.mpr (Nat.le_of_succ_le h2))
 refine h _ (s.heap.objs.size::(cellsFrom (s.heap.objs.size+1) cB.names []).map (·.2)) _ E' ⟨⟨_,ns⟩,.head _,λx hx=>?_,λa ha=>?_⟩ ⟨⟨_,s.toks,rfl⟩,λ{b o} e=>k b o e⟩ (λa ha=>?_) (λx c hx hc=>?_)
 ·refine gF (xD (z5 (n:=s.heap.objs.size+1) (q7 hx))) λc hc=>?_
  refine⟨c,none,?_,(ok.empty _ _ (q7 hc)).1,.tail _ (aE.mpr ⟨_,q7 hc,rfl⟩)⟩
  rw[t5,GS,hc];rfl
 ·rcases aC.mp ha with q | q
  ·subst q
   refine zV ns λo es ep ho hd Z=>?_;clear ns
   exact⟨o,ho,zX hd⟩
  ·obtain⟨⟨x,c⟩,hm,rfl⟩:=aE.mp q
   refine aT ((ok.empty _ _ hm).1) λo ho hd=>?_
   exact⟨o,ho,Gy hd⟩
 ·rcases aC.mp ha with q | q
  ·subst q;exact qZ _
  ·obtain⟨⟨x,c⟩,hm,rfl⟩:=aE.mp q
   exact new hm
 ·rw[t5,GS]
  have h0:(cellsFrom (s.heap.objs.size+1) cB.names []).lookup x=none:=by
   cases z:(cellsFrom (s.heap.objs.size+1) cB.names []).lookup x with
   | none=>rfl
   | some c'=>
    have:=(hn _ (GR (q7 z))).2
    rw[hx] at this;cases this
  rw[h0,Option.none_or]
  refine gF (xD (Jt (env:=env) (cs:=[]) (.inl (q7 hx)))) λc' um=>?_
  rw[um]
  rcases J2 um with ⟨p,hp,rfl,hf,RQ⟩ | q
  ·rw[hc] at RQ;cases RQ;rfl
  ·exact bR q
theorem jD {ρ:au}{x:Str}:gK ρ (x,.free)=(ρ.lookup x).bind λt=>t.lf.map λd=>(x,.af d):=by
 unfold gK
 cases ρ.lookup x with
 | none=>rfl
 | some t=>cases t<;>rfl
theorem jl {ρ:au}{x:Str}:gK ρ (x,.local)=none:=rfl
theorem Cg {ρ:au}{x:Str}:gK ρ (x,.cell)=none:=rfl
theorem mf {ρ:au}{x:Str}:gK ρ (x,.globalImplicit)=none:=rfl
theorem Ku {ρ:au}{y:Str}{k:NameKind}{p:Str×OT}{P:Prop}(h:gK ρ (y,k)=some p) (g:∀ d,k=.free→ρ.lookup y=some (.af d)→p=(y,.af d)→P):P:=by
 cases k with
 | free=>exact bJ (jD▸h) λt h1 h2=>mv (λd h3 h4=>g d rfl (lh h3▸h1) h4.symm) h2
 | _=>exact bR h
theorem Q0 {ρ:au}{x:Str}{t:OT}:∀ {l:List (Str×NameKind)},(l.filterMap (gK ρ)).lookup x=some t→∃ d,t=.af d∧(x,cq)∈l∧ρ.lookup x=some t
 | [],h=>nomatch h
 | (y,k)::r,h=>
  have g:(r.filterMap (gK ρ)).lookup x=some t→∃ d,t=.af d∧(x,cq)∈(y,k)::r∧ρ.lookup x=some t:=λh=>iw (Q0 h) λd h1 h2 h3=>⟨d,h1,.tail _ h2,h3⟩
  kC (gK ρ (y,k)) (λe=>g (List.filterMap_cons_none e▸h)) λp e=>by
   rw[List.filterMap_cons_some e] at h
   refine Ku e λd hk hl hp=>?_
   rw[hp] at h
   by_cases q:x=y
   ·rw[q,lookup_cons_self] at h
    exact⟨d,(ai h).symm,q▸hk▸.head _,q▸hl.trans h⟩
   ·exact g (oU q▸h)
theorem QH {sc:Scope}{ρ:au}{x:Str}{t:OT}(h:(seen sc ρ).lookup x=some t):∃ d,t=.af d∧(x,cq)∈sc.names∧ρ.lookup x=some t:=Q0 h
end
section
variable {prog:Program}{w:World}
structure rO (prog:Program) (w:World) (H₀:Heap) (O:Addr→Prop) (own:Bool) (out:List DV) (s:Shared) (acc C:Addr) (s':Shared):Prop where
 kp:Kp s s'
 oq:s.heap.get? acc=none
 fC:s.heap.get? C=none
 ne:C≠acc
 ns:∃ m,s'.heap.Ns C m
 val:∃ ys as,s'.heap.PlainList acc ys.toArray∧aM prog w s'.heap (Oa O acc as) ys (out.map (iQ own)) as∧(∀ a∈as,s.heap.get? a=none)∧as.Nodup∧acc∉as∧C∉as∧∀ a∈as,∃ o,s'.heap.get? a=some o
section
variable {A:Around}{E:Value→Shared→Prop}{s:Shared}{env:Env}{sc:Scope}{H₀:Heap}{O:Addr→Prop}{ρ:au}{n:Nat}{C:ey}{own:Bool}
theorem X5 {sc cB:Scope}(h:(cB.names.all λp=>(p.2 != .free||sc.names.lookup p.1==some .cell||sc.names.lookup p.1==some .free)&&cB.names.lookup p.1==some p.2&&p.2 != .globalExplicit)=true) :
  ∀ p∈cB.names,(p.2=.free→sc.names.lookup p.1=some .cell∨sc.names.lookup p.1=some .free)∧cB.names.lookup p.1=some p.2:=λp hp=>
 have z:=gI (aA.mp h p hp)
 ⟨λq=>(cU.mp z.1.1).elim (λy=>(cU.mp y).elim (λy=>absurd q (bne_iff_ne.mp y)) λy=>.inl (eq_of_beq y)) λy=>.inr (eq_of_beq y),eq_of_beq z.1.2⟩
theorem Qa {env:Env}{sc:Scope}:∀ {l:List Comprehension},z6 sc sc l=true→∀ g∈l,g.is_async=0∧∀ x,foldedSetIterable g.iter env x=pure x
 | ⟨_,_,_,_⟩::_,hw,_,hg=>have hw:=xG hw
  (aC.mp hg).elim (λq=>q▸⟨hw.1.1.2,Gw hw.1.2 _⟩) (Qa hw.2 _)
theorem OC (e:nR env sc) (X:dS prog w H₀ O env ρ s.heap){x:Str}{t:OT}(hx:sc.names.lookup x=some .cell∨sc.names.lookup x=some .free) (ht:ρ.lookup x=some t):dunder x=false∧∃ c v as,env.cells.lookup x=some c∧s.heap.IsCell c (some v)∧bf prog w s.heap O v t as:=
 zU (X.vars x t ht) λh1 v as V r Z=>V.elim (λq=>(hx.elim (λz=>.inl (e.lc x z)) (e.lf x):env.kindOf x=some .cell∨env.kindOf x=some .free).elim (λz=>nomatch q.1.symm.trans z) λz=>nomatch q.1.symm.trans z)
  λq=>aT q.2 λc hc lP=>⟨h1,c,v,as,hc,lP,r⟩
theorem Oa.nil {acc b:Addr}{P:Prop}(h:Oa O acc [] b) (k1:O b→P) (k2:b=acc→P):P:=h.elim k1 λq=>q.elim k2 nofun
theorem Vh (cx:Cx prog n A env sc){cB:Scope}(hn:∀ p∈cB.names,(p.2=.free→sc.names.lookup p.1=some .cell∨sc.names.lookup p.1=some .free)∧cB.names.lookup p.1=some p.2) (X:dS prog w H₀ O env ρ s.heap)
  {bH:Env}{W:List Addr}{acc:Addr}{s₄:Shared}(Ec:nR bH cB) (F:oK bH cB W s₄.heap) (kk:Kp s s₄) (oq:s.heap.get? acc=none) (EO:s₄.heap.PlainList acc #[]) (oC:acc∉W) (hW:∀ a∈W,s.heap.get? a=none)
  (uk:∀ x c,cB.names.lookup x=some .free→env.cells.lookup x=some c→bH.cells.lookup x=some c):CC prog n A H₀ O bH cB W acc s∧CI prog w H₀ O bH cB W acc s (seen cB ρ) [] [] s₄:=by
 have X₄:=X.dP.keeps kk.fn
 have HI:Hid H₀ (Oa O acc []) s₄.heap:=⟨X₄.up,λa q=>q.nil (X.dP.new a) λq=>kC (H₀.get? a) id λo z=>fH oq (q▸X.dP.up a o z),λa q=>q.nil (X₄.alive a) λq=>EO.elim λZ e=>q▸⟨_,e⟩⟩
 have T:Tr s.heap O s₄.heap (Oa O acc []):=λb o hO e hs=>⟨kk.get e,λq=>q.nil hO λq=>fH oq (q▸e)⟩
 exact⟨⟨⟨cx.room,cx.lQ,Ec⟩,oC,λa ha=>ha.elim (λq=>q▸oq) (hW a),X.dP⟩,
  ⟨⟨HI,λx t hx=>iw (QH hx) λd et hm hl=>PO (OC cx.env X ((hn _ hm).1 rfl) hl) λhd c v as hc lP r=>
   have RA:cB.names.lookup x=some .free:=(hn _ hm).2
   ⟨hd,v,[],.inr ⟨Ec.lf x RA,c,uk x c RA hc,lP.keeps kk.fn⟩,et▸.af ((et▸r).cG.tr T),nofun⟩⟩,λx t hx=>aT (QH hx) λd h Z=>⟨d,h⟩,kk,F,⟨[],EO,.nil⟩,nofun,.nil⟩⟩
theorem I9 (cx:Cx prog n A env sc){elt t it:Expr}{ifs:List Expr}{a:Int}{gs:List Comprehension}{cB:Scope}{pos:Pos}(wf:dY sc (.ListComp elt (⟨t,it,ifs,a⟩::gs) cB pos)=true)
  (nK:oZ prog w H₀ n C it) (pK:∀ e∈ifs,SB prog w H₀ n C e) (tB:∀ g∈gs,oZ prog w H₀ n C g.iter∧∀ e∈g.ifs,SB prog w H₀ n C e) (he:SE prog w H₀ n C elt) (hf:own=true→bo elt=true)
  (X:dS prog w H₀ O env ρ s.heap) (lO:(cB.names.all λp=>p.2 != .free||(ρ.lookup p.1).isSome)=true){out:List DV}
  (h:fU C (⟨t,it,ifs,a⟩::gs) ρ (seen cB ρ) (λρ'=>(ev C elt ρ').bind λt=>t.lf.bind λd=>some [d])=some out) (hc:out.length≤bh) (jX:own=true→∀ d∈out,∃ l,d=.list l)
  {RR:Value→Addr→Result→Shared→Prop}(fin:∀ acc Cc s',rO prog w H₀ O own out s acc Cc s'→RR (.ref acc) Cc (.ok .next) s') :
  a=0∧(∀ x,foldedSetIterable it env x=pure x)∧closureFor cB env=pure (jJ env cB.names [])∧cB.kind=.function∧(∀ x∈cB.names,x.2=.local→cB.names.lookup x.1=some .local) ∧
  wpAny (model prog w) A (eval it env) (λx s₁=>wpAny (model prog w) A (pyIter x) (λG9 s₂=>wpAny (model prog w) A (newList []) (λacc s₃=>
   wpAny (model prog w) A (newFunctionEnv cB env.globals (jJ env cB.names []) [] env.qual none .none (some env)) (λbH s₄=>
    codeAny (model prog w) A (.compStart (.ListComp elt (⟨t,it,ifs,a⟩::gs) cB pos) 0 G9 acc { bH with scope:=relabel cB env }) (RR acc bH.locals) s₄) E s₃) E s₂) E s₁) E s:=by
 have wf:=a6 wf
 have BU:=wf.2
 have wf:=a6 wf.1
 have uK:=xG wf.2
 have wf:=a6 wf.1
 have w4:=uK.1.1.2
 subst w4
 have hk:cB.kind=.function:=OR (a6 wf.1).1
 have hn:∀ p∈cB.names,(p.2=.free→sc.names.lookup p.1=some .cell∨sc.names.lookup p.1=some .free)∧cB.names.lookup p.1=some p.2:=X5 wf.2
 have frees:∀ p∈cB.names,p.2=.free→∃ c v,env.cells.lookup p.1=some c∧s.heap.IsCell c v:=λp hp hf=>by
  have:=aA.mp lO p hp
  rw[hf] at this
  exact(dp.mp this).elim λt' ht=>PO (OC cx.env X ((hn p hp).1 hf) ht) λZ c v Z h1 h2 Z=>⟨c,_,h1,h2⟩
 refine⟨rfl,Gw uK.1.2 env,y5l λp hp hf=>mZ (frees p hp hf) λc v h1 Z=>⟨c,h1⟩,hk,λx hx hl=>(hn x hx).2.trans (congrArg some hl),?_⟩
 refine bJ h λitems h1 h2=>wm (nK cx uK.1.1.1.1.1 X h1 (IZ uK.1.2)) λx s₁ q=>wm q λG9 s₂ q=>?_
 clear h
 refine sJ q λk₂ I fp wr ei oX km mk=>?_
 subst ei
 refine wpAny_newList ?_ (fh _)
 have k₃:Kp s₂ { s₂ with heap:=s₂.heap.push { cls:=.type "list",data:=.seq ([]:List Value).toArray } }:=Kp.push _ _
 refine ZA cx.env hk hn (λp hp hf=>mZ (frees p hp hf) λc v h1 h2=>⟨c,v,h1,h2.keeps (k₂.tr k₃).fn⟩) λbH W s₄ Ec F k₄ hW uk=>?_
 have nh:=k₃.tr k₄
 have yT:s₂.heap.get? s₂.heap.objs.size=none:=qZ _
 have W2:∀ b∈W,s₂.heap.get? b=none:=λb hb=>k₃.gone (hW b hb)
 have oC:s₂.heap.objs.size∉W:=λq=>fH (hW _ q) (bK _ rfl)
 refine dJ (Vh cx hn X Ec F (k₂.tr nh) (k₂.gone yT) ⟨0,k₄.get (bK _ rfl)⟩ oC (λa q=>k₂.gone (W2 a q)) uk) λcc ci=>?_
 refine aT (mk (λb=>Oa O s₂.heap.objs.size [] b∨s₄.heap.get? b=none) λb q=>q.elim (λq=>q.nil .inl λq=>.inr (q▸yT)) λq=>.inr (nh.gone q)) λSt S st=>?_
 have qf:St 0 s₄.heap:=S.frame 0 _ _ st λb o e Z=>nh.get e
 have yv:∀ b∈fp,b≠s₂.heap.objs.size∧b∉W:=λb hb=>
  ((km b hb).elim (S.alive st b) λq=>aT q λo e Z=>⟨o,e⟩).elim λo e=>⟨λz=>fH yT (z▸e),λz=>fH (W2 b z) e⟩
 have EN:∀ g∈(⟨t,it,ifs,0⟩::gs:List Comprehension),g.is_async=0∧∀ x,foldedSetIterable g.iter { bH with scope:=relabel cB env } x=pure x:=λg hg=>(aC.mp hg).elim (λq=>q▸⟨rfl,Gw uK.1.2 _⟩) (Qa uK.2 g)
 have L:=codeAny_mono (Pc (C:=C) (own:=own) cc (k:=0) (elt:=elt) (pos:=pos) (gens:=⟨t,it,ifs,0⟩::gs) rfl EN pK uK.1.1.1.1.2 uK.1.1.1.2 (λρ'=>fU C gs ρ' ρ' (λρ'=>(ev C elt ρ').bind λt=>t.lf.bind λd=>some [d]))
  (λ{ρ' ts as s out} ci hK hl hw=>Tt cc EN he BU hf gs 1 rfl tB uK.2 ci hK hl hw) S ci rfl qf yv (λb hb=>⟨oX b hb,nofun⟩) h2 ((aX _).symm▸hc) jX) λr s' q=>(q.1▸q.2.elim λgw q=>aT q.1.mD λys hl hr=>fin _ _ _ ⟨q.1.kp,cc.fresh _ (.inl rfl),cc.fresh _ (.inr F.loc),λq=>oC (q▸F.loc),q.1.ie.ns,
   ys,gw,hl,hr,λa ha=>(q.1.fresh a ha).1,q.1.nodup,λz=>(q.1.fresh _ z).2.2 rfl,λz=>(q.1.fresh _ z).2.1 F.loc,λa ha=>q.1.iI.dP.alive a (.inr (.inr ha))⟩:RR (.ref s₂.heap.objs.size) bH.locals r s')
 exact Qu (gens:=⟨t,it,ifs,0⟩::gs) rfl rfl L (S.self 0 _ _ _ qf L)
end
end
section
variable {prog:Program}{w:World}
section
variable {mg mb:Str→Option Value}{A:Around}{E:Value→Shared→Prop}{s:Shared}{env:Env}{sc:Scope}{H₀:Heap}{O:Addr→Prop}{ρ:au}{n:Nat}{C:ey}{own:Bool}
theorem rO.gone {out:List DV}{acc Cc:Addr}{s':Shared}(x:rO prog w H₀ O own out s acc Cc s'){h':Heap}{tk:Nat}(hs:dO Cc s'.heap h') :
  Kp s { s' with heap:=h',toks:=tk }∧∃ ys as,h'.PlainList acc ys.toArray∧aM prog w h' (Oa O acc as) ys (out.map (iQ own)) as∧(∀ a∈as,s.heap.get? a=none)∧as.Nodup∧acc∉as∧∀ a∈as,∃ o,h'.get? a=some o:=by
 exact x.ns.elim λm hn=>QA x.val λys as hl hr h1 h2 h3 h4 h5=>⟨⟨iB x.kp.same λh t e=>⟨h',tk,by rw[e]⟩,λ{b o} e=>(hs.2 b λq=>fH x.fC (q▸e)).trans (x.kp.get e)⟩,ys,as,hl.at (λo e=>(hs.2 acc λq=>x.ne q.symm).trans e),
  hr.tr (λa o hO e Dl=>⟨(hs.2 a λq=>zV hn λo' es ep ho hd Z=>zX hd (ai (e.symm.trans (q▸ho))▸Dl)).trans e,hO⟩) (λa ha o e=>(hs.2 a λq=>h4 (q▸ha)).trans e),h1,h2,h3,λa ha=>(h5 a ha).elim λo e=>⟨o,(hs.2 a λq=>h4 (q▸ha)).trans e⟩⟩
theorem rO.res {out:List DV}{acc Cc:Addr}{s':Shared}(hO:jB O s.heap) (x:rO prog w H₀ O false out s acc Cc s'){h':Heap}(hs:dO Cc s'.heap h') :
  Res s O true (.list out) (.ref acc) { s' with heap:=h' }:=by
 refine Qz (x.gone (tk:=s'.toks) hs) λk ys as hl hr h1 h2 h3 h4=>?_
 have e:out.map (iQ false)=out.map .af:=dC λd Z=>by cases d<;>rfl
 rw[e] at hr
 have r:=hr.fT
 exact⟨k,.list hl.isList (λq=>(hO acc q).elim λo e=>fH x.oq e) (r.tr λa o yy e Z=>⟨e,λq=>yy (.inl q)⟩),λZ ds q=>DV.list.inj q▸⟨acc,ys,rfl,x.oq,hl,r.tr λa o yy e Z=>⟨e,λq=>yy (q.elim .inl λz=>.inr (.inl z))⟩⟩⟩
theorem Wf {elt t it:Expr}{ifs:List Expr}{a:Int}{gs:List Comprehension}{cB:Scope}{pos:Pos}(nK:oZ prog w H₀ n C it) (pK:∀ e∈ifs,SB prog w H₀ n C e)
  (tB:∀ g∈gs,oZ prog w H₀ n C g.iter∧∀ e∈g.ifs,SB prog w H₀ n C e) (he:SE prog w H₀ n C elt):SE prog w H₀ n C (.ListComp elt (⟨t,it,ifs,a⟩::gs) cB pos):=λ{env sc ρ t' A O s E} cx wf st h=>by
 refine gg h λlO h=>bJ h λout h1 h=>gg h λhc h2=>ai h2▸?_
 refine tY (I9 (own:=false) (E:=E) (RR:=λacc C=>compPost (model prog w) A E none (PE prog w s O true (.af (.list out))) acc C) cx wf nK pK tB he nofun st lO h1 hc nofun λacc Cc s' x=>x.ns.elim λm hn=>⟨m,hn,λh' hs=>PE.of (x.res st.dP.alive hs)⟩)
  λe h3 h4 h5 h6 h7=>?_
 subst e
 rw[eval_ListComp]
 exact wpAny_comprehension_free (use:=none) rfl h3 h4 h5 h6 h7
theorem Wc:EV prog w H₀ n C []:=λ{env sc ρ c A O s E op} cx wf st h=>by
 cases op with
 | And=>obtain rfl:=ai h;exact wpAny_allTrue_And_nil ⟨rfl,Kp.rf _⟩
 | Or=>obtain rfl:=ai h;exact wpAny_allTrue_Or_nil ⟨rfl,Kp.rf _⟩
theorem YB {e:Expr}{es:List Expr}(he:SB prog w H₀ n C e) (kq:EV prog w H₀ n C es):EV prog w H₀ n C (e::es):=λ{env sc ρ c A O s E op} cx wf st h=>by
 have wf:=a6 wf
 cases op with
 | And=>
  refine bJ h λb h1 h2=>wpAny_allTrue_And_cons (wm (he cx wf.1 st h1) λb' s₁ q=>?_)
  have e:=q.1
  subst e
  cases b' with
  | true=>exact wm (kq cx wf.2 (st.kp q.2) h2) λZ Z z=>⟨z.1,q.2.tr z.2⟩
  | false=>exact⟨ai h2,q.2⟩
 | Or=>
  refine bJ h λb h1 h2=>wpAny_allTrue_Or_cons (wm (he cx wf.1 st h1) λb' s₁ q=>?_)
  have e:=q.1
  subst e
  cases b' with
  | true=>exact⟨ai h2,q.2⟩
  | false=>exact wm (kq cx wf.2 (st.kp q.2) h2) λZ Z z=>⟨z.1,q.2.tr z.2⟩
theorem Wb {op:BoolOp}{es:List Expr}{p:Pos}(kq:EV prog w H₀ n C es):SB prog w H₀ n C (.BoolOp op es p):=λ{env sc ρ c A O s E} cx wf st h=>
 wpAny_isTrue_BoolOp (kq cx wf st h)
theorem ZY {K:Type} [DecidableEq K] {knd:HeapKind prog w K}{d a:Addr}{k:K}{xs:List (K×Addr×Value)}{Q:Value→Shared→Prop}(hu:knd.room A.in1) (LK:knd.is s.heap k a) (hd:(d==sysModules)=false) (hm:s.heap.DictOfH knd d xs)
  (h:Q (.bool (!(atKey xs k).isSome)) { s with toks:=s.toks+knd.draws k }):wpAny (model prog w) A (compareOp .NotIn (.ref a) (.ref d)) Q E s:=by
 refine wpAny_bind ?_
 unfold contains
 try with_reducible refine wpAny_holding ?_
 refine wpAny_bind (wpAny_specialOf hm.typeIs slot_dict_contains.lookup ?_)
 rw[if_neg (by rw[beq_builtin_none];exact kx)]
 refine wpAny_bind (wpAny_callSpecialUnlessNone?_slot (name:=ae "__contains__") hm.typeIs slot_dict_contains (wpAny_call_entry slot_dict_contains hm.typeIs entry_dict_contains ?_ (args_dict_contains _ _)))
 show wpAny _ _ (dictGet d (.ref a) >>= _) _ _ s
 refine wpAny_bind (wpAny_dictGet_heap hu LK hm ?_)
 cases hf:atKey xs k with
 | some p=>rw[hf] at h;exact wpAny_pure ⟨_,rfl,wpAny_truthy_bool (wpAny_pure h)⟩
 | none=>
  rw[hf] at h
  exact wpAny_bind (wpAny_pendingKey_other hd (wpAny_pure ⟨_,rfl,wpAny_truthy_bool (wpAny_pure h)⟩))
theorem Qw {h:Heap}{O:Addr→Prop}{vs:List Value}{ds:List DV}{ns:List Int}(r:bC h O vs ds) (h1:fi ds=some ns):ItemsAre (intKind prog w) ns vs:=
 r.ind (Q:=λv d=>∀ ns:List Int,d=ns.map .int→ItemsAre (intKind prog w) ns v) (λns e=>j3.mp e.symm▸.nil)
  (λ{_ vs _ _} r Z q ns e=>nW (gh.mp e.symm) λn xY h1 h2 h3=>h1▸(h2▸r).eU (Q:=λv=>ItemsAre (intKind prog w) (n::xY) (v::vs)) λt=>.cons (by simp[intKind,Value.isInt]) (q _ h3.symm)) ns (GD h1)
theorem mQ {K:Type} [DecidableEq K] {xs:List (K×Addr×Value)}{k:K}:(atKey xs k).isSome=true↔k∈xs.map (·.1):=by
 unfold atKey
 rw[Option.isSome_map,List.find?_isSome,aE]
 simp only[decide_eq_true_eq]
theorem YA (G:GW H₀ mg mb){l:Expr}{x:Str}(hl:SE prog w H₀ n C l) (p p':Pos){env sc ρ A O s E c ds ks ns}(cx:Cx prog n A env sc) (wf:dY sc (.Compare l [.NotIn] [.Name x p] p')=true) (st:dS prog w H₀ O env ρ s.heap)
  (h1:ev C l ρ=some (.af (.tup ds))) (h2:ρ.lookup x=some (.fI ks)) (h3:fi ds=some ns) (h4:c=!ks.contains ns) :
  wpAny (model prog w) A (isTrue (.Compare l [.NotIn] [.Name x p] p') env (eval (.Compare l [.NotIn] [.Name x p] p') env)) (λb s'=>b=c∧Kp s s') E s:=by
 have wf:=a6 wf
 refine wpAny_isTrue_Compare1 (wm (hl cx wf.1 st h1) λva s₁ p1=>zU ((st.kp p1.keeps).vars x _ h2) λhd v as V r hH=>iw r.Ez λd ev ea K=>pj cx.env.kind hd V ?_) rfl
 subst ev ea
 refine Rep.iy (Q:=λva=>wpAny (model prog w) A (compareOp .NotIn va _) _ E s₁) p1.gU λa vs ht Z rs=>iw K λxs hm hk Z=>rQ ht λo e1 e2 n' e3=>?_
 refine ZY (knd:=tupleKind (intKind prog w)) (k:=ns) (xs:=xs) ?_ ⟨o,_,n',e1,e2,e3,Qw rs h3⟩ (beq_eq_false_iff_ne.mpr λq=>G.mods.elim λo e=>fH (hH _ (.head _)) (q▸e)) hm ?_
 ·have:=cx.room.units
  exact Nr _ _ this
 ·exact wpAny_truthy_bool ⟨by rw[h4,←hk];exact congrArg (!·) (Bool.eq_iff_iff.mpr (mQ.trans dX.symm)),p1.keeps.tr (Kp.tok _ _)⟩
end
end
section
variable {prog:Program}{w:World}
section
variable {H₀:Heap}{mg mb:Str→Option Value}{n:Nat}{C:ey}
theorem uB {e:Expr}(h:∀ ρ,ev C e ρ=none):SE prog w H₀ n C e:=λ{env sc ρ t A O s E} cx wf st q=>by rw[h] at q;exact bR q
theorem tW {e:Expr}(h:∀ ρ,fx C e ρ=none):SB prog w H₀ n C e:=λ{env sc ρ t A O s E} cx wf st q=>by rw[h] at q;exact bR q
theorem Bf {e:Expr}(h:∀ ρ,eJ C e ρ=none):oZ prog w H₀ n C e:=λ{env sc ρ t A O s E tg} cx wf st q=>by rw[h] at q;exact bR q
theorem ZZ (G:GW H₀ mg mb){l r:Expr}(hl:SE prog w H₀ n C l) (hr:SE prog w H₀ n C r) (op:CmpOp) (p:Pos):SB prog w H₀ n C (.Compare l [op] [r] p):=λ{env sc ρ c A O s E} cx wf st h=>by
 have plain:((ev C l ρ).bind λa=>a.lf.bind λa=>(ev C r ρ).bind λb=>b.lf.bind λb=>jy op a b)=some c→wpAny (model prog w) A (isTrue (.Compare l [op] [r] p) env (eval (.Compare l [op] [r] p) env)) (λb s'=>b=c∧Kp s s') E s:=λh=>by
  revert h
  refine bl λa h1=>bl λb h3 h5=>?_
  exact TR hl hr op p cx (F1 wf).1 (F1 wf).2 st h1 rfl h3 rfl h5
 cases op<;>first | exact plain h | skip
 revert h
 refine bl λa h1=>bv λx h3=>bv λt h4 h5=>?_
 obtain⟨q,rfl⟩:=oR h3
 cases a<;>first | exact bR h5 | skip
 cases t<;>first | exact bR h5 | skip
 refine aT (aJ.mp h5) λns h6 h7=>?_
 exact YA G hl q p cx wf st h1 h4 h6 (ai h7).symm
theorem XM (c:Const) (k:Nat) (p:Pos):SE prog w H₀ n C (.Constant c k p):=by
 cases c<;>first | exact Uj _ k p | exact Wj k p | exact Wd _ k p | exact uB λZ=>rfl
theorem Cj {e:Expr}(he:SE prog w H₀ n C e) (op:UnaryOp) (p:Pos):SE prog w H₀ n C (.UnaryOp op e p):=by
 cases op<;>first | exact Uk he p | exact uB λZ=>rfl
theorem Z0 (G:GW H₀ mg mb) (hC:bk prog w H₀ mg n C){es:List Expr}(kq:pT prog w H₀ n C es) (f:Expr) (kw:List Keyword) (p:Pos):SE prog w H₀ n C (.Call f es kw p):=λ{env sc ρ t A O s E} cx wf st h=>bJ h λx hx h=>by
 obtain⟨q,rfl⟩:=oR hx
 cases kw with
 | nil=>exact We G hC kq q p cx wf st h
 | cons _ _=>exact bR h
theorem Zm {l:Expr}{rs:List Expr}(hl:SE prog w H₀ n C l) (Dr:∀ e∈rs,SE prog w H₀ n C e) (gE:List CmpOp) (p:Pos):SE prog w H₀ n C (.Compare l gE rs p):=by
 cases gE with
 | nil=>exact uB λZ=>rfl
 | cons op gE=>
  cases gE with
  | cons _ _=>exact uB λZ=>rfl
  | nil=>
   cases rs with
   | nil=>exact uB λZ=>rfl
   | cons r rs=>
    cases rs with
    | cons _ _=>exact uB λZ=>rfl
    | nil=>exact Ui hl (Dr r (.head _)) op p
theorem Zl (G:GW H₀ mg mb){l:Expr}{rs:List Expr}(hl:SE prog w H₀ n C l) (Dr:∀ e∈rs,SE prog w H₀ n C e) (gE:List CmpOp) (p:Pos):SB prog w H₀ n C (.Compare l gE rs p):=by
 cases gE with
 | nil=>exact tW λZ=>rfl
 | cons op gE=>
  cases gE with
  | cons _ _=>exact tW λZ=>rfl
  | nil=>
   cases rs with
   | nil=>exact tW λZ=>rfl
   | cons r rs=>
    cases rs with
    | cons _ _=>exact tW λZ=>rfl
    | nil=>exact ZZ G hl (Dr r (.head _)) op p
theorem YC (elt:Expr) (cB:Scope) (p:Pos):SE prog w H₀ n C (.ListComp elt [] cB p):=by
 intro env sc ρ t A O s E cx wf
 exact lN (a6 (a6 (a6 (a6 wf).1).1).1).2
theorem y6G (G:GW H₀ mg mb) (hC:bk prog w H₀ mg n C){es:List Expr}(kq:∀ e∈es,SE prog w H₀ n C e) (f:Expr) (kw:List Keyword) (p:Pos):oZ prog w H₀ n C (.Call f es kw p):=λ{env sc ρ ds A O s E tg} cx wf st h uh=>by
 cases kw with
 | cons _ _=>exact bJ h λZ Z h=>bR h
 | nil=>
  cases es with
  | nil=>exact bJ h λZ Z h=>bR h
  | cons a es=>
   cases es with
   | nil=>
    refine bJ h λx hx h=>?_
    obtain⟨q,rfl⟩:=oR hx
    exact Zn G hC (kq a (.head _)) q p cx wf st h uh
   | cons b es=>
    cases es with
    | nil=>
     refine bJ h λx hx h=>?_
     obtain⟨q,rfl⟩:=oR hx
     exact Zo G (kq a (.head _)) (kq b (.tail _ (.head _))) q p cx wf st h uh
    | cons _ _=>exact bJ h λZ Z h=>bR h
theorem Be {es:List Expr}(h:∀ e∈es,SE prog w H₀ n C e):pT prog w H₀ n C es:=by
 induction es with
 | nil=>exact O5
 | cons e es ih=>exact JD (h e (.head _)) (ih λx hx=>h x (.tail _ hx))
theorem Ug {es:List Expr}(h:∀ e∈es,SB prog w H₀ n C e):EV prog w H₀ n C es:=by
 induction es with
 | nil=>exact Wc
 | cons e es ih=>exact YB (h e (.head _)) (ih λx hx=>h x (.tail _ hx))
theorem ID {o:Option Expr}(h:∀ e,o=some e→SE prog w H₀ n C e):SO prog w H₀ n C o:=by
 cases o with
 | none=>exact Wq
 | some e=>exact Wr (h e rfl)
variable (prog w H₀ n C) in
structure k9 (e:Expr):Prop where
 se:SE prog w H₀ n C e
 sb:SB prog w H₀ n C e
 G1:oZ prog w H₀ n C e
 sl:∀ a b c p',e=.Slice a b c p'→SO prog w H₀ n C a∧SO prog w H₀ n C b∧SO prog w H₀ n C c
noncomputable def yi:Expr→Bool
 | .Slice ..=>true
 | _=>false
theorem xh {e:Expr}(h:yi e=false){P:Option Expr→Option Expr→Option Expr→Prop}:∀ a b c p',e=.Slice a b c p'→P a b c:=λZ Z Z Z q=>by
 rw[q] at h;exact Bool.noConfusion h
theorem xm {e:Expr}(se:SE prog w H₀ n C e) (hb:∀ ρ,fx C e ρ=none) (hi:∀ ρ,eJ C e ρ=none) (hs:yi e=false):k9 prog w H₀ n C e:=⟨se,tW hb,Bf hi,xh (P:=λa b c=>SO prog w H₀ n C a∧SO prog w H₀ n C b∧SO prog w H₀ n C c) hs⟩
theorem qa {e:Expr}(he:∀ ρ,ev C e ρ=none) (hb:∀ ρ,fx C e ρ=none) (hi:∀ ρ,eJ C e ρ=none) (hs:yi e=false):k9 prog w H₀ n C e:=xm (uB he) hb hi hs
theorem Uz {v i:Expr}(hv:k9 prog w H₀ n C v) (hi:k9 prog w H₀ n C i) (p:Pos):k9 prog w H₀ n C (.Subscript v i p):=by
 refine⟨?_,tW λZ=>rfl,?_,xh (P:=λa b c=>SO prog w H₀ n C a∧SO prog w H₀ n C b∧SO prog w H₀ n C c) rfl⟩
 ·by_cases q:∃ a b c p',i=.Slice a b c p'
  ·obtain⟨a,b,c,p',rfl⟩:=q
   have h:=hi.sl a b c p' rfl
   exact XO hv.se h.1 h.2.1 h.2.2 p p'
  ·exact Wg hv.se hi.se (λa b c p' h=>q ⟨a,b,c,p',h⟩) p
 ·by_cases q:∃ a b c p',i=.Slice a b c p'
  ·obtain⟨a,b,c,p',rfl⟩:=q
   have h:=hi.sl a b c p' rfl
   exact Zq hv.se h.1 h.2.1 h.2.2 p p'
  ·refine Bf λZ=>?_
   cases i<;>first | rfl | exact absurd ⟨_,_,_,_,rfl⟩ q
theorem WR {elt:Expr}{gs:List Comprehension}(G:GW H₀ mg mb) (he:k9 prog w H₀ n C elt) (hg:∀ g∈gs,k9 prog w H₀ n C g.iter∧∀ e∈g.ifs,k9 prog w H₀ n C e) (cB:Scope) (p:Pos):SE prog w H₀ n C (.ListComp elt gs cB p):=by
 cases gs with
 | nil=>exact YC elt cB p
 | cons g gs=>
  have h:=hg g (.head _)
  obtain⟨t,it,ifs,a⟩:=g
  exact λ{env sc ρ t' A O s E} cx wf st h'=>Wf h.1.G1 (λe q=>(h.2 e q).sb) (λg' q=>⟨(hg g' (.tail _ q)).1.G1,λe z=>((hg g' (.tail _ q)).2 e z).sb⟩) he.se cx wf st h'
mutual
theorem nT (G:GW H₀ mg mb) (hC:bk prog w H₀ mg n C):∀ e:Expr,k9 prog w H₀ n C e
 | .Constant c k p=>xm (XM c k p) (λZ=>rfl) (λZ=>rfl) rfl
 | .Name x p=>⟨Wi G x p,tW λZ=>rfl,XT x p,xh (P:=λa b c=>SO prog w H₀ n C a∧SO prog w H₀ n C b∧SO prog w H₀ n C c) rfl⟩
 | .BinOp l op r p=>xm (Uh G (nT G hC l).se (nT G hC r).se op p) (λZ=>rfl) (λZ=>rfl) rfl
 | .UnaryOp op e p=>xm (Cj (nT G hC e).se op p) (λZ=>rfl) (λZ=>rfl) rfl
 | .IfExp a b c p=>xm (XN (nT G hC a).sb (nT G hC b).se (nT G hC c).se p) (λZ=>rfl) (λZ=>rfl) rfl
 | .Compare l gE rs p=>⟨Zm (nT G hC l).se (λe q=>(fV G hC rs e q).se) gE p,Zl G (nT G hC l).se (λe q=>(fV G hC rs e q).se) gE p,Bf λZ=>rfl,xh (P:=λa b c=>SO prog w H₀ n C a∧SO prog w H₀ n C b∧SO prog w H₀ n C c) rfl⟩
 | .Call f es kw p=>⟨Z0 G hC (Be λe q=>(fV G hC es e q).se) f kw p,tW λZ=>rfl,y6G G hC (λe q=>(fV G hC es e q).se) f kw p,xh (P:=λa b c=>SO prog w H₀ n C a∧SO prog w H₀ n C b∧SO prog w H₀ n C c) rfl⟩
 | .Subscript v i p=>Uz (nT G hC v) (nT G hC i) p
 | .List es p=>xm (Wh (Be λe q=>(fV G hC es e q).se) p) (λZ=>rfl) (λZ=>rfl) rfl
 | .Tuple es k p=>⟨PX (Be λe q=>(fV G hC es e q).se) k p,tW λZ=>rfl,Zr (Be λe q=>(fV G hC es e q).se) k p,xh (P:=λa b c=>SO prog w H₀ n C a∧SO prog w H₀ n C b∧SO prog w H₀ n C c) rfl⟩
 | .ListComp elt gs sc p=>xm (WR G (nT G hC elt) (nA G hC gs) sc p) (λZ=>rfl) (λZ=>rfl) rfl
 | .BoolOp op es p=>⟨uB λZ=>rfl,Wb (Ug λe q=>(fV G hC es e q).sb),Bf λZ=>rfl,xh (P:=λa b c=>SO prog w H₀ n C a∧SO prog w H₀ n C b∧SO prog w H₀ n C c) rfl⟩
 | .Slice a b c p=>⟨uB λZ=>rfl,tW λZ=>rfl,Bf λZ=>rfl,λZ Z Z Z q=>by cases q;exact⟨ID (tN G hC a),ID (tN G hC b),ID (tN G hC c)⟩⟩
 | .NamedExpr ..=>qa (λZ=>rfl) (λZ=>rfl) (λZ=>rfl) rfl
 | .Lambda ..=>qa (λZ=>rfl) (λZ=>rfl) (λZ=>rfl) rfl
 | .Dict ..=>qa (λZ=>rfl) (λZ=>rfl) (λZ=>rfl) rfl
 | .Set ..=>qa (λZ=>rfl) (λZ=>rfl) (λZ=>rfl) rfl
 | .SetComp ..=>qa (λZ=>rfl) (λZ=>rfl) (λZ=>rfl) rfl
 | .DictComp ..=>qa (λZ=>rfl) (λZ=>rfl) (λZ=>rfl) rfl
 | .GeneratorExp ..=>qa (λZ=>rfl) (λZ=>rfl) (λZ=>rfl) rfl
 | .Await ..=>qa (λZ=>rfl) (λZ=>rfl) (λZ=>rfl) rfl
 | .Yield ..=>qa (λZ=>rfl) (λZ=>rfl) (λZ=>rfl) rfl
 | .YieldFrom ..=>qa (λZ=>rfl) (λZ=>rfl) (λZ=>rfl) rfl
 | .FormattedValue ..=>qa (λZ=>rfl) (λZ=>rfl) (λZ=>rfl) rfl
 | .JoinedStr ..=>qa (λZ=>rfl) (λZ=>rfl) (λZ=>rfl) rfl
 | .Attribute ..=>qa (λZ=>rfl) (λZ=>rfl) (λZ=>rfl) rfl
 | .Starred ..=>qa (λZ=>rfl) (λZ=>rfl) (λZ=>rfl) rfl
theorem fV (G:GW H₀ mg mb) (hC:bk prog w H₀ mg n C):∀ es:List Expr,∀ e∈es,k9 prog w H₀ n C e
 | [],_,q=>nomatch q
 | e::es,x,q=>(aC.mp q).elim (λq=>q▸nT G hC e) (fV G hC es x)
theorem tN (G:GW H₀ mg mb) (hC:bk prog w H₀ mg n C):∀ (o:Option Expr) (e:Expr),o=some e→SE prog w H₀ n C e
 | none,_,q=>nomatch q
 | some e,x,q=>ai q▸(nT G hC e).se
theorem nA (G:GW H₀ mg mb) (hC:bk prog w H₀ mg n C):∀ gs:List Comprehension,∀ g∈gs,k9 prog w H₀ n C g.iter∧∀ e∈g.ifs,k9 prog w H₀ n C e
 | [],_,q=>nomatch q
 | ⟨t,it,ifs,a⟩::gs,g,q=>(aC.mp q).elim (λq=>q▸⟨nT G hC it,fV G hC ifs⟩) (nA G hC gs g)
end
theorem ph (G:GW H₀ mg mb) (hC:bk prog w H₀ mg n C) (e:Expr):SE prog w H₀ n C e:=(nT G hC e).se
theorem Ow (G:GW H₀ mg mb) (hC:bk prog w H₀ mg n C) (e:Expr):SB prog w H₀ n C e:=(nT G hC e).sb
theorem Jm (G:GW H₀ mg mb) (hC:bk prog w H₀ mg n C) (e:Expr):oZ prog w H₀ n C e:=(nT G hC e).G1
theorem Wk (G:GW H₀ mg mb) (hC:bk prog w H₀ mg n C) (es:List Expr):pT prog w H₀ n C es:=Be λe q=>(fV G hC es e q).se
theorem O4 (G:GW H₀ mg mb) (hC:bk prog w H₀ mg n C) (es:List Expr):∀ e∈es,SB prog w H₀ n C e:=λe q=>(fV G hC es e q).sb
theorem Ox (G:GW H₀ mg mb) (hC:bk prog w H₀ mg n C) (gs:List Comprehension):∀ g∈gs,oZ prog w H₀ n C g.iter∧∀ e∈g.ifs,SB prog w H₀ n C e:=λg q=>⟨(nA G hC gs g q).1.G1,λe z=>((nA G hC gs g q).2 e z).sb⟩
end
end
section
variable {prog:Program}{w:World}
structure Pv where
 v:Value
 t:OT
 as:List Addr
noncomputable def ly (P:List Pv):List Addr:=P.flatMap (·.as)
noncomputable def OW (F:Str→List Addr) (P:List Pv):Addr→Prop:=λb=>b∈ly P∨∃ x,b∈F x
noncomputable def HS (O₀:Addr→Prop) (F:Str→List Addr) (P:List Pv):Addr→Prop:=λb=>O₀ b∨OW F P b
structure SS (prog:Program) (w:World) (H₀:Heap) (O₀:Addr→Prop) (env:Env) (sc:Scope) (W:List Addr) (pr:List (Str×Value)) (ρ:au) (F:Str→List Addr) (P:List Pv) (s:Shared):Prop where
 dP:Hid H₀ (HS O₀ F P) s.heap
 vars:∀ x t,ρ.lookup x=some t→dunder x=false∧∃ v,bV env s.heap x v∧bf prog w s.heap (HS O₀ F P) v t (F x)
 out:∀ x,ρ.lookup x=none→F x=[]
 pend:∀ p∈P,bf prog w s.heap (HS O₀ F P) p.v p.t p.as
 nd:∀ x,(F x).Nodup
 pP:∀ x y a,a∈F x→a∈F y→x=y
 ub:(ly P).Nodup
 jm:∀ x a,a∈F x→a∉ly P
 off:∀ a,OW F P a→¬ O₀ a∧a∉W
 kP:∀ a∈W,H₀.get? a=none∧¬ O₀ a
 ie:oK env sc W s.heap
 par:∀ p∈pr,bV env s.heap p.1 p.2
structure Mv (W:List Addr) (F:Str→List Addr) (P:List Pv) (s:Shared) (F':Str→List Addr) (P':List Pv) (s':Shared):Prop where
 same:∃ h' tk,s'={ s with heap:=h',toks:=tk }
 get:∀ b o,b∉W→¬ OW F P b→s.heap.get? b=some o→s'.heap.get? b=some o
 new:∀ b,OW F' P' b→OW F P b∨s.heap.get? b=none
 al:Al s s'
noncomputable def j2 (prog:Program) (w:World) (H₀:Heap) (O₀:Addr→Prop) (env:Env) (sc:Scope) (W:List Addr) (pr:List (Str×Value)) (ρ:au) (P:List Pv) (F:Str→List Addr) (s s':Shared):Prop:=∃ F',SS prog w H₀ O₀ env sc W pr ρ F' P s'∧Mv W F P s F' P s'
noncomputable def oD (prog:Program) (w:World) (H₀:Heap) (O₀:Addr→Prop) (env:Env) (sc:Scope) (W:List Addr) (pr:List (Str×Value)) (ρ:au) (P:List Pv) (F:Str→List Addr) (s:Shared) (t:OT) (v:Value) (s':Shared):Prop:=∃ F' as,SS prog w H₀ O₀ env sc W pr ρ F' (⟨v,t,as⟩::P) s'∧Mv W F P s F' (⟨v,t,as⟩::P) s'
theorem Mv.rf (W:List Addr) (F:Str→List Addr) (P:List Pv) (s:Shared):Mv W F P s F P s:=⟨⟨_,s.toks,rfl⟩,λZ Z Z Z e=>e,λZ q=>.inl q,λZ o e=>⟨o,e⟩⟩
theorem Mv.tr {W:List Addr}{F F' Az:Str→List Addr}{P P' wL:List Pv}{s s' mh:Shared}(x:Mv W F P s F' P' s') (y:Mv W F' P' s' Az wL mh):Mv W F P s Az wL mh:=by
 exact⟨iB x.same λh t e=>iB y.same λh' t' e'=>⟨h',t',by rw[e',e]⟩,λb o hb hn e=>y.get b o hb (λq=>(x.new b q).elim hn λz=>fH z e) (x.get b o hb hn e),
  λb q=>(y.new b q).elim (x.new b) λz=>.inr (x.al.fresh z),λa o e=>(x.al a o e).elim λo' e'=>y.al a o' e'⟩
theorem Mv.kp {W:List Addr}{F:Str→List Addr}{P:List Pv}{s s':Shared}(k:Kp s s'):Mv W F P s F P s':=
 ⟨k.same,λZ Z Z Z e=>k.get e,λZ q=>.inl q,λZ o e=>⟨o,k.get e⟩⟩
noncomputable def MF (h:Heap) (a:Addr):Prop:=∃ o,h.get? a=some o∧∀ u,o.data≠.cell u
theorem bf.Rp {h:Heap}{O:Addr→Prop}:(∀ {v t as},bf prog w h O v t as→∀ a∈as,MF h a)∧∀ {vs ts as},aM prog w h O vs ts as→∀ a∈as,MF h a:=
 bf.both (λZ=>nofun) (λhl q a ha=>(aC.mp ha).elim (λe=>e▸rQ hl.isList λo e' Z n d=>⟨o,e',λu z=>nomatch d.symm.trans z⟩) (q a))
  (λk a ha=>pV (P:=MF h) ha (k.elim λxs k=>k.1.elim λo k=>k.elim λes k=>k.elim λep k=>⟨o,k.1,λu z=>nomatch k.2.2.1.symm.trans z⟩)) nofun λp q a ha=>(aP.mp ha).elim (p a) (q a)
theorem bf.alive {h:Heap}{O:Addr→Prop}{v:Value}{t:OT}{as:List Addr}(r:bf prog w h O v t as) (a:Addr) (ha:a∈as):∃ o,h.get? a=some o:=aT (bf.Rp.1 r a ha) λo e Z=>⟨o,e⟩
theorem bf.s9 {h:Heap}{O:Addr→Prop}{v:Value}{t:OT}{as:List Addr}(r:bf prog w h O v t as) (a:Addr) (ha:a∈as) (o:Obj) (e:h.get? a=some o) (u:Option Value):o.data≠.cell u:=aT (bf.Rp.1 r a ha) λo' e' n=>ai (e'.symm.trans e)▸n u
section
variable {A:Around}{E:Value→Shared→Prop}{H₀:Heap}{O₀:Addr→Prop}{env:Env}{sc:Scope}{W:List Addr}{pr:List (Str×Value)}{ρ:au}{F:Str→List Addr}{P:List Pv}{s s':Shared}{n:Nat}{C:ey}
theorem SS.iI (S:SS prog w H₀ O₀ env sc W pr ρ F P s):dS prog w H₀ (HS O₀ F P) env ρ s.heap:=
 ⟨S.dP,λx t e=>by
  refine nG (S.vars x t e) λh v V r=>?_
  exact⟨h,v,F x,V,r,λa ha=>S.dP.new a (.inr (.inr ⟨x,ha⟩))⟩⟩
theorem SS.kp (S:SS prog w H₀ O₀ env sc W pr ρ F P s) (k:Kp s s'):SS prog w H₀ O₀ env sc W pr ρ F P s':=
 ⟨S.dP.keeps k.fn,λx t e=>by
  refine nG (S.vars x t e) λh v V r=>?_
  exact⟨h,v,V.keeps k.fn,r.tr (Tr.keeps k.fn) λa Z o e=>k.get e⟩,S.out,λp hp=>(S.pend p hp).tr (Tr.keeps k.fn) λa Z o e=>k.get e,
  S.nd,S.pP,S.ub,S.jm,S.off,S.kP,S.ie.kp λa Z o e=>k.get e,λp hp=>(S.par p hp).keeps k.fn⟩
theorem bf.less {h:Heap}{O O':Addr→Prop}{v:Value}{t:OT}{as:List Addr}(k:∀ a,O' a→O a) (r:bf prog w h O v t as):bf prog w h O' v t as:=
 r.tr (λa o hO e Z=>⟨e,λq=>hO (k a q)⟩) λZ Z Z e=>e
theorem SS.same (S:SS prog w H₀ O₀ env sc W pr ρ F P s) {ρ':au}(h:∀ x,ρ'.lookup x=ρ.lookup x):SS prog w H₀ O₀ env sc W pr ρ' F P s:=
 ⟨S.dP,λx t e=>S.vars x t (by rw[←h];exact e),λx e=>S.out x (by rw[←h];exact e),S.pend,S.nd,S.pP,S.ub,S.jm,S.off,S.kP,S.ie,S.par⟩
theorem Gu {P P':List Pv}(h:P.Perm P'):(ly P).Perm (ly P'):=h.flatMap_right _
theorem OW.perm {F:Str→List Addr}{P P':List Pv}(h:P.Perm P'){b:Addr}:OW F P b↔OW F P' b:=by
 unfold OW
 rw[(Gu h).mem_iff]
theorem SS.perm (S:SS prog w H₀ O₀ env sc W pr ρ F P s){P':List Pv}(h:P.Perm P'):SS prog w H₀ O₀ env sc W pr ρ F P' s:=by
 have e:∀ b,HS O₀ F P' b→HS O₀ F P b:=λb q=>q.imp id λz=>(OW.perm h).mpr z
 exact⟨S.dP.sub e,λx t hx=>let ⟨a,v,V,r⟩:=S.vars x t hx;⟨a,v,V,r.less e⟩,S.out,λp hp=>(S.pend p (h.mem_iff.mpr hp)).less e,S.nd,S.pP,(Gu h).nodup_iff.mp S.ub,
  λx a ha q=>S.jm x a ha ((Gu h).mem_iff.mpr q),λa q=>S.off a ((OW.perm h).mpr q),S.kP,S.ie,S.par⟩
theorem Mv.perm {P':List Pv}(h:P.Perm P'):Mv W F P s F P' s:=⟨⟨_,s.toks,rfl⟩,λZ Z Z Z e=>e,λZ q=>.inl ((OW.perm h).mpr q),λZ o e=>⟨o,e⟩⟩
theorem SS.drop {p:Pv}(S:SS prog w H₀ O₀ env sc W pr ρ F (p::P) s):SS prog w H₀ O₀ env sc W pr ρ F P s:=by
 have K9:∀ {b},b∈ly P→b∈ly (p::P):=λ{b} q=>by
  exact bg _ q
 have e:∀ b,HS O₀ F P b→HS O₀ F (p::P) b:=λb q=>q.imp id λz=>z.imp K9 id
 have hn:(p.as++ly P).Nodup:=S.ub
 exact⟨S.dP.sub e,λx t hx=>let ⟨a,v,V,r⟩:=S.vars x t hx;⟨a,v,V,r.less e⟩,S.out,λq hq=>(S.pend q (.tail _ hq)).less e,S.nd,S.pP,(cP.mp hn).2.1,
  λx a ha q=>S.jm x a ha (K9 q),λa q=>S.off a (q.imp K9 id),S.kP,S.ie,S.par⟩
theorem Mv.drop {p:Pv}:Mv W F (p::P) s F P s:=⟨⟨_,s.toks,rfl⟩,λZ Z Z Z e=>e,λb q=>.inl (q.imp (λz=>by show b∈p.as++ly P;exact bg _ z) id),λZ o e=>⟨o,e⟩⟩
theorem SS.push {v:Value}{t:OT}{as:List Addr}(S:SS prog w H₀ O₀ env sc W pr ρ F P s) (k:Kp s s') (r:bf prog w s'.heap (λb=>HS O₀ F P b∨b∈as) v t as) (hn:∀ a∈as,s.heap.get? a=none) (nd:as.Nodup) :
  SS prog w H₀ O₀ env sc W pr ρ F (⟨v,t,as⟩::P) s'∧Mv W F P s F (⟨v,t,as⟩::P) s':=by
 have S':=S.kp k
 have e':∀ b,OW F (⟨v,t,as⟩::P) b→OW F P b∨b∈as:=λb q=>q.elim (λq=>(aP.mp (show b∈as++ly P from q)).elim .inr λz=>.inl (.inl z)) λq=>.inl (.inr q)
 have e:∀ b,HS O₀ F (⟨v,t,as⟩::P) b→HS O₀ F P b∨b∈as:=λb q=>q.elim (λq=>.inl (.inl q)) λq=>(e' b q).imp .inr id
 have lM:∀ {b},HS O₀ F P b→b∉as:=λ{b} q z=>(S.dP.alive b q).elim λo e=>fH (hn b z) e
 have T:Tr s.heap (HS O₀ F P) s'.heap (HS O₀ F (⟨v,t,as⟩::P)):=λa o hO ea Z=>⟨k.get ea,λq=>(e a q).elim hO λz=>fH (hn a z) ea⟩
 have KK:∀ {as:List Addr},Kept s.heap s'.heap as:=λa Z o e=>k.get e
 exact⟨⟨⟨S'.dP.up,λa q=>(e a q).elim (S.dP.new a) λha=>kC (H₀.get? a) id λo z=>fH (hn a ha) (S.dP.up a o z),λa q=>(e a q).elim (S'.dP.alive a) (r.alive a)⟩,
   λx t' hx=>nG (S.vars x t' hx) λa v' V r'=>⟨a,v',V.keeps k.fn,r'.tr T KK⟩,S.out,λp hp=>(aC.mp hp).elim (λq=>by subst q;exact r.less e) λq=>(S.pend p q).tr T KK,S.nd,S.pP,
   cP.mpr ⟨nd,S.ub,λa ha b hb q=>lM (.inr (.inl hb)) (q▸ha)⟩,λx a ha q=>(aP.mp (show a∈as++ly P from q)).elim (lM (.inr (.inr ⟨x,ha⟩))) (S.jm x a ha),
   λa q=>(e' a q).elim (S.off a) λz=>⟨λy=>lM (.inl y) z,λy=>aT (S.ie.data a y) λo e Z=>fH (hn a z) e⟩,S.kP,S'.ie,S'.par⟩,
  k.same,λZ Z Z Z e=>k.get e,λb q=>(e' b q).imp id (hn b),λZ o e=>⟨o,k.get e⟩⟩
end
end
section
variable {prog:Program}{w:World}
noncomputable def put (x:Str) (t:OT):au→au
 | []=>[(x,t)]
 | (y,u)::r=>if x=y then (x,t)::r else (y,u)::put x t r
theorem CG {x:Str}{t:OT}:put x t []=([(x,t)]):=rfl
theorem CE {x:Str}{t:OT}:∀ y u r,put x t ((y,u)::r)=(if x=y then (x,t)::r else (y,u)::put x t r):=λ_ _ _=>rfl
theorem vZ {x y:Str}{t:OT}:∀ {ρ:au},(put x t ρ).lookup y=if y=x then some t else ρ.lookup y
 | []=>by
  rw[CG]
  by_cases h:y=x
  ·subst h;rw[lookup_cons_self,if_pos rfl]
  ·rw[oU h,if_neg h]
 | (z,u)::r=>by
  rw[CE]
  by_cases hx:x=z
  ·subst hx
   rw[if_pos rfl]
   by_cases h:y=x
   ·subst h;rw[lookup_cons_self,if_pos rfl]
   ·rw[oU h,oU h,if_neg h]
  ·rw[if_neg hx]
   by_cases h:y=z
   ·subst h;rw[lookup_cons_self,lookup_cons_self,if_neg (λq=>hx q.symm)]
   ·rw[oU h,oU h];exact vZ
noncomputable def yE (PN:List Str) (p:Str×OT):Str×OT:=(p.1,if PN.contains p.1||!p.2.gz then p.2 else .af p.2.rD)
noncomputable def bX (PN:List Str) (ρ:au):au:=ρ.map (yE PN)
theorem zZ {PN:List Str}{x:Str}:∀ {ρ:au},(bX PN ρ).lookup x=(ρ.lookup x).map λt=>if PN.contains x||!t.gz then t else .af t.rD
 | []=>rfl
 | (y,u)::r=>by
  show aj x ((y,_)::bX PN r)=_
  by_cases h:x=y
  ·subst h;rw[lookup_cons_self,lookup_cons_self];rfl
  ·rw[oU h,oU h];exact zZ
section
variable {A:Around}{E:Value→Shared→Prop}{H₀:Heap}{O₀:Addr→Prop}{env:Env}{sc:Scope}{W:List Addr}{pr:List (Str×Value)}{ρ:au}{F:Str→List Addr}{P:List Pv}{s s':Shared}{n:Nat}{C:ey}
noncomputable def dT (F:Str→List Addr) (x:Str) (as:List Addr):Str→List Addr:=λy=>if y=x then as else F y
theorem GH {F:Str→List Addr}{x:Str}{as:List Addr}:dT F x as x=as:=if_pos rfl
theorem Bl {F:Str→List Addr}{x y:Str}{as:List Addr}(h:y≠x):dT F x as y=F y:=if_neg h
theorem oS {x:Str}{as:List Addr}{Q:Str→List Addr→Prop} (h1:Q x as) (h2:∀ y,y≠x→Q y (F y)) (y:Str):Q y (dT F x as y):=
 (bA (y=x)).elim (λh=>by subst h;rw[GH];exact h1) λh=>Bl h▸h2 y h
theorem Gm {x:Str}{t:OT}{as:List Addr}{Q:Str→Option OT→List Addr→Prop} (h1:Q x (some t) as) (h2:∀ y,y≠x→Q y (ρ.lookup y) (F y)) (y:Str):Q y ((put x t ρ).lookup y) (dT F x as y):=
 oS (F:=F) (Q:=λy fp=>Q y ((put x t ρ).lookup y) fp) (by rw[vZ,if_pos rfl];exact h1) (λy h=>by rw[vZ,if_neg h];exact h2 y h) y
theorem fM {p:Pv}{a:Addr}:a∈ly (p::P)↔a∈p.as∨a∈ly P:=by
 exact aP
theorem BD {x:Str}{p:Pv}(e:nR env sc) (S:SS prog w H₀ O₀ env sc W pr ρ F (p::P) s) (hx:sc.names.lookup x=some .local∨sc.names.lookup x=some .cell) (hd:dunder x=false) (hp:∀ q∈pr,q.1≠x) :
  wpAny (model prog w) A (storeName env x p.v) (λZ s'=>SS prog w H₀ O₀ env sc W pr (put x p.t ρ) (dT F x p.as) P s'∧Mv W F (p::P) s (dT F x p.as) P s') E s:=by
 refine wm (Gz e S.ie hx) (λZ s' q=>?_)
 refine jR q λk Fr V V'=>?_;clear q
 have sub:∀ b,OW (dT F x p.as) P b→OW F (p::P) b:=λb q=>q.elim (λq=>.inl (fM.mpr (.inr q))) λq=>q.elim λy q=>oS (F:=F) (Q:=λy fp=>b∈fp→OW F (p::P) b) (λq=>.inl (fM.mpr (.inl q))) (λy Z q=>.inr ⟨y,q⟩) y q
 have me:∀ b,HS O₀ (dT F x p.as) P b→HS O₀ F (p::P) b:=λb q=>q.imp id (sub b)
 have T:Tr s.heap (HS O₀ F (p::P)) s'.heap (HS O₀ (dT F x p.as) P):=λa o hO ea hs=>⟨k.get (λq=>S.ie.ix a q o ea hs) ea,λq=>hO (me a q)⟩
 have tm:∀ a,OW F (p::P) a→∀ o,s.heap.get? a=some o→s'.heap.get? a=some o:=λa ha o ea=>k.get (S.off a ha).2 ea
 have H':Hid H₀ (HS O₀ (dT F x p.as) P) s'.heap:=(S.dP.sub me).nj k λa ha=>⟨(S.kP a ha).1,λq=>q.elim (S.kP a ha).2 λz=>(S.off a (sub a z)).2 ha⟩
 refine fL (cP.mp (show(p.as++ly P).Nodup from S.ub)) λK5 K4 nd3=>?_
 exact⟨⟨H',Gm (Q:=λy o fp=>∀ t,o=some t→dunder y=false∧∃ v,bV env s'.heap y v∧bf prog w s'.heap (HS O₀ (dT F x p.as) P) v t fp)
    (λt e=>ai e▸⟨hd,p.v,V,(S.pend p (.head _)).tr T λa ha o ea=>tm a (.inl (fM.mpr (.inl ha))) o ea⟩)
    λy h t hy=>nG (S.vars y t hy) λh1 v h2 h3=>⟨h1,v,V' y v h h2,h3.tr T λa ha o ea=>tm a (.inr ⟨y,ha⟩) o ea⟩,
   Gm (Q:=λy o fp=>o=none→fp=[]) nofun λy Z=>S.out y,λq hq=>(S.pend q (.tail _ hq)).tr T λa ha o ea=>tm a (.inl (fM.mpr (.inr (bN.mpr ⟨q,hq,ha⟩)))) o ea,
   oS (Q:=λZ fp=>fp.Nodup) K5 λy Z=>S.nd y,
   λy z a=>oS (F:=F) (Q:=λy fp=>a∈fp→a∈dT F x p.as z→y=z) (λh=>oS (F:=F) (Q:=λz fp=>a∈fp→x=z) (λZ=>rfl) (λz Z h2=>absurd (fM.mpr (.inl h)) (S.jm z a h2)) z)
    (λy Z h=>oS (F:=F) (Q:=λz fp=>a∈fp→y=z) (λh2=>absurd (fM.mpr (.inl h2)) (S.jm y a h)) (λz Z=>S.pP y z a h) z) y,
   K4,λy a=>oS (F:=F) (Q:=λZ fp=>a∈fp→a∉ly P) (λh1 h2=>nd3 a h1 a h2 rfl) (λy Z h1 h2=>S.jm y a h1 (fM.mpr (.inr h2))) y,λa q=>S.off a (sub a q),S.kP,Fr,λq hq=>V' q.1 q.2 (hp q hq) (S.par q hq)⟩,
  k.same,λb o hb Z eb=>k.get hb eb,λb q=>.inl (sub b q),λa o ea=>(bA (a∈W)).elim (λhb=>aT (Fr.data a hb) λo' h' Z=>⟨o',h'⟩) λhb=>⟨o,k.get hb ea⟩⟩
noncomputable def oo (PN:List Str) (ρ:au) (F:Str→List Addr) (x:Str):List Addr:=match ρ.lookup x with
 | some t=>if PN.contains x||!t.gz then F x else []
 | none=>F x
theorem Bt {PN:List Str}{x:Str}{Q:Option OT→List Addr→Prop} (h0:ρ.lookup x=none→Q none (F x)) (h1:∀ t,ρ.lookup x=some t→(PN.contains x||!t.gz)=true→Q (some t) (F x))
  (h2:∀ t,ρ.lookup x=some t→(PN.contains x||!t.gz)=false→oo PN ρ F x=[]→Q (some (.af t.rD)) []):Q ((bX PN ρ).lookup x) (oo PN ρ F x):=by
 revert h2
 rw[zZ]
 unfold oo
 cases e:ρ.lookup x with
 | none=>exact λZ=>h0 e
 | some t=>
  show(∀ t',some t=some t'→_→(if PN.contains x||!t.gz then F x else [])=[]→_)→Q (some (if PN.contains x||!t.gz then t else .af t.rD)) (if PN.contains x||!t.gz then F x else [])
  cases c:PN.contains x||!t.gz with
  | true=>exact λZ=>h1 t e c
  | false=>exact λh2=>h2 t rfl c rfl
theorem SS.freeze (S:SS prog w H₀ O₀ env sc W pr ρ F P s) (PN:List Str):∃ F',SS prog w H₀ O₀ env sc W pr (bX PN ρ) F' P s∧Mv W F P s F' P s∧∀ x∈PN,F' x=F x:=by
 have oL:∀ x a,a∈oo PN ρ F x→a∈F x:=λx a=>Bt (PN:=PN) (ρ:=ρ) (F:=F) (Q:=λZ fp=>a∈fp→a∈F x) (λZ=>id) (λZ Z Z=>id) λZ Z Z Z=>nofun
 have sub:∀ b,OW (oo PN ρ F) P b→OW F P b:=λb q=>q.imp id λz=>z.elim λx z=>⟨x,oL x b z⟩
 have me:∀ b,HS O₀ (oo PN ρ F) P b→HS O₀ F P b:=λb q=>q.imp id (sub b)
 exact⟨oo PN ρ F,⟨S.dP.sub me,λx=>Bt (Q:=λo fp=>∀ t,o=some t→dunder x=false∧∃ v,bV env s.heap x v∧bf prog w s.heap (HS O₀ (oo PN ρ F) P) v t fp) (λZ=>nofun)
    (λt' ht Z t q=>ai q▸nG (S.vars x t' ht) λh1 v h2 h3=>⟨h1,v,h2,h3.less me⟩)
    (λt' ht hc e t q=>ai q▸nG (S.vars x t' ht) λh1 v h2 h3=>⟨h1,v,h2,.af (h3.rD me (λa ha q=>q.elim (S.off a (.inr ⟨x,ha⟩)).1 λq=>q.elim (S.jm x a ha) λq=>q.elim λy q=>nomatch (e▸S.pP x y a ha (oL y a q)▸q:a∈([]:List Addr))) (by cases hn:t'.gz with | true=>rfl | false=>rw[hn,gk] at hc;exact lN hc.2.symm))⟩),
   λx=>Bt (Q:=λo fp=>o=none→fp=[]) (λe Z=>S.out x e) (λZ Z Z=>nofun) (λZ Z Z Z=>nofun),λp hp=>(S.pend p hp).less me,λx=>Bt (PN:=PN) (ρ:=ρ) (F:=F) (Q:=λZ fp=>fp.Nodup) (λZ=>S.nd x) (λZ Z Z=>S.nd x) λZ Z Z Z=>.nil,
   λx y a h1 h2=>S.pP x y a (oL x a h1) (oL y a h2),S.ub,λx a h1=>S.jm x a (oL x a h1),λa q=>S.off a (sub a q),S.kP,S.ie,S.par⟩,
  ⟨⟨_,s.toks,rfl⟩,λZ Z Z Z e=>e,λb q=>.inl (sub b q),λZ o e=>⟨o,e⟩⟩,
  λx hx=>Bt (PN:=PN) (ρ:=ρ) (F:=F) (Q:=λZ fp=>fp=F x) (λZ=>rfl) (λZ Z Z=>rfl) λt Z hc Z=>lN (((gk.mp hc).1.symm.trans (dX.mpr hx)))⟩
end
end
section
variable {prog:Program}{w:World}
noncomputable def So (prog:Program) (w:World) (h:Heap) (O:Addr→Prop) (k:Nat) (t:OT) (vs:List Value) (ts:List OT) (as:List Addr):Prop:=
 ∃ v bs iX kF,vs[k]?=some v∧as=iX++bs++kF∧bf prog w h O v t bs∧∀ {h':Heap}{O':Addr→Prop}{v':Value}{t':OT}{bs':List Addr},Tr h O h' O'→(∀ a∈iX++kF,∀ o,h.get? a=some o→h'.get? a=some o) →
   bf prog w h' O' v' t' bs'→aM prog w h' O' (vs.set k v') (ts.set k t') (iX++bs'++kF)
theorem aM.at {h:Heap}{O:Addr→Prop}{vs:List Value}{ts:List OT}{as:List Addr}{k:Nat}{t:OT}(x:aM prog w h O vs ts as) (hk:ts[k]?=some t):So prog w h O k t vs ts as:=
 x.ind (Q:=λvs ts as=>∀ k,ts[k]?=some t→So prog w h O k t vs ts as) (λZ h=>nomatch kX.symm.trans h)
  (λ{v vs u ts as bs} r rs q k=>Nat.rec (λe=>⟨v,as,[],bs,rfl,rfl,ai e▸r,λT k r'=>.cons r' (rs.tr T k)⟩)
   (λk Z e=>BG (q k e) λu cs iX kF h1 h2 h3 h4=>⟨u,cs,as++iX,kF,h1,by rw[h2];simp only[dq],h3,λ{h' O' v' t' bs'} T k r'=>by
    rw[dq] at k
    have:=aM.cons (r.tr T λa ha=>k a (ba _ ha)) (h4 (v':=v') T (λa ha=>k a (bg _ ha)) r')
    rw[←dq,←dq] at this
    exact this⟩) k) k hk
section
variable {A:Around}{E:Value→Shared→Prop}{H₀:Heap}{O₀:Addr→Prop}{env:Env}{sc:Scope}{W:List Addr}{pr:List (Str×Value)}{ρ:au}{F:Str→List Addr}{P:List Pv}{s s':Shared}{n:Nat}{C:ey}
theorem SS.own {x:Str}{ts:List OT}(S:SS prog w H₀ O₀ env sc W pr ρ F P s) (h:ρ.lookup x=some (.own ts)) :
  dunder x=false∧∃ a vs as,F x=a::as∧bV env s.heap x (.ref a)∧s.heap.PlainList a vs.toArray∧aM prog w s.heap (HS O₀ F P) vs ts as:=by
 refine nG (S.vars x _ h) λhd v V r=>?_
 exact⟨hd,r.sW (Q:=λv fp=>bV env s.heap x v→∃ a vs as,fp=a::as∧bV env s.heap x (.ref a)∧s.heap.PlainList a vs.toArray∧aM prog w s.heap (HS O₀ F P) vs ts as) (λa vs as hl rs V=>⟨a,vs,as,rfl,V,hl,rs⟩) V⟩
theorem Gi {x:Str}{b:Addr}(h:HS O₀ (dT F x []) P b):HS O₀ F P b:=h.imp id λq=>q.imp id λq=>q.elim λy=>oS (F:=F) (x:=x) (as:=[]) (Q:=λy fp=>b∈fp→∃ y,b∈F y) nofun (λy Z q=>⟨y,q⟩) y
theorem Ud {x:Str}{b:Addr}(S:SS prog w H₀ O₀ env sc W pr ρ F P s) (hb:b∈F x) (h:HS O₀ (dT F x []) P b):False:=
 h.elim (S.off b (.inr ⟨x,hb⟩)).1 λq=>q.elim (S.jm x b hb) λq=>q.elim λy=>oS (F:=F) (x:=x) (as:=[]) (Q:=λZ fp=>b∈fp→False) nofun (λy h q=>h (S.pP y x b q hb)) y
theorem SS.rewrite {x:Str}{t t':OT}{v:Value}{fp':List Addr}(S:SS prog w H₀ O₀ env sc W pr ρ F P s) (ht:ρ.lookup x=some t) (V:bV env s.heap x v) (k:iN (F x) s s')
  (al:∀ a∈F x,∃ o,s'.heap.get? a=some o) (r:bf prog w s'.heap (λb=>HS O₀ (dT F x []) P b∨b∈fp') v t' fp') (km:∀ b∈fp',b∈F x∨s.heap.get? b=none) (nd:fp'.Nodup) :
  SS prog w H₀ O₀ env sc W pr (put x t' ρ) (dT F x fp') P s'∧Mv W F P s (dT F x fp') P s':=by
 refine nG (S.vars x t ht) λhd v₀ V₀ r₀=>?_
 clear V₀
 have sub:∀ b,OW (dT F x fp') P b→OW F P b∨s.heap.get? b=none:=λb q=>q.elim (λq=>.inl (.inl q)) λq=>q.elim λy=>oS (F:=F) (Q:=λy fp=>b∈fp→OW F P b∨s.heap.get? b=none) (λq=>(km b q).imp (λz=>.inr ⟨x,z⟩) id) (λy Z q=>.inl (.inr ⟨y,q⟩)) y
 have me:∀ b,HS O₀ (dT F x fp') P b→HS O₀ F P b∨s.heap.get? b=none:=λb q=>q.elim (λz=>.inl (.inl z)) λz=>(sub b z).imp .inr id
 have Sb:∀ b,HS O₀ (dT F x fp') P b→HS O₀ (dT F x []) P b∨b∈fp':=λb q=>q.elim (λq=>.inl (.inl q)) λq=>q.elim (λq=>.inl (.inr (.inl q))) λq=>q.elim λy=>
  oS (F:=F) (Q:=λy fp=>b∈fp→HS O₀ (dT F x []) P b∨b∈fp') .inr (λy h q=>.inl (.inr (.inr ⟨y,(Bl h).symm▸q⟩))) y
 have T:Tr s.heap (HS O₀ F P) s'.heap (HS O₀ (dT F x fp') P):=λb o hO e Z=>⟨k.get (λq=>hO (.inr (.inr ⟨x,q⟩))) e,λq=>(me b q).elim hO λz=>fH z e⟩
 have VV:∀ y u,bV env s.heap y u→bV env s'.heap y u:=λy u X=>X.mv (λo e Z=>k.get (λq=>(S.off _ (.inr ⟨x,q⟩)).2 S.ie.loc) e) λb o u e hd=>k.get (λq=>r₀.s9 _ q o e u hd) e
 have pQ:∀ {b}{Q:Prop},s.heap.get? b=none→HS O₀ F P b→Q:=λz q=>(S.dP.alive _ q).elim λo e=>fH z e
 exact⟨⟨⟨λb o e=>k.get (λq=>fH (S.dP.new b (.inr (.inr ⟨x,q⟩))) e) (S.dP.up b o e),λb q=>(me b q).elim (S.dP.new b) λhb=>kC (H₀.get? b) id λo z=>fH hb (S.dP.up b o z),
    λb q=>(Sb b q).elim (λz=>(S.dP.alive b (Gi z)).elim λo e=>(λb o e=>(bA (b∈F x)).elim (al b) λq=>⟨o,k.get q e⟩:∀ b o,s.heap.get? b=some o→∃ o',s'.heap.get? b=some o') b o e) (r.alive b)⟩,
   Gm (Q:=λy o fp=>∀ u,o=some u→dunder y=false∧∃ v,bV env s'.heap y v∧bf prog w s'.heap (HS O₀ (dT F x fp') P) v u fp) (λu e=>ai e▸⟨hd,v,VV _ _ V,r.less Sb⟩)
    (λy h u hy=>nG (S.vars y u hy) λh1 u' h2 h3=>⟨h1,u',VV _ _ h2,h3.tr T λb hb o e=>k.get (λq=>h (S.pP y x b hb q)) e⟩),
   Gm (Q:=λy o fp=>o=none→fp=[]) nofun λy Z=>S.out y,λp hp=>(S.pend p hp).tr T λb hb o e=>k.get (λq=>S.jm x b q (bN.mpr ⟨p,hp,hb⟩)) e,
   oS (Q:=λZ fp=>fp.Nodup) nd λy Z=>S.nd y,
   λy z b=>oS (F:=F) (Q:=λy fp=>b∈fp→b∈dT F x fp' z→y=z) (λh=>oS (F:=F) (Q:=λz fp=>b∈fp→x=z) (λZ=>rfl) (λz hz h2=>absurd h ((λy b h h1 h2=>(km b h2).elim (λz=>h (S.pP y x b h1 z)) λz=>pQ z (.inr (.inr ⟨y,h1⟩)):∀ y b,y≠x→b∈F y→b∉fp') z b hz h2)) z)
    (λy hy h=>oS (F:=F) (Q:=λz fp=>b∈fp→y=z) (λh2=>absurd h2 ((λy b h h1 h2=>(km b h2).elim (λz=>h (S.pP y x b h1 z)) λz=>pQ z (.inr (.inr ⟨y,h1⟩)):∀ y b,y≠x→b∈F y→b∉fp') y b hy h)) (λz Z=>S.pP y z b h) z) y,
   S.ub,λy b=>oS (F:=F) (Q:=λZ fp=>b∈fp→b∉ly P) (λh1 q=>(km b h1).elim (λz=>S.jm x b z q) λz=>pQ z (.inr (.inl q))) (λy Z=>S.jm y b) y,
   λb q=>(sub b q).elim (S.off b) λz=>⟨λy=>pQ z (.inl y),λy=>aT (S.ie.data b y) λo e Z=>fH z e⟩,S.kP,S.ie.kp λb hb o e=>k.get (λq=>(S.off b (.inr ⟨x,q⟩)).2 hb) e,λp hp=>VV _ _ (S.par p hp)⟩,
  k.same,λb o Z hb e=>k.get (λq=>hb (.inr ⟨x,q⟩)) e,sub,(λb o e=>(bA (b∈F x)).elim (al b) λq=>⟨o,k.get q e⟩:∀ b o,s.heap.get? b=some o→∃ o',s'.heap.get? b=some o')⟩
theorem SS.write {x:Str}{t t':OT}{v:Value}{fp':List Addr}{a:Addr}{h':Heap}{tk:Nat}(S:SS prog w H₀ O₀ env sc W pr ρ F P s) (ht:ρ.lookup x=some t) (V:bV env s.heap x v) (ha:a∈F x) (hs:dO a s.heap h') (al:∃ o,h'.get? a=some o)
  (r:bf prog w h' (HS O₀ F P) v t' fp') (km:∀ b∈fp',b∈F x) (nd:fp'.Nodup) :
  SS prog w H₀ O₀ env sc W pr (put x t' ρ) (dT F x fp') P { s with heap:=h',toks:=tk }∧Mv W F P s (dT F x fp') P { s with heap:=h',toks:=tk }:=
 S.rewrite ht V ⟨⟨h',tk,rfl⟩,λ{b o} hb e=>(hs.2 b λq=>hb (q.symm▸ha)).trans e⟩ (λb hb=>(bA (b=a)).elim (λq=>q▸al) λq=>(S.dP.alive b (.inr (.inr ⟨x,hb⟩))).elim λo e=>⟨o,(hs.2 b q).trans e⟩)
  (r.less λb q=>q.elim Gi λq=>.inr (.inr ⟨x,km b q⟩)) (λb hb=>.inl (km b hb)) nd
theorem Bm {vs:List Value}{j:Nat}{v:Value}:vs.toArray.setIfInBounds j v=(vs.set j v).toArray:=by simp
theorem GI {l:Addr}{items:Array Value}{k:Int}{t:Tok}{v:Value}{Q:Unit→Shared→Prop}(hl:s.heap.PlainList l items) (h0:0≤k) (kT:k<2^63) (hn:k<items.size)
  (hQ:∀ h',h'.PlainList l (items.setIfInBounds k.toNat v)→dO l s.heap h'→Q () { s with heap:=h' }):wpAny (model prog w) A (setItem (.ref l) (.int k t) v) Q E s:=by
 refine gF (id hl) λne ho=>?_
 have hT:s.TypeIs (.ref l) "list":=hl.isList.typeIs
 unfold setItem
 try with_reducible refine wpAny_holding ?_
 first | refine wpAny_bind (wpAny_pure ?_) | skip
 refine wpAny_bind (wpAny_sequenceKey hT (by decide) ?_)
 refine wpAny_bind (wpAny_callSpecial?_slot (name:=ae "__setitem__") hT slot_list_setitem (wpAny_call_entry slot_list_setitem hT entry_list_setitem ?_ (args_list_setitem _ _ _)))
 show wpAny _ _ (MO (.int k t) >>= _) _ _ s
 refine wpAny_bind (wpAny_listSubscript_int (fitsIndex_of h0 kT) ?_)
 obtain⟨j,rfl⟩:=dE h0
 have hj:j<items.size:=rl 0x1c80a2504060802 rfl _ _ hn
 refine wpAny_bind (wpAny_bind (wpAny_seqItemAt ho rfl (wpAny_pure ?_)))
 refine(ak ((Array.getElem?_eq_getElem hj:items[j]?=some items[j])))▸?_
 refine gF (yW (o:={ cls:=.type "list",data:=.seq items ne }) rfl (·.setIfInBounds j v)) λn' jH=>?_
 have kn:(s.heap.update l (je (·.setIfInBounds j v))).PlainList l (items.setIfInBounds j v):=by
  refine⟨n',?_⟩
  rw[(qQ (je (·.setIfInBounds j v)) ho (uo jH))]
  simp only[je] at jH ⊢
  rw[jH]
 refine wpAny_bind (wpAny_setSeqItemAt ho rfl ?_)
 first
  | exact wpAny_bind (wpAny_pure (wpAny_pure ⟨.none,rfl,wpAny_pure (hQ _ kn (iG ..))⟩))
  | exact wpAny_pure ⟨.none,rfl,wpAny_pure (hQ _ kn (iG ..))⟩
theorem O6 {x:Str}{ts:List OT}{k:Int}{tk:Tok}{j:Nat}{d₀ d:DV}{v:Value}{a:Addr}{as:List Addr}{vs:List Value}(S:SS prog w H₀ O₀ env sc W pr ρ F P s) (h:ρ.lookup x=some (.own ts)) (hF:F x=a::as)
  (V:bV env s.heap x (.ref a)) (hl:s.heap.PlainList a vs.toArray) (rs:aM prog w s.heap (HS O₀ F P) vs ts as) (h0:0≤k) (hj:eI ts.length k=some j) (hd:ts[j]?=some (.af d₀)) (r:Rep s.heap (HS O₀ F P) v d) :
  wpAny (model prog w) A (setItem (.ref a) (.int k tk) v) (λZ=>j2 prog w H₀ O₀ env sc W pr (put x (.own (ts.set j (.af d))) ρ) P F s) E s:=by
 refine jR (Bw hj) λh1 h2 h3 h4=>?_
 have wq:k.toNat=j:=by rcases h4 with z | z<;>lia
 refine GI hl h0 (by exact FI _ _ _ h1 h2 wq) (by exact(ak bx)▸(ak rs.length)▸(FH _ _ _ h2 wq)) λh' lx hs=>?_
 refine BG (rs.at hd) λv₀ bs iX kF e1 e2 e3 e4=>?_
 have nr:(a::as).Nodup:=hF▸S.nd x
 have eb:=e3.qj.2
 subst eb
 have T:Tr s.heap (HS O₀ F P) h' (HS O₀ F P):=λb o hO e Z=>⟨(hs.2 b λq=>hO (.inr (.inr ⟨x,by refine(ak hF)▸?_;subst q;exact .head _⟩))).trans e,hO⟩
 have e5:=e4 (bs':=[]) T (λb hb o e=>(hs.2 b λq=>by subst q;exact(a9.mp nr).1 (by rw[e2];simpa using hb)).trans e) (bf.af (r.tr T):bf prog w h' (HS O₀ F P) v (.af d) [])
 rw[←e2] at e5
 refine dJ (S.write (tk:=s.toks) (fp':=a::as) h V (by exact(ak hF)▸(.head _)) hs (let ⟨o,e,_⟩:=(Bm▸wq▸lx).isList;⟨o,e⟩) (bf.own (Bm▸wq▸lx) e5) (λb hb=>by exact(ak hF)▸hb) nr) λS' M'=>?_
 exact⟨_,S',M'⟩
end
end
section
variable {prog:Program}{w:World}
section
variable {A:Around}{E:Value→Shared→Prop}{H₀:Heap}{O₀:Addr→Prop}{env:Env}{sc:Scope}{W:List Addr}{pr:List (Str×Value)}{ρ:au}{F:Str→List Addr}{P:List Pv}{s s':Shared}{n:Nat}{C:ey}
theorem JW {x:Str}{ts jt:List OT}{a:Addr}{as gw:List Addr}{vs':List Value}{h':Heap}{tk:Nat}(S:SS prog w H₀ O₀ env sc W pr ρ F P s) (h:ρ.lookup x=some (.own ts)) (hF:F x=a::as)
  (V:bV env s.heap x (.ref a)) (hs:dO a s.heap h') (lx:h'.PlainList a vs'.toArray) (rs':aM prog w h' (HS O₀ F P) vs' jt gw) (Dk:∀ b∈gw,b∈as) (nr:gw.Nodup) :
  ∃ F',SS prog w H₀ O₀ env sc W pr (put x (.own jt) ρ) F' P { s with heap:=h',toks:=tk }∧Mv W F P s F' P { s with heap:=h',toks:=tk }:=by
 have G6:(a::as).Nodup:=hF▸S.nd x
 exact dJ (S.write (tk:=tk) (fp':=a::gw) h V (hF▸.head _) hs (aT lx.isList λo e Z=>⟨o,e⟩) (bf.own lx rs') (λb hb=>hF▸(aC.mp hb).elim (λq=>q▸.head _) λq=>.tail _ (Dk b q))
  (a9.mpr ⟨λq=>(a9.mp G6).1 (Dk a q),nr⟩)) λS' M'=>⟨_,S',M'⟩
theorem Iv {x:Str}{a:Addr}{as:List Addr}{h':Heap}(hF:F x=a::as) (hs:dO a s.heap h'):Tr s.heap (HS O₀ F P) h' (HS O₀ F P):=
 λb o hO e Z=>⟨(hs.2 b λq=>hO (.inr (.inr ⟨x,by rw[hF];subst q;exact .head _⟩))).trans e,hO⟩
theorem Jk {x i:Str}{px pi p:Pos}{k:Int}{j:Nat}{v:Value}{a:Addr}{vs:List Value}{Q:Value→Shared→Prop}(e:nR env sc) (S:SS prog w H₀ O₀ env sc W pr ρ F P s) (hd:dunder x=false)
  (V:bV env s.heap x (.ref a)) (hl:s.heap.PlainList a vs.toArray) (hi:ρ.lookup i=some (.af (.int k))) (hj:eI vs.length k=some j) (hv:vs[j]?=some v) (h:Q v s) :
  wpAny (model prog w) A (eval (.Subscript (.Name x px) (.Name i pi) p) env) Q E s:=by
 exact Subscript_ (pj e.kind hd V (nG (S.vars i _ hi) λLN u Vi ri=>pj e.kind LN Vi (ri.cG.eU (Q:=λu=>wpAny (model prog w) A (subscriptTail _ _ _ u) Q E s) λt=>(Bg (.Name i pi) (.ref a) (.int k t)).elim λgE hs=>
  tail_any hl.isList.typeIs slot_list_getitem.lookup (Bb (.inl hl.isList) hj hv h) hs)))
theorem XQ {x:Str}{ts us:List OT}{k:Int}{tk:Tok}{r j:Nat}{d₀ d:DV}{v:Value}{a b:Addr}{as:List Addr}{vs:List Value}(S:SS prog w H₀ O₀ env sc W pr ρ F P s) (h:ρ.lookup x=some (.own ts)) (hF:F x=a::as)
  (V:bV env s.heap x (.ref a)) (hl:s.heap.PlainList a vs.toArray) (rs:aM prog w s.heap (HS O₀ F P) vs ts as) (hr:ts[r]?=some (.own us)) (hb:vs[r]?=some (.ref b)) (h0:0≤k) (hj:eI us.length k=some j)
  (hd:us[j]?=some (.af d₀)) (rv:Rep s.heap (HS O₀ F P) v d) :
  wpAny (model prog w) A (setItem (.ref b) (.int k tk) v) (λZ=>j2 prog w H₀ O₀ env sc W pr (put x (.own (ts.set r (.own (us.set j (.af d))))) ρ) P F s) E s:=by
 refine jR (Bw hj) λh1 h2 h3 h4=>BG (rs.at hr) λv₁ Sh iX kF e1 e2 e3 e4=>nU e3.CN λb' ws bs ev ebs hlb rb=>?_
 have ev:=jq (ai (hb.symm.trans (e1.trans (congrArg some ev))))
 subst ev ebs
 clear e1 e3
 have dx:=rb.length
 have wq:k.toNat=j:=h4.elim (·.2) λq=>absurd h0 (uq.mpr q.1)
 refine GI hlb h0 (by exact FI _ _ _ h1 h2 wq) (by rw[bx,dx];exact FH _ _ _ h2 wq) λh' lx hs=>?_
 rw[wq,Bm] at lx
 have nr:(a::as).Nodup:=hF▸S.nd x
 have Hj:b∈as:=e2▸ba _ (bg _ (.head _))
 have RT:b∈F x:=hF▸.tail _ Hj
 have pH:∀ {c o},c≠b→s.heap.get? c=some o→h'.get? c=some o:=λq e=>(hs.2 _ q).trans e
 have T:Tr s.heap (HS O₀ F P) h' (HS O₀ F P):=λc o hO e Z=>⟨pH (λq=>hO (.inr (.inr ⟨x,q▸RT⟩))) e,hO⟩
 refine fL (cP.mp (e2▸(a9.mp nr).2:(iX++(b::bs)++kF).Nodup)) λn1 n2 n3=>fL (cP.mp n1) λm1 m2 m3=>?_
 have g5:aM prog w h' (HS O₀ F P) (ws.set j v) (us.set j (.af d)) bs:=BG (rb.at hd) λv₂ cs EF Sg f1 f2 f3 f4=>by
  have ec:=f3.qj.2
  subst ec
  rw[f2]
  exact f4 T (λc hc o e=>pH (λq=>(a9.mp m2).1 (f2▸q▸(bS EF).symm▸hc)) e) (bf.af (rv.tr T):bf prog w h' (HS O₀ F P) v (.af d) [])
 have e5:=e4 (bs':=b::bs) (v':=.ref b) T (λc hc o e=>pH (λq=>(aP.mp hc).elim (λz=>m3 c z b (.head _) q) λz=>n3 b (bg _ (.head _)) c z q.symm) e) (bf.own lx g5)
 have hvs:vs.set r (.ref b)=vs:=(b7.mp hb).elim λhr e=>e▸List.set_getElem_self hr
 rw[←e2,hvs] at e5
 have hla:h'.PlainList a vs.toArray:=hl.at λo e=>pH (λq=>(a9.mp nr).1 (q▸Hj)) e
 exact dJ (S.write (tk:=s.toks) (fp':=a::as) h V RT hs (aT lx.isList λo e Z=>⟨o,e⟩) (bf.own hla e5) (λc hc=>hF▸hc) nr) λS' M'=>⟨_,S',M'⟩
theorem aM.x9 {h:Heap}{O:Addr→Prop}{vs:List Value}{ds:List DV}{as:List Addr}(x:aM prog w h O vs (ds.map .af) as):as=[]:=
 x.ind (Q:=λZ ts as=>∀ ds:List DV,ts=ds.map .af→as=[]) (λZ Z=>rfl) (λ{v _ _ _ as bs} r Z q ns e=>nW (gh.mp e.symm) λn xY h1 h2 h3=>(congrArg (·++bs) (h2▸r:bf prog w h O v (.af n) as).qj.2).trans (q _ h3.symm)) ds rfl
end
end
section
variable {prog:Program}{w:World}
section
variable {A:Around}{E:Value→Shared→Prop}{H₀:Heap}{mg mb:Str→Option Value}{O₀:Addr→Prop}{env:Env}{sc:Scope}{W:List Addr}{pr:List (Str×Value)}{ρ:au}{F:Str→List Addr}{P:List Pv}{s s':Shared}{n:Nat}{C:ey}
theorem Za (G:GW H₀ mg mb) (hC:bk prog w H₀ mg n C) (cx:Cx prog n A env sc){x:Str}{e:Expr}{d:DV}{ts:List OT}{px tM pos:Pos}(S:SS prog w H₀ O₀ env sc W pr ρ F P s) (hx:ρ.lookup x=some (.own ts)) (wf:dY sc e=true)
  (he:ev C e ρ=some (.af d)) (hc:ts.length+1≤bh) (tA:(tM.endLine==pos.line)=true) :
  wpAny (model prog w) A (eval (.Call (.Attribute (.Name x px) "append" tM) [e] [] pos) env) (λv s'=>v=.none∧j2 prog w H₀ O₀ env sc W pr (put x (.own (ts++[.af d])) ρ) P F s s') E s:=by
 refine sJ (S.own hx) λhd a vs as hF V hl rs=>?_
 refine wpAny_Call_method (T:="list") (id:="list.append") rfl (by rw[qY (vV he)];rfl) tA nB PySem.F.slot_list_append PySem.F.type_list_append (pj cx.env.kind hd V ⟨hl.isList.typeIs,λb q=>jq q▸hl.elim λn q=>⟨_,q,rfl⟩,?_⟩)
 rw[qY (vV he)]
 refine iO rfl (jA (bW (wm (ph G hC e cx wf S.iI he) λv s₁ p=>g0 ?_)))
 have k:=p.keeps
 have lK:=rs.tr (Tr.keeps k.fn) λb Z o e=>k.get e
 have dx:=rs.length
 refine wpAny_list_append_plain (hl.at λo e=>k.get e:s₁.heap.PlainList a vs.toArray) (λh' lx hs=>?_) (by rw[bx];exact tZ (by exact Nt _ _ hc dx))
 have T:=Iv (s:=s₁) (O₀:=O₀) (P:=P) hF hs
 have G6:=a9.mp (hF▸S.nd x:(a::as).Nodup)
 have r₃:=aM.append (lK.tr T λb hb o e=>(hs.2 b λq=>G6.1 (q▸hb)).trans e) (aM.cons (bf.af (p.gU.tr T)) .nil)
 exact aT (JW (tk:=s₁.toks) (S.kp k) hx hF (V.keeps k.fn) hs (vs':=vs++[v]) (by simpa using lx) r₃ (λb hb=>bS as▸hb) ((bS as).symm▸G6.2)) λF' S' M'=>⟨rfl,F',S',(Mv.kp k).tr M'⟩
noncomputable def ve (k:Int) (v:Value) (xs:Array Value):Array Value:=have k:=if k<0 then (k+(xs.size:Int)).toNat else min k.toNat xs.size;(xs.extract 0 k).push v++xs.extract k
theorem Zu {h:Heap}{a:Addr}{vs:List Value}{k:Int}{v:Value}{m:Nat}{n:Nat}(ho:h.get? a=some { cls:=.type "list",data:=.seq vs.toArray m }) (h0:0≤k) (hk:k≤n) (dx:vs.length=n) :
  (h.update a (je (ve k v))).PlainList a (vs.take k.toNat++[v]++vs.drop k.toNat).toArray:=by
 have LD:min k.toNat vs.toArray.size=k.toNat:=by rw[bx];exact rl 0xff2be5407ca7a1018c10a12 rfl _ _ _ hk dx
 have e1:((vs.toArray.extract 0 k.toNat).push v++vs.toArray.extract k.toNat)=(vs.take k.toNat++[v]++vs.drop k.toNat).toArray:=by
  simp only[List.extract_toArray,List.push_toArray,List.append_toArray,List.extract_eq_take_drop,bx,lD,jL]
  rw[cX (l:=List.drop k.toNat vs) (by rw[vC];exact rl 0xdb7948b794811 rfl _ _)]
 refine gF (yW (o:={ cls:=.type "list",data:=.seq vs.toArray m }) rfl (ve k v)) λn' jH=>⟨n',?_⟩
 rw[qQ _ ho (uo jH)]
 simp only[je] at jH ⊢
 rw[jH]
 congr 3
 rw[←e1]
 unfold ve
 rw[if_neg (by exact rl 0x5e4b5454b10 rfl _ h0),LD]
theorem Zv (G:GW H₀ mg mb) (hC:bk prog w H₀ mg n C) (cx:Cx prog n A env sc){x:Str}{e i:Expr}{d:DV}{k:Int}{ds:List DV}{px tM pos:Pos}(S:SS prog w H₀ O₀ env sc W pr ρ F P s) (hx:ρ.lookup x=some (.own (ds.map .af)))
  (uJ:dY sc i=true) (wf:dY sc e=true) (hi:ev C i ρ=some (.af (.int k))) (he:ev C e ρ=some (.af d)) (hc:ds.length+1≤bh) (h0:0≤k) (hk:k≤ds.length) (tA:(tM.endLine==pos.line)=true) :
  wpAny (model prog w) A (eval (.Call (.Attribute (.Name x px) "insert" tM) [i,e] [] pos) env) (λv s'=>v=.none∧j2 prog w H₀ O₀ env sc W pr (put x (.own ((ds.take k.toNat++[d]++ds.drop k.toNat).map .af)) ρ) P F s s') E s:=by
 refine sJ (S.own hx) λhd a vs as hF V hl rs=>?_
 have DO:=rs.x9
 subst DO
 refine wpAny_Call_method (T:="list") (id:="list.insert") rfl (by rw[qY (vV hi),qY (vV he)];rfl) tA nB mR PySem.F.type_list_insert (pj cx.env.kind hd V ⟨hl.isList.typeIs,λb q=>jq q▸hl.elim λn q=>⟨_,q,rfl⟩,?_⟩)
 rw[qY (vV hi),qY (vV he)]
 refine iO rfl (jA (bW (wm (ph G hC i cx uJ S.iI hi) λvi s₁ p1=>bW (wm (ph G hC e cx wf (S.kp p1.keeps).iI he) λv s₂ p=>g0 ?_))))
 have kk:=p1.keeps.tr p.keeps
 have lK:=(rs.tr (Tr.keeps kk.fn) λb Z o e=>kk.get e).fT
 have dx:=lK.length
 refine p1.gU.vd.elim λZ ei=>(hl.at λo e=>kk.get e:s₂.heap.PlainList a vs.toArray).elim λm ho=>?_
 subst ei
 refine call_meets mR ⟨_,ho,rfl⟩ PySem.F.entry_list_insert (PySem.F.args_list_insert_3 _ _ _) (E1 a vs.toArray m k _ v (by simp[kv];exact rl 0xfc96000000000000000000000000000aa2ae2c0000000000000000000000000018c10a8a96d48000000046242811 rfl _ _ hc h0 hk) (by rw[bx];exact rl 0x1a900000000000a1e80a1a9000000008c4850102 rfl _ _ hc dx)) ⟨ho,?_⟩
 have hs:=iG s₂.heap a (je (ve k v))
 have T:=Iv (s:=s₂) (O₀:=O₀) (P:=P) hF hs
 have r₂:=lK.tr T
 exact aT (JW (tk:=s₂.toks) (S.kp kk) hx hF (V.keeps kk.fn) hs (Zu ho h0 hk dx) (aM.kg (((r₂.take k.toNat).append (.cons (p.gU.tr T) .nil)).append (r₂.drop k.toNat))) (λb hb=>(bT hb).elim) .nil) λF' S' M'=>⟨rfl,F',S',(Mv.kp kk).tr M'⟩
theorem W9 (cx:Cx prog n A env sc){x:Str}{ks:List (List Int)}{ns:List Int}{ds:List DV}{v:Value}{a t:Addr}(S:SS prog w H₀ O₀ env sc W pr ρ F P s) (hx:ρ.lookup x=some (.fI ks)) (V:bV env s.heap x (.ref a))
  (rk:Rep s.heap (HS O₀ F P) (.ref t) (.tup ds)) (oY:fi ds=some ns) (pI:ns∉ks) (hc:ks.length≤bh) (hF:F x=[a]) (K:fX prog w s.heap (HS O₀ F P) a ks) :
  wpAny (model prog w) A (setItem (.ref a) (.ref t) v) (λZ=>j2 prog w H₀ O₀ env sc W pr (put x (.fI (ks++[ns])) ρ) P F s) E s:=by
 refine iw K λxs hm hk hO=>rk.tupI.elim λa' h=>h.elim λws h=>?_
 have ea:=jq h.1
 subst ea
 have dx:xs.length=ks.length:=by rw[←hk,ag]
 have Dv:atKey xs ns=none:=kC (atKey xs ns) id λy q=>(pI (hk▸mQ.mp (by rw[q];rfl))).elim
 refine rQ h.2.1 λo e1 e2 n' e3=>wpAny_setItem_heap (knd:=tupleKind (intKind prog w)) (k:=ns) (xs:=xs) ?_ ⟨o,_,n',e1,e2,e3,Qw h.2.2.2 oY⟩ hm (λh' yr hs=>?_) (by rw[dx];exact tZ hc)
 ·have:=cx.room.units
  exact Nr _ _ this
 ·rw[storedH_new Dv] at yr
  have KA:fX prog w h' (HS O₀ F P) a (ks++[ns]):=⟨_,yr,by rw[bL,hk];rfl,λy hy=>(aP.mp hy).elim (hO y) λq=>aK.mp q▸h.2.2.1⟩
  exact dJ (S.write (tk:=s.toks+(tupleKind (intKind prog w)).draws ns) (fp':=[a]) hx V (hF▸.head _) hs (yr.elim λo z=>z.elim λZ z=>z.elim λZ z=>⟨o,z.1⟩) (bf.fI KA) (λb hb=>hF▸hb) (eW _ a)) λS' M'=>⟨_,S',M'⟩
end
end
section
variable {prog:Program}{w:World}
section
variable {A:Around}{E:Value→Shared→Prop}{H₀:Heap}{mg mb:Str→Option Value}{O₀:Addr→Prop}{env:Env}{sc:Scope}{W:List Addr}{pr:List (Str×Value)}{ρ:au}{F:Str→List Addr}{P:List Pv}{s s':Shared}{n:Nat}{C:ey}
end
end
section
variable {prog:Program}{w:World}
noncomputable def pA (C:ey) (f x:Str) (args:List Expr) (ρ:au):Option (DV×au):=
 match ρ.lookup x with
 | some (.own ts)=>
  if f∈a5 then none
  else (jw C args ρ).bind λus=>(jn us).bind λds=>(C f (.own ts::ds.map .af)).bind λr=>
   match r.2 with
   | t'::_=>some (r.1,put x t' ρ)
   | []=>none
 | _=>none
noncomputable def kB (C:ey):Expr→au→Option (DV×au)
 | .Call f args ks _,ρ=>(lu f).bind λf=>(match args with | a::args=>(lu a).bind λx=>(match ks with | []=>pA C f x args ρ | _=>none) | _=>none)
 | .BinOp l op r _,ρ=>(ev C l ρ).bind λa=>a.lf.bind λa=>(kB C r ρ).bind λb=>(l9 op a b.1).map λd=>(d,b.2)
 | .Tuple es _ _,ρ=>(match es with | a::es=>(match es with | b::es=>(match es with | []=>(kB C a ρ).bind λx=>(kB C b x.2).bind λy=>some (.tup [x.1,y.1],y.2) | _=>none) | _=>none) | _=>none)
 | .Subscript v i _,ρ=>(ev C v ρ).bind λt=>t.lf.bind λa=>(kB C i ρ).bind λk=>(iJ (.af a) (.af k.1)).bind λr=>r.lf.bind λd=>some (d,k.2)
 | _,_=>none
theorem Rep.Dh {h h':Heap}{O O':Addr→Prop}{v:Value}{d:DV}(hi:d.j9=true) (r:Rep h O v d):Rep h' O' v d:=
 r.case (P:=λv d=>d.j9=true→Rep h' O' v d) (λZ=>.none) (λb Z=>.bool b) (λi t Z=>.int i t) (λZ Z Z=>nofun) (λZ Z Z=>nofun) hi
section
variable {A:Around}{E:Value→Shared→Prop}{H₀:Heap}{mg mb:Str→Option Value}{O₀:Addr→Prop}{env:Env}{sc:Scope}{W:List Addr}{pr:List (Str×Value)}{ρ:au}{F:Str→List Addr}{P:List Pv}{s s':Shared}{n:Nat}{C:ey}
theorem Mv.T {F':Str→List Addr}{P':List Pv}(S:SS prog w H₀ O₀ env sc W pr ρ F P s) (M:Mv W F P s F' P' s'):Tr s.heap (HS O₀ F P) s'.heap (HS O₀ F' P'):=λb o hO e hs=>
 ⟨M.get b o (λq=>S.ie.ix b q o e hs) (λq=>hO (.inr q)) e,λq=>q.elim (λz=>hO (.inl z)) λz=>(M.new b z).elim (λy=>hO (.inr y)) λy=>fH y e⟩
variable (prog w H₀ O₀ env sc W pr ρ P) in
noncomputable def Sl (F₀:Str→List Addr) (s₀:Shared) (d:DV) (v:Value) (s':Shared):Prop:=∃ F',SS prog w H₀ O₀ env sc W pr ρ F' P s'∧Mv W F₀ P s₀ F' P s'∧Rep s'.heap (HS O₀ F' P) v d
theorem W6 (G:GW H₀ mg mb) (hC:bk prog w H₀ mg n C) (cx:Cx prog n A env sc){f x:Str}{args:List Expr}{ts:List OT}{ds:List DV}{d:DV}{t':OT}{rest:List OT}{pf px p:Pos}(S:SS prog w H₀ O₀ env sc W pr ρ F P s)
  (hx:ρ.lookup x=some (.own ts)) (wf:dY sc (.Call (.Name f pf) (.Name x px::args) [] p)=true) (ha:jw C args ρ=some (ds.map .af)) (hr:C f (.own ts::ds.map .af)=some (d,t'::rest)) :
  wpAny (model prog w) A (eval (.Call (.Name f pf) (.Name x px::args) [] p) env) (Sl prog w H₀ O₀ env sc W pr (put x t' ρ) P F s d) E s:=by
 have wf:=Gq wf
 refine nU (hC f _ d _ hr) λfa o fd hfa ho hfd tD=>mZ cx.lQ.frame λL' l' fr Z=>sJ (S.own hx) λhd a vs as hF V hl rs=>?_
 refine Call_ (JJ G S.dP.up cx.env wf.1.1 wf.1.2 hfa (oM (o:=o) (fd:=fd) (F9 (zY (zD (FY hx) ha:jw C (.Name x px::args) ρ=some (.own ts::ds.map .af))) nofun ?_)))
 refine(ak (qY ((zY (zD (FY hx) ha:jw C (.Name x px::args) ρ=some (.own ts::ds.map .af))) _ (.head _))))▸?_
 refine bW (pj cx.env.kind hd V (wm (Wk G hC args (pos:=p) cx (a6 wf.2).2 S.iI ha) λws s₁ q=>pD q λk bs rw'=>?_))
 have S₁:=S.kp k
 refine⟨⟨S₁.dP.up _ _ ho,hfd⟩,?_⟩
 have e1:∀ b,(HS O₀ (dT F x []) P b∨b∈F x)→HS O₀ F P b:=λb q=>q.elim Gi λq=>.inr (.inr ⟨x,q⟩)
 have z:bf prog w s₁.heap (HS O₀ F P) (.ref a) (.own ts) (F x):=hF▸.own (hl.at λo e=>k.get e) (rs.tr (Tr.keeps k.fn) λb Z o e=>k.get e)
 have r₁:aM prog w s₁.heap (λb=>HS O₀ (dT F x []) P b∨b∈F x) (.ref a::ws) (.own ts::ds.map .af) (F x):=by
  have y:=aM.cons (z.less e1) ((aM.kg rw'.fT).tr (λb o hO e Z=>⟨e,λq=>hO (e1 b q)⟩) nofun)
  rw[bS] at y
  exact y
 refine wpAny_call (codeAny_mono (tD A (HS O₀ (dT F x []) P) s₁ (.ref a::ws) (F x) cx.room ⟨_,fr⟩ (S₁.dP.sub e1) (λb hb q=>Ud S hb q) (S.nd x) r₁) λr' s₂ Lx=>vT Lx λv er kb rep yq=>?_)
 subst er
 exact yq.elim (λyq=>nomatch hF.symm.trans yq) λyq=>yq.2.2.elim λgw z=>BG z.1.EA λv' Z b1 b2 ev eb ra Z=>by
  subst eb
  exact dJ (S₁.rewrite hx (V.keeps k.fn) kb yq.2.1 (((ak ((dI ev).1))▸ra).less λb q=>q.imp id λz=>ba _ z) (λb hb=>z.2.2 b (ba _ hb)) (cP.mp z.2.1).1) λS' M'=>⟨_,S',(Mv.kp k).tr M',rep.Dh yq.1⟩
end
section
variable (prog w)
variable (H₀:Heap) (n:Nat) (C:ey)
noncomputable def TH (e:Expr):Prop:=∀ {A:Around}{env:Env}{sc:Scope}{O₀:Addr→Prop}{W:List Addr}{pr:List (Str×Value)}{P:List Pv}{ρ ρ':au}{F:Str→List Addr}{s:Shared}{d:DV}{E:Value→Shared→Prop},Cx prog n A env sc →
 SS prog w H₀ O₀ env sc W pr ρ F P s→dY sc e=true→kB C e ρ=some (d,ρ') →
  wpAny (model prog w) A (eval e env) (Sl prog w H₀ O₀ env sc W pr ρ' P F s d) E s
end
section
variable {H₀:Heap}{mg mb:Str→Option Value}{n:Nat}{C:ey}
theorem kA {e:Expr}(h:∀ ρ,kB C e ρ=none):TH prog w H₀ n C e:=λ{A env sc O₀ W pr P ρ ρ' F s d E} cx S wf q=>by rw[h] at q;exact bR q
theorem B5 {f x:Str}{args:List Expr}{ρ:au}{q:DV×au}{P:Prop}(h:pA C f x args ρ=some q) (k:∀ ts,ρ.lookup x=some (.own ts)→∀ us,jw C args ρ=some us→∀ ds,jn us=some ds→∀ r,C f (.own ts::ds.map .af)=some r→∀ t' rest,r.2=t'::rest→(r.1,put x t' ρ)=q→P):P:=by
 unfold pA at h
 refine kC (ρ.lookup x) (λe=>?_) (λt e=>?_)
 ·rw[e] at h;exact bR h
 ·rw[e] at h
  cases t with
  | own ts=>
   exact pG h (λZ h=>bR h) λh=>bJ h λus h1=>bv λds h2=>bv λr h3 h4=>by
    cases e2:r.2 with
    | nil=>have h4:=e2▸h4;exact bR h4
    | cons t' rest=>have h4:=e2▸h4;exact k ts e us h1 ds h2 r h3 t' rest e2 (ai h4)
  | _=>exact bR h
theorem WB (G:GW H₀ mg mb) (hC:bk prog w H₀ mg n C) (f x:Str) (args:List Expr) (pf px p:Pos):TH prog w H₀ n C (.Call (.Name f pf) (.Name x px::args) [] p):=λ{A env sc O₀ W pr P ρ ρ' F s d E} cx S wf h=>by
 refine B5 h λts hx us h1 ds h2 r h3 t' rest hr e=>?_
 cases e
 exact W6 G hC cx S hx wf (t7 h2▸h1) (h3.trans (congrArg some (congrArg (Prod.mk r.1) hr)))
theorem Uo (G:GW H₀ mg mb) (hC:bk prog w H₀ mg n C){l r:Expr}(hr:TH prog w H₀ n C r) (op:Operator) (p:Pos):TH prog w H₀ n C (.BinOp l op r p):=λ{A env sc O₀ W pr P ρ ρ' F s d E} cx S wf h=>by
 revert h
 refine bl λa h1=>bv λb h3=>mv λd' h4 h5=>?_
 cases h5
 refine wpAny_BinOp (wm (ph G hC l cx (a6 wf).1 S.iI h1) (λva s₁ p1=>wm (hr cx (S.kp p1.keeps) (a6 wf).2 h3) (λvb s₂ q=>?_)))
 exact iw q λF' S' M' r'=>wm (P1 ⟨_,cx.room⟩ cx.lQ (G.seer S'.dP) (G.wb S'.dP) S'.dP.alive (p1.gU.tr (M'.T (S.kp p1.keeps))) r' h4) λv s₃ x=>⟨F',S'.kp x.keeps,(Mv.kp p1.keeps).tr (M'.tr (Mv.kp x.keeps)),x.rep⟩
theorem PA {e:Expr}{ρ:au}{r:DV×au}(h:kB C e ρ=some r) (a:Expr) (p:Pos) (q:e=.Starred a p):False:=bR (q▸h:kB C (.Starred a p) ρ=some r)
theorem UQ {a b:Expr}(ha:TH prog w H₀ n C a) (hb:TH prog w H₀ n C b) (k:Nat) (p:Pos):TH prog w H₀ n C (.Tuple [a,b] k p):=λ{A env sc O₀ W pr P ρ ρ' F s d E} cx S wf h=>by
 have wf:=pX (a6 wf).1 (a6 (a6 wf).2).1
 revert h
 refine bv λu0 h1=>bv λu1 h2 h3=>?_
 obtain⟨d1,ρ1⟩:=u0
 obtain⟨d2,ρ2⟩:=u1
 cases h3
 refine wpAny_Tuple ?_
 refine(ak (qY (PA h1)))▸(ak (qY (PA h2)))▸?_
 refine bW (wm (ha cx S wf.1 h1) λva s₁ q=>bW (iw q λF₁ S₁ M₁ r₁=>wm (hb cx S₁ wf.2 h2) λvb s₂ q=>g0 (iw q λF₂ S₂ M₂ r₂=>?_)))
 have k:=Kp.push s₂ { cls:=.type "tuple",data:=.seq [va,vb].toArray }
 exact⟨(by decide:2≤sizeLine),F₂,S₂.kp k,M₁.tr (M₂.tr (Mv.kp k)),.tup ⟨_,bK _ rfl,rfl,0,rfl⟩ (λhO=>(S₂.dP.alive _ hO).elim λo e=>fH (qZ _) e) (.cons ((r₁.tr (M₂.T S₁)).tr (Tr.keeps k.fn)) (.cons (r₂.tr (Tr.keeps k.fn)) .nil))⟩
theorem Up (G:GW H₀ mg mb) (hC:bk prog w H₀ mg n C){v i:Expr}(hi:TH prog w H₀ n C i) (p:Pos):TH prog w H₀ n C (.Subscript v i p):=λ{A env sc O₀ W pr P ρ ρ' F s d E} cx S wf h=>by
 revert h
 refine bl λa h1=>bv λk h3=>bl λd' h4 h6=>?_
 cases h6
 exact Subscript_ (wm (ph G hC v cx (a6 wf).1 S.iI h1) λva s₁ p1=>wm (hi cx (S.kp p1.keeps) (a6 wf).2 h3) λvi s₂ q=>iw q λF₂ S₂ M₂ r₂=>wm (PH (as:=[]) (bs:=[]) (.af (p1.gU.tr (M₂.T (S.kp p1.keeps)))) (.af r₂) h4) λx s₃ y=>
  ⟨F₂,S₂.kp y.keeps,(Mv.kp p1.keeps).tr (M₂.tr (Mv.kp y.keeps)),y.gU⟩)
theorem Z7 (G:GW H₀ mg mb) (hC:bk prog w H₀ mg n C) (f:Expr) (es:List Expr) (kw:List Keyword) (p:Pos):TH prog w H₀ n C (.Call f es kw p):=λ{A env sc O₀ W pr P ρ ρ' F s d E} cx S wf h=>by
 cases es with
 | nil=>exact bJ h λZ Z h=>bR h
 | cons e es=>
  cases kw with
  | cons _ _=>exact bJ h λZ Z h=>bJ h λZ Z h=>bR h
  | nil=>
   refine bJ h λx hx h'=>bJ h' λy hy h2=>?_
   exact(oR hx).elim λq e1=>(oR hy).elim λq' e2=>by
    subst e1 e2
    exact WB G hC _ _ _ _ _ p cx S wf h2
theorem ZH {es:List Expr}(h:∀ e∈es,TH prog w H₀ n C e) (k:Nat) (p:Pos):TH prog w H₀ n C (.Tuple es k p):=by
 cases es with
 | nil=>exact kA λZ=>rfl
 | cons a es=>
  cases es with
  | nil=>exact kA λZ=>rfl
  | cons b es=>
   cases es with
   | nil=>exact UQ (h a (.head _)) (h b (.tail _ (.head _))) k p
   | cons _ _=>exact kA λZ=>rfl
mutual
theorem F0 (G:GW H₀ mg mb) (hC:bk prog w H₀ mg n C):∀ e:Expr,TH prog w H₀ n C e
 | .Call f es kw p=>Z7 G hC f es kw p
 | .BinOp l op r p=>Uo G hC (F0 G hC r) op p
 | .Tuple es k p=>ZH (v8 G hC es) k p
 | .Subscript v i p=>Up G hC (F0 G hC i) p
 | .UnaryOp ..=>kA λZ=>rfl
 | .IfExp ..=>kA λZ=>rfl
 | .Compare ..=>kA λZ=>rfl
 | .List ..=>kA λZ=>rfl
 | .ListComp ..=>kA λZ=>rfl
 | .Name ..=>kA λZ=>rfl
 | .Constant ..=>kA λZ=>rfl
 | .BoolOp ..=>kA λZ=>rfl
 | .NamedExpr ..=>kA λZ=>rfl
 | .Lambda ..=>kA λZ=>rfl
 | .Dict ..=>kA λZ=>rfl
 | .Set ..=>kA λZ=>rfl
 | .SetComp ..=>kA λZ=>rfl
 | .DictComp ..=>kA λZ=>rfl
 | .GeneratorExp ..=>kA λZ=>rfl
 | .Await ..=>kA λZ=>rfl
 | .Yield ..=>kA λZ=>rfl
 | .YieldFrom ..=>kA λZ=>rfl
 | .FormattedValue ..=>kA λZ=>rfl
 | .JoinedStr ..=>kA λZ=>rfl
 | .Attribute ..=>kA λZ=>rfl
 | .Starred ..=>kA λZ=>rfl
 | .Slice ..=>kA λZ=>rfl
theorem v8 (G:GW H₀ mg mb) (hC:bk prog w H₀ mg n C):∀ es:List Expr,∀ e∈es,TH prog w H₀ n C e
 | [],_,q=>nomatch q
 | e::es,x,q=>by
  refine(aC.mp q).elim (λq=>?_) λq=>?_
  ·exact(ak q)▸(F0 G hC e)
  ·exact v8 G hC es x q
end
end
end
section
variable {prog:Program}{w:World}
noncomputable def eN (C:ey) (PN:List Str) (e:Expr) (ρ:au):Option (OT×Bool×au):=
 match (ev C e ρ).bind OT.lf with
 | some d=>some (.af d,bo e,ρ)
 | none=>match kB C e ρ with
  | some r=>some (.af r.1,false,r.2)
  | none=>((ev C e (bX PN ρ)).bind OT.lf).map λd=>(.af d,bo e,bX PN ρ)
theorem ND {C:ey}{e:Expr}{ρ:au}{d:DV}(h:(ev C e ρ).bind OT.lf=some d):ev C e ρ=some (.af d):=by
 revert h
 refine bv λt h1 h2=>?_
 exact(ak h1)▸(ak (lh h2))▸rfl
noncomputable def ownOf (fr:Bool) (d:DV):OT:=
 match fr,d with
 | true,.list l=>.own (l.map .af)
 | _,d=>.af d
noncomputable def G':DV→Bool
 | .list _=>true
 | _=>false
theorem Yd {d:DV}(h:G' d=true):∃ l,d=.list l:=by
 cases d<;>first | exact lN h | exact⟨_,rfl⟩
noncomputable def nL (C:ey) (PN:List Str) (lv:Nat) (e:Expr) (ρ:au):Option (OT×au):=
 match lv with
 | 0=>(eN C PN e ρ).bind λr=>r.1.lf.bind λd=>some (.af d,r.2.2)
 | 1=>(eN C PN e ρ).bind λr=>r.1.lf.bind λd=>some (ownOf r.2.1 d,r.2.2)
 | 2=>match e with
  | .ListComp elt (g::gs) sc _=>if (sc.names.all λp=>p.2 != .free||(ρ.lookup p.1).isSome)&&bo elt then
    (fU C (g::gs) ρ (seen sc ρ) λρ'=>(ev C elt ρ').bind λt=>t.lf.bind λd=>some [d]).bind λl=>if l.length≤bh&&l.all G' then some (.own (l.map (iQ true)),ρ) else none
    else none
  | _=>none
 | _=>match e with
  | .Dict [] [] _=>some (.fI [],ρ)
  | _=>none
section
variable {A:Around}{E:Value→Shared→Prop}{H₀:Heap}{mg mb:Str→Option Value}{O₀:Addr→Prop}{env:Env}{sc:Scope}{W:List Addr}{pr:List (Str×Value)}{ρ:au}{F:Str→List Addr}{P:List Pv}{s s':Shared}{n:Nat}{C:ey}
theorem Ed {PN:List Str}{e:Expr}{d:DV}{fr:Bool}{ρ':au}{P:Prop}(h:eN C PN e ρ=some (.af d,fr,ρ')) (k1:ev C e ρ=some (.af d)→bo e=fr→ρ=ρ'→P) (k2:kB C e ρ=some (d,ρ')→false=fr→P) (k3:ev C e (bX PN ρ)=some (.af d)→bo e=fr→bX PN ρ=ρ'→P):P:=by
 unfold eN at h
 cases e1:(ev C e ρ).bind OT.lf with
 | some d'=>rw[e1] at h;cases h;exact k1 (ND e1) rfl rfl
 | none=>
  rw[e1] at h
  refine osc (kB C e ρ) (λr e2=>?_) (λe2=>?_)
  ·rw[e2] at h;cases h;exact k2 e2 rfl
  ·rw[e2] at h;exact jF h λd' h1 h2=>by cases h2;exact k3 (ND h1) rfl rfl
theorem oD.plain {v:Value}{d:DV}(S:SS prog w H₀ O₀ env sc W pr ρ F P s) (k:Kp s s') (r:Rep s'.heap (HS O₀ F P) v d):oD prog w H₀ O₀ env sc W pr ρ P F s (.af d) v s':=
 dJ (S.push k (as:=[]) (.af (r.tr λa o hO e Z=>⟨e,λq=>q.elim hO nofun⟩)) nofun .nil) λS₂ M₂=>⟨F,[],S₂,M₂⟩
theorem oD.mv {v:Value}{t:OT}{F':Str→List Addr}{s₀:Shared}(M:Mv W F P s F' P s₀) (x:oD prog w H₀ O₀ env sc W pr ρ P F' s₀ t v s'):oD prog w H₀ O₀ env sc W pr ρ P F s t v s':=mZ x λF' as S N=>⟨F',as,S,M.tr N⟩
theorem oD.res {v:Value}{d:DV}{fr:Bool}(S:SS prog w H₀ O₀ env sc W pr ρ F P s) (p:Res s (HS O₀ F P) fr d v s') (wd:Bool):oD prog w H₀ O₀ env sc W pr ρ P F s (if wd then ownOf fr d else .af d) v s':=by
 cases wd with
 | false=>exact oD.plain S p.keeps p.rep
 | true=>
  cases fr with
  | false=>exact oD.plain S p.keeps p.rep
  | true=>
   cases d with
   | list l=>
    exact Bk (p.fresh rfl l rfl) λa vs ev h2 h3 h4=>by
     subst ev
     exact dJ (S.push p.keeps (as:=[a]) (t:=.own (l.map .af)) (.own h3 (aM.kg (h4.tr λb o hO e Z=>⟨e,λq=>hO (q.imp id aK.mp)⟩))) (λb hb=>pV (P:=λb=>s.heap.get? b=none) hb h2) (eW _ a)) λS₂ M₂=>⟨F,[a],S₂,M₂⟩
   | _=>exact oD.plain S p.keeps p.rep
theorem vR (G:GW H₀ mg mb) (hC:bk prog w H₀ mg n C) (cx:Cx prog n A env sc){PN:List Str}{e:Expr}{d:DV}{fr:Bool}{ρ':au}(S:SS prog w H₀ O₀ env sc W pr ρ F P s) (wf:dY sc e=true) (h:eN C PN e ρ=some (.af d,fr,ρ')) (wd:Bool) :
  wpAny (model prog w) A (eval e env) (oD prog w H₀ O₀ env sc W pr ρ' P F s (if wd then ownOf fr d else .af d)) E s:=by
 refine Ed h (λhe e1 e2=>?_) (λhr e1=>?_) λhe e1 e2=>?_
 ·subst e1 e2
  exact wm (ph G hC e cx wf S.iI he) λv s₁ p=>oD.res S (p.af d rfl) wd
 ·subst e1
  exact wm (F0 G hC e cx S wf hr) λv s₁ q=>iw q λF' S' M' r'=>(by cases wd<;>rfl:OT.af d=if wd then ownOf false d else .af d)▸(oD.plain S' (Kp.rf s₁) r').mv M'
 ·subst e1 e2
  exact iw (S.freeze PN) λF₁ S₁ M₁ Z=>wm (ph G hC e cx wf S₁.iI he) λv s₁ p=>(oD.res S₁ (p.af d rfl) wd).mv M₁
theorem ZX {Q:Value→Shared→Prop}{p:Pos}(h:Q (.ref s.heap.objs.size) { s with heap:=s.heap.push { cls:=.type "dict",data:=.dict #[] } }):wpAny (model prog w) A (eval (.Dict [] [] p) env) Q E s:=by
 rw[eval_Dict_empty]
 exact wpAny_bind (wpAny_standAt (wpAny_newObj_type h))
set_option tactic.hygienic true in
theorem L8 {P:Expr→OT→au→Prop}{PN:List Str}{lv:Nat}{e:Expr}{t:OT}{ρ':au}(h:nL C PN lv e ρ=some (t,ρ'))
  (k0:∀ d fr ρ1,eN C PN e ρ=some (.af d,fr,ρ1)→P e (.af d) ρ1) (k1:∀ d fr ρ1,eN C PN e ρ=some (.af d,fr,ρ1)→P e (ownOf fr d) ρ1)
  (k2:∀ elt g gs sc p l,(sc.names.all λp=>p.2 != .free||(ρ.lookup p.1).isSome)=true→bo elt=true→fU C (g::gs) ρ (seen sc ρ) (λρ'=>(ev C elt ρ').bind λt=>t.lf.bind λd=>some [d])=some l→l.length≤bh→l.all G'=true→P (.ListComp elt (g::gs) sc p) (.own (l.map (iQ true))) ρ)
  (k3:∀ p,P (.Dict [] [] p) (.fI []) ρ):P e t ρ':=by
 rcases lv with _ | _ | _ | lv
 ·exact bw (λd fr ρ1 h1 h3=>by cases h3;exact k0 d fr ρ1 h1) h
 ·exact bw (λd fr ρ1 h1 h3=>by cases h3;exact k1 d fr ρ1 h1) h
 ·clear k0 k1 k3
  cases e<;>first | exact bR h | skip
  rename_i elt gens cB p
  cases gens with
  | nil=>exact bR h
  | cons g gs=>
   exact gg h λhh h=>bJ h λl h1 h=>gg h λhc h=>by
    cases h
    exact k2 elt g gs cB p l (a6 hh).1 (a6 hh).2 h1 (of_decide_eq_true (a6 hc).1) (a6 hc).2
 ·clear k0 k1 k2
  cases e<;>first | exact bR h | skip
  rename_i ks vs p
  cases ks<;>cases vs<;>first | exact bR h | (cases h;exact k3 p)
theorem N9 (G:GW H₀ mg mb) (hC:bk prog w H₀ mg n C) (cx:Cx prog n A env sc){PN:List Str}{lv:Nat}{e:Expr}{t:OT}{ρ':au}(S:SS prog w H₀ O₀ env sc W pr ρ F P s) (wf:dY sc e=true) (h:nL C PN lv e ρ=some (t,ρ')) :
  wpAny (model prog w) A (eval e env) (oD prog w H₀ O₀ env sc W pr ρ' P F s t) E s:=by
 refine L8 (P:=λe t ρ'=>dY sc e=true→wpAny (model prog w) A (eval e env) (oD prog w H₀ O₀ env sc W pr ρ' P F s t) E s) h (λd fr ρ1 h1 wf=>vR G hC cx S wf h1 false) (λd fr ρ1 h1 wf=>vR G hC cx S wf h1 true)
  (λelt g gs cB p l hh1 hh2 h1 hc1 Hh wf=>?_) (λp wf=>?_) wf
 ·obtain⟨tg,it,ifs,ia⟩:=g
  have fin:∀ acc Cc s',rO prog w H₀ (HS O₀ F P) true l s acc Cc s'→compPost (model prog w) A E none (oD prog w H₀ O₀ env sc W pr ρ P F s (.own (l.map (iQ true)))) (.ref acc) Cc (.ok .next) s':=λacc Cc s' x=>x.ns.elim λm hn=>⟨m,hn,λh' hs=>
   Qz (x.gone (tk:=s'.toks) hs) λk ys as hl hr q1 q2 q3 q4=>dJ (S.push k (as:=acc::as) (t:=.own (l.map (iQ true))) (v:=.ref acc) (.own hl (hr.tr (λb o hO e Z=>⟨e,λq=>hO (q.elim .inl λz=>.inr ((aC.mp z).imp id id))⟩) λZ Z Z e=>e))
    (λb hb=>(aC.mp hb).elim (λq=>q▸x.oq) (q1 b)) (a9.mpr ⟨q3,q2⟩)) λS₂ M₂=>⟨F,_,S₂,M₂⟩⟩
  refine tY (I9 (own:=true) (E:=E) (RR:=λacc C=>compPost (model prog w) A E none _ acc C) cx wf (Jm G hC it) (O4 G hC ifs) (Ox G hC gs) (ph G hC elt) (λZ=>hh2) S.iI hh1 h1 hc1 (λZ d hd=>Yd (aA.mp Hh d hd):true=true→∀ d∈l,∃ l',d=DV.list l') fin) λe h3 h4 h5 h6 h7=>?_
  subst e
  rw[eval_ListComp]
  exact wpAny_comprehension_free (use:=none) rfl h3 h4 h5 h6 h7
 ·exact ZX (dJ (S.push (Kp.push s { cls:=.type "dict",data:=.dict #[] }) (as:=[s.heap.objs.size]) (t:=.fI []) (v:=.ref s.heap.objs.size) (.fI ⟨[],MM _,rfl,λZ h=>(bT h).elim⟩) (λb hb=>pV (P:=λb=>s.heap.get? b=none) hb (qZ _)) (eW _ _)) λS₂ M₂=>⟨F,_,S₂,M₂⟩)
end
end
section
variable {prog:Program}{w:World}
noncomputable def fK:List Str→List OT→au→au
 | x::xs,t::ts,ρ=>fK xs ts (put x t ρ)
 | _,_,ρ=>ρ
noncomputable def dk:List Expr→Option (List Str)
 | []=>some []
 | e::r=>(lu e).bind λx=>(dk r).map (x::·)
theorem J3 {y:Str}:∀ {xs:List Str}{ts:List OT}{ρ:au},xs.Nodup→xs.length=ts.length→(fK xs ts ρ).lookup y=((xs.zip ts).lookup y).or (ρ.lookup y)
 | [],[],ρ,_,_=>rfl
 | x::xs,t::ts,ρ,hn,hl=>by
  refine dJ (a9.mp hn) λh1 h2=>?_
  show(fK xs ts (put x t ρ)).lookup y=_
  rw[J3 h2 (by simpa using hl),vZ,de]
  by_cases h:y=x
  ·subst h
   have:(xs.zip ts).lookup y=none:=by
    cases q:(xs.zip ts).lookup y with
    | none=>rfl
    | some u=>exact absurd (gB (q7 q)).1 h1
   rw[this,if_pos rfl,lookup_cons_self];rfl
  ·rw[if_neg h,oU h]
theorem QU {l:List (Str×OT)}{x:Str}{t:OT}(hn:(l.map (·.1)).Nodup) (h:(x,t)∈l):l.lookup x=some t:=by
 induction l with
 | nil=>cases h
 | cons p l ih=>
  obtain⟨y,u⟩:=p
  rw[a8,a9] at hn
  rcases aC.mp h with q | q
  ·cases q;exact lookup_cons_self
  ·have:x≠y:=λz=>hn.1 (by rw[←z];exact aE.mpr ⟨_,q,rfl⟩)
   rw[oU this];exact ih hn.2 q
theorem y6Q {l m:List (Str×OT)}(hp:l.Perm m) (hn:(l.map (·.1)).Nodup) (x:Str):l.lookup x=m.lookup x:=by
 cases q:l.lookup x with
 | some t=>exact(QU ((hp.map _).nodup_iff.mp hn) (hp.mem_iff.mp (q7 q))).symm
 | none=>
  cases q':m.lookup x with
  | none=>rfl
  | some t=>rw[QU hn (hp.mem_iff.mpr (q7 q'))] at q;cases q
theorem Pp {α β:Type}:∀ {xs:List α}{ts:List β},xs.length=ts.length→xs.reverse.zip ts.reverse=(xs.zip ts).reverse
 | [],[],_=>rfl
 | x::xs,t::ts,h=>by
  have h':xs.length=ts.length:=by simpa using h
  rw[fE,fE,List.zip_append (by simpa using h'),Pp h']
  show _=((x,t)::xs.zip ts).reverse
  rw[fE]
  rfl
theorem y5T {xs:List Str}{ts:List OT}{ρ:au}(hn:xs.Nodup) (hl:xs.length=ts.length) (y:Str):(fK xs ts ρ).lookup y=(fK xs.reverse ts.reverse ρ).lookup y:=by
 rw[J3 hn hl,J3 ((g7 xs).nodup_iff.mpr hn) (by simpa using hl)]
 have:xs.reverse.zip ts.reverse=(xs.zip ts).reverse:=Pp hl
 rw[this]
 congr 1
 refine y6Q (g7 _).symm ?_ y
 rw[lU (by exact rl 0x6a0287a02802 rfl _ _ hl)]
 exact hn
section
variable {A:Around}{E:Value→Shared→Prop}{H₀:Heap}{mg mb:Str→Option Value}{O₀:Addr→Prop}{env:Env}{sc:Scope}{W:List Addr}{pr:List (Str×Value)}{ρ:au}{F:Str→List Addr}{P:List Pv}{s s':Shared}{n:Nat}{C:ey}
noncomputable def lj (sc:Scope) (x:Str):Bool:=!dunder x&&(sc.names.lookup x==some .local||sc.names.lookup x==some .cell)
theorem uG {x:Str}(h:lj sc x=true):dunder x=false∧(sc.names.lookup x=some .local∨sc.names.lookup x=some .cell):=by
 simpa [lj] using h
theorem Ql (e:nR env sc){qs:List (Str×(Value→Sem Unit))}:∀ {P₀:List Pv}{ρ:au}{F:Str→List Addr}{s:Shared},qs.length=P₀.length →
   (∀ q∈qs,(lj sc q.1=true∧∀ r∈pr,r.1≠q.1)∧∀ (v:Value) (s:Shared) (Q:Unit→Shared→Prop),wpAny (model prog w) A (storeName env q.1 v) Q E s→wpAny (model prog w) A (q.2 v) Q E s) →
   SS prog w H₀ O₀ env sc W pr ρ F (P₀++P) s →
   wpAny (model prog w) A (assignInOrder (qs.map (·.2)) (P₀.map (·.v))) (λZ s'=>∃ F',SS prog w H₀ O₀ env sc W pr (fK (qs.map (·.1)) (P₀.map (·.t)) ρ) F' P s'∧Mv W F (P₀++P) s F' P s') E s:=by
 induction qs with
 | nil=>
  intro P₀ ρ F s hl _ S
  cases P₀ with
  | nil=>exact assignInOrder_nil ⟨F,S,Mv.rf ..⟩
  | cons=>cases hl
 | cons q qs ih=>
  intro P₀ ρ F s hl og S
  cases P₀ with
  | nil=>cases hl
  | cons p P₀=>
   have k:=og q (.head _)
   have o:=uG k.1.1
   exact assignInOrder_cons (k.2 _ _ _ (wm (BD e S o.2 o.1 k.1.2) λZ s₁ z=>wm (ih (vy hl) (λy hy=>og y (.tail _ hy)) z.1) λZ s₂ y=>aT y λF₂ S₂ M₂=>⟨F₂,S₂,z.2.tr M₂⟩))
theorem y4W {ts:List Expr}{xs:List Str}(h:dk ts=some xs):(∀ t∈ts,∃ x p,t=.Name x p)∧ts.length=xs.length ∧
  ∃ ps:List Pos,ps.length=xs.length∧(assignEach ts env)=(xs.zip ps).map (λq=>(false,assign (.Name q.1 q.2) env)):=by
 induction ts generalizing xs with
 | nil=>cases h;exact⟨λZ h=>(nomatch h),rfl,[],rfl,rfl⟩
 | cons t ts ih=>
  refine bJ h λx hx=>mv λys h1 e=>(oR hx).elim λp et=>IY (ih h1) λa b ps c d=>?_
  subst e et
  exact⟨λt ht=>(aC.mp ht).elim (λq=>⟨x,p,q⟩) (a t),congrArg (·+1) b,p::ps,congrArg (·+1) c,congrArg (eZ (false,assign (.Name x p) env)) d⟩
end
end
section
variable {prog:Program}{w:World}
section
variable {A:Around}{E:Value→Shared→Prop}{H₀:Heap}{mg mb:Str→Option Value}{O₀:Addr→Prop}{env:Env}{sc:Scope}{W:List Addr}{pr:List (Str×Value)}{ρ:au}{F:Str→List Addr}{P:List Pv}{s s':Shared}{n:Nat}{C:ey}
theorem SS.but {Cc:Addr}{h':Heap}{tk:Nat}(S:SS prog w H₀ O₀ env sc W pr ρ F P s) (hn:∃ m,s.heap.Ns Cc m) (hW:Cc∉W) (hO:¬ HS O₀ F P Cc) (hH:H₀.get? Cc=none) (hs:dO Cc s.heap h') :
  SS prog w H₀ O₀ env sc W pr ρ F P { s with heap:=h',toks:=tk }:=by
 refine PQ hn λm o es ep ho hd Z=>?_;clear hn
 have g:∀ b,b≠Cc→∀ ob,s.heap.get? b=some ob→h'.get? b=some ob:=λb hb ob e=>(hs.2 b hb).trans e
 have T:Tr s.heap (HS O₀ F P) h' (HS O₀ F P):=λb ob yy e hq=>⟨g b (λq=>zX hd (ai (e.symm.trans (q▸ho))▸hq)) ob e,yy⟩
 have own:∀ {b},HS O₀ F P b→b≠Cc:=λhb q=>hO (q▸hb)
 have VV:∀ y u,bV env s.heap y u→bV env h' y u:=λy u X=>X.mv (λo e Z=>g _ (λq=>hW (q▸S.ie.loc)) o e) λb o' u e hdd=>g b (λq=>nomatch (ai (ho.symm.trans (q▸e))▸hd:o'.data=.dict es ep).symm.trans hdd) o' e
 exact⟨⟨λb ob e=>g b (λq=>fH hH (q▸e)) ob (S.dP.up b ob e),S.dP.new,λa ha=>(S.dP.alive a ha).elim λob e=>⟨ob,g a (own ha) ob e⟩⟩,
  λx t hx=>nG (S.vars x t hx) λh1 v h2 h3=>⟨h1,v,VV _ _ h2,h3.tr T λa ha ob e=>g a (own (.inr (.inr ⟨x,ha⟩))) ob e⟩,S.out,
  λp hp=>(S.pend p hp).tr T λa ha ob e=>g a (own (.inr (.inl (bN.mpr ⟨p,hp,ha⟩)))) ob e,S.nd,S.pP,S.ub,S.jm,S.off,S.kP,
  S.ie.kp λa ha ob e=>g a (λq=>hW (q▸ha)) ob e,λp hp=>VV _ _ (S.par p hp)⟩
theorem Mv.but {F':Str→List Addr}{P':List Pv}{Cc:Addr}{h':Heap}{tk:Nat}(M:Mv W F P s F' P' s') (hC:s.heap.get? Cc=none) (hs:dO Cc s'.heap h'):Mv W F P s F' P' { s' with heap:=h',toks:=tk }:=
 have ne:∀ b o,s.heap.get? b=some o→b≠Cc:=λb o e q=>fH hC (q▸e)
 ⟨iB M.same λh t e=>⟨h',tk,by rw[e]⟩,λb o hb hn e=>(hs.2 b (ne b o e)).trans (M.get b o hb hn e),M.new,λa o e=>(M.al a o e).elim λo' e'=>⟨o',(hs.2 a (ne a o e)).trans e'⟩⟩
theorem X3 (G:GW H₀ mg mb) (hC:bk prog w H₀ mg n C) (cx:Cx prog n A env sc){x:Str}{pos:Pos}{elt:Expr}{g:Comprehension}{gs:List Comprehension}{cB:Scope}{d:DV}{u:Value→Sem Unit}(hu:∀ (v:Value) (s:Shared) (Q:Unit→Shared→Prop),wpAny (model prog w) A (storeName env x v) Q E s→wpAny (model prog w) A (u v) Q E s) (S:SS prog w H₀ O₀ env sc W pr ρ F P s)
  (wf:dY sc (.ListComp elt (g::gs) cB pos)=true) (he:ev C (.ListComp elt (g::gs) cB pos) ρ=some (.af d)) (ok:lj sc x=true) (hp:∀ q∈pr,q.1≠x) :
  wpAny (model prog w) A (comprehension (.ListComp elt (g::gs) cB pos) cB env (firstIterPos (g::gs) pos) (newList []) (firstAsync (g::gs)) (firstIter (g::gs) env) (some u))
   (λZ=>j2 prog w H₀ O₀ env sc W pr (put x (.af d) ρ) P F s) E s:=by
 refine gg he λlO he=>bJ he λout h1 he=>gg he λhc h2=>?_
 clear he
 cases h2
 obtain⟨tg,it,ifs,ia⟩:=g
 have ok:=uG ok
 refine tY (I9 (own:=false) (E:=E) (RR:=λacc C=>compPost (model prog w) A E (some u) (λZ=>j2 prog w H₀ O₀ env sc W pr (put x (.af (.list out)) ρ) P F s) acc C) cx wf (Jm G hC it) (O4 G hC ifs) (Ox G hC gs) (ph G hC elt) nofun S.iI lO h1 hc nofun
  λacc Cc s' z=>?_) λe h3 h4 h5 h6 h7=>by subst e;exact wpAny_comprehension_free (use:=some u) rfl h3 h4 h5 h6 h7
 refine QA z.val λys as hl hr Z Z Z Z Z=>?_
 rw[show out.map (iQ false)=out.map .af from dC λd Z=>by cases d<;>rfl] at hr
 have pQ:∀ {b},s.heap.get? b=none→¬ HS O₀ F P b:=λe q=>(S.dP.alive _ q).elim λo e'=>fH e e'
 refine dJ (S.push z.kp (as:=[]) (v:=.ref acc) (t:=.af (.list out)) (.af (.list hl.isList (λq=>q.elim (pQ z.oq) nofun) (hr.fT.tr λa o yy e Z=>⟨e,λq=>yy (q.elim .inl nofun)⟩))) nofun .nil) λS₁ M₁=>?_
 have CW:Cc∉W:=λq=>aT (S.ie.data Cc q) λo e Z=>fH z.fC e
 have CO:=pQ z.fC
 refine hu _ _ _ (wm (BD (prog:=prog) (w:=w) (A:=A) (E:=E) cx.env S₁ ok.2 ok.1 hp) λZ mh q=>dJ q λS₂ M₂=>PQ z.ns λm o es ep ho hd rest=>?_)
 have CR:mh.heap.Ns Cc m:=⟨o,es,ep,M₂.get Cc o CW (λq=>CO (.inr q)) ho,hd,rest⟩
 exact⟨m,CR,λh' hs=>⟨_,S₂.but (tk:=mh.toks) ⟨m,CR⟩ CW (λq=>CO (Gi q)) (kC (H₀.get? Cc) id λo q=>fH z.fC (S.dP.up Cc o q)) hs,(M₁.tr M₂).but (tk:=mh.toks) z.fC hs⟩⟩
noncomputable def lcP:(e:Expr)→Option {u:Unit // ∃ elt gens sc p,e=.ListComp elt gens sc p}
 | .ListComp _ _ _ _=>some ⟨(),_,_,_,_,rfl⟩
 | _=>none
noncomputable def fu (e:Expr):Bool:=(lcP e).isSome
theorem XY {C:ey}{PN:List Str}{lv:Nat}{x:Str}{px:Pos}{e:Expr}{r:OT×au}{l:Nat}(hc:fu e=false) (h:nL C PN lv e ρ=some r):swapsWith e (some (.Name x px)) l env=pure false:=by
 cases e<;>first | rfl | (cases hc;done) | (rcases lv with _ | _ | _ | lv<;>exact bR h)
theorem y6S {e:Expr}(h:fu e=true):∃ elt gens sc p,e=.ListComp elt gens sc p:=by
 exact(dp.mp h).elim λa Z=>a.2
theorem WT (G:GW H₀ mg mb) (hC:bk prog w H₀ mg n C) (cx:Cx prog n A env sc){PN:List Str}{lv:Nat}{x:Str}{px pos:Pos}{e:Expr}{t:OT}{ρ':au}(S:SS prog w H₀ O₀ env sc W pr ρ F P s) (wf:dY sc e=true) (ok:lj sc x=true) (hp:∀ q∈pr,q.1≠x)
  (LI:fu e=true→lv=0) (h:nL C PN lv e ρ=some (t,ρ')) :
  wpAny (model prog w) A (exec (.Assign [.Name x px] e pos) env) (λf s'=>f=.next∧j2 prog w H₀ O₀ env sc W pr (put x t ρ') P F s s') E s:=by
 have G5:=uG ok
 have plain:swapsWith e (some (.Name x px)) pos.line env=pure false→wpAny (model prog w) A (exec (.Assign [.Name x px] e pos) env) (λf s'=>f=.next∧j2 prog w H₀ O₀ env sc W pr (put x t ρ') P F s s') E s:=λhs=>
  wpAny_Assign_Name (wm (N9 G hC cx S wf h) λv s₁ q=>mZ q λF₁ as S₁ M₁=>wm (BD (prog:=prog) (w:=w) (A:=A) (E:=E) cx.env S₁ G5.2 G5.1 hp) λZ s₂ q=>⟨rfl,_,q.1,M₁.tr q.2⟩) hs
 refine EE (fu e) (λAe=>?_) λAe=>plain (XY Ae h)
 refine F4 (y6S Ae) λelt gens cB tK ee=>?_
 have e0:=LI Ae
 subst ee e0
 cases gens with
 | nil=>exact lN (a6 (a6 (a6 (a6 wf).1).1).1).2
 | cons g gs=>
  refine EE (env.blockKind==.function&&env.kindOf x==some .local&&px.line==tK.line&&!(cB.names.any λ(n,k)=>n==x&&(k==.local||k==.cell))) (λhs=>?_) λhs=>plain (congrArg pure hs)
  have Hb:swapsWith (.ListComp elt (g::gs) cB tK) (some (.Name x px)) pos.line env=pure true:=congrArg pure hs
  rw[exec_Assign_Name_used _ _ _ _ Hb]
  have fs:wpAny (model prog w) A (comprehension (.ListComp elt (g::gs) cB tK) cB env (firstIterPos (g::gs) tK) (newList []) (firstAsync (g::gs)) (firstIter (g::gs) env) (some (assign (.Name x px) env)))
     (λZ=>j2 prog w H₀ O₀ env sc W pr (put x t ρ') P F s) E s:=by
   revert h
   refine bw λd fr ρ1 h1 h3=>?_
   have z:=eO (ai h3)
   have go:∀ {F₁:Str→List Addr}{ρ₁},SS prog w H₀ O₀ env sc W pr ρ₁ F₁ P s→Mv W F P s F₁ P s→ev C (.ListComp elt (g::gs) cB tK) ρ₁=some (.af d)→ρ₁=ρ1→_:=λ{F₁ ρ₁} S₁ M₁ he e=>
    wm (X3 (E:=E) (u:=assign (.Name x px) env) G hC cx (λv s Q z=>wpAny_assign_Name z) S₁ wf he ok hp) λZ s' q=>aT q λF' a b=>(⟨F',z.1▸z.2▸(e▸a:SS prog w H₀ O₀ env sc W pr (put x (.af d) ρ1) F' P s'),M₁.tr b⟩:j2 prog w H₀ O₀ env sc W pr (put x t ρ') P F s s')
   exact Ed h1 (λhe Z e=>go S (Mv.rf ..) he e) (λhr Z=>bR hr) λhe Z e=>iw (S.freeze PN) λF₁ S₁ M₁ Z=>go S₁ M₁ he e
  exact wpAny_bind (wpAny_standAt (wpAny_bind (wpAny_bind (wm fs λZ s' q=>wpAny_pure (wpAny_pure ⟨rfl,q⟩)))))
end
end
section
variable {prog:Program}{w:World}
noncomputable def gG (M:List (Str×Nat)) (x:Str):Nat:=(M.lookup x).getD 0
noncomputable def j0 (C:ey) (PN:List Str) (M:List (Str×Nat)):List Str→List Expr→au→Option (List OT×au)
 | x::xs,e::es,ρ=>(nL C PN (gG M x) e ρ).bind λa=>(j0 C PN M xs es a.2).bind λb=>some (a.1::b.1,b.2)
 | [],[],ρ=>some ([],ρ)
 | _,_,_=>none
noncomputable def jU (vs:List Expr):Bool:=vs.all (foldedForSure 8)||!(vs.all (constantsAlone 8))
section
variable {A:Around}{E:Value→Shared→Prop}{H₀:Heap}{mg mb:Str→Option Value}{O₀:Addr→Prop}{env:Env}{sc:Scope}{W:List Addr}{pr:List (Str×Value)}{ρ:au}{F:Str→List Addr}{P:List Pv}{s s':Shared}{n:Nat}{C:ey}
theorem ZM {PN:List Str}{lv:Nat}{e:Expr}{r:OT×au}(h:nL C PN lv e ρ=some r):∀ a p,e≠.Starred a p:=by
 rintro a p rfl
 rcases lv with _ | _ | _ | lv<;>exact bR h
theorem VN (G:GW H₀ mg mb) (hC:bk prog w H₀ mg n C) (cx:Cx prog n A env sc){PN:List Str}{M:List (Str×Nat)}{pos:Pos}:∀ {xs:List Str}{es:List Expr}{ρ ρ':au}{F:Str→List Addr}{P:List Pv}{s:Shared}{ts:List OT},SS prog w H₀ O₀ env sc W pr ρ F P s→jj sc es=true →
  j0 C PN M xs es ρ=some (ts,ρ') →
  wpAny (model prog w) A (spliced (backTo pos (starEach es env))) (λvs s'=>∃ F' P₀,P₀.map (·.v)=vs∧P₀.map (·.t)=ts∧xs.length=ts.length∧SS prog w H₀ O₀ env sc W pr ρ' F' (P₀++P) s'∧Mv W F P s F' (P₀++P) s') E s:=by
 intro xs
 induction xs with
 | nil=>
  intro es ρ ρ' F P s ts S wf h
  cases es with
  | nil=>cases h;exact wpAny_items_nil ⟨F,[],rfl,rfl,rfl,S,Mv.rf ..⟩
  | cons=>exact bR h
 | cons x xs ih=>
  intro es ρ ρ' F P s ts S wf h
  cases es with
  | nil=>exact bR h
  | cons e es=>
   revert h
   refine bv λu0 h1=>bv λu1 h2 h3=>?_
   obtain⟨t,ρ1⟩:=u0
   obtain⟨jt,ρ2⟩:=u1
   cases h3
   refine(ak (qY (ZM h1)))▸?_
   exact bW (wm (N9 G hC cx S (a6 wf).1 h1) λv s₁ q=>mZ q λF₁ as S₁ M₁=>wm (ih S₁ (a6 wf).2 h2) λvs s₂ q=>JA q λF₂ P₀ e1 e2 e3 S₂ M₂=>
    ⟨F₂,⟨v,t,as⟩::P₀,congrArg (eZ v) e1,congrArg (eZ t) e2,congrArg (·+1) e3,S₂.perm (vA:(P₀++⟨v,t,as⟩::P).Perm (⟨v,t,as⟩::P₀++P)),M₁.tr (M₂.tr (Mv.perm (vA:(P₀++⟨v,t,as⟩::P).Perm (⟨v,t,as⟩::P₀++P))))⟩)
theorem io {α:Type}{c:Prop}{i:Decidable c}{a b x y:α} (h1:a=x) (h2:¬ c→b=x∨b=y):(if c then a else b)=x∨(if c then a else b)=y:=
 (bA c).elim (λh=>.inl ((if_pos h).trans h1)) λh=>(if_neg h).symm▸h2 h
theorem T8 {f:Expr→Option Str}(hf:∀ x p,f (.Name x p)=some x∨f (.Name x p)=none){ts:List Expr}{xs:List Str}(h:dk ts=some xs) (hl:(ts.filterMap f).length=ts.length):ts.filterMap f=xs:=by
 induction ts generalizing xs with
 | nil=>exact ai h
 | cons t ts ih=>
  refine bJ h λx hx=>mv λys h1 e=>(oR hx).elim λp et=>?_
  subst e et
  rw[aS] at hl ⊢
  refine(hf x p).elim (λq=>?_) λq=>?_
  ·rw[q] at hl ⊢
   exact congrArg (eZ x) (ih h1 (vy hl))
  ·rw[q] at hl
   exact absurd hl (dr (vz (List.length_filterMap_le _ _)))
theorem Z6 (e:nR env sc){ts vs:List Expr}{xs:List Str}{k k':Nat}{p p':Pos}(kj:dk ts=some xs) (hv:jU vs=true) :
  swappedStores [.Tuple ts k p] (.Tuple vs k' p') env=pure none∨swappedStores [.Tuple ts k p] (.Tuple vs k' p') env=pure (some xs):=by
 unfold swappedStores
 refine io rfl λZ=>io rfl λZ=>io rfl λh3=>io rfl λh4=>.inr ((if_neg λh5=>?_).trans (congrArg (λl=>(pure (some l):Sem (Option (List Str)))) (T8 (λx p=>?_) kj ?_)))
 ·exact h4 ((cU.mp hv).elim id λq=>lN ((congrArg (! ·) h5).symm.trans q))
 ·exact(bA _).elim (λh=>.inl (if_pos h)) λh=>.inr (if_neg h)
 ·exact gD λq=>h3 (cU.mpr (.inl (bne_iff_ne.mpr q)))
theorem JN (cx:Cx prog n A env sc){ts:List Expr}{xs:List Str}{k:Nat}{p:Pos}{P₀:List Pv}{a:Addr}(S:SS prog w H₀ O₀ env sc W pr ρ F (P₀++P) s) (kj:dk ts=some xs) (hl:xs.length=P₀.length)
  (og:∀ x∈xs,lj sc x=true∧∀ r∈pr,r.1≠x) (ht:s.heap.IsTuple a (P₀.map (·.v)).toArray) :
  wpAny (model prog w) A (assign (.Tuple ts k p) env (.ref a)) (λZ s'=>∃ F',SS prog w H₀ O₀ env sc W pr (fK xs (P₀.map (·.t)) ρ) F' P s'∧Mv W F (P₀++P) s F' P s') E s:=by
 refine IY (y4W (env:=env) kj) λh1 h2 ps h3 h4=>?_
 refine wpAny_assign_Tuple cx.room.handled ht ?_ ?_ λh' he=>?_
 ·rw[h4,ag,wV,h3,bx,ag];exact rl 0x3d01f95087a02802 rfl _ _ hl
 ·rw[h4,List.findIdx?_eq_none_iff]
  intro q hq
  obtain⟨r,_,rfl⟩:=aE.mp hq
  rfl
 ·have kk:Kp s { s with heap:=h' }:=⟨⟨h',s.toks,rfl⟩,λ{b o} e=>he b o (dr (cE e)) e⟩
  have e1:(assignEach ts env).map (·.2)=((xs.zip ps).map λq=>(q.1,assign (.Name q.1 q.2) env)).map (·.2):=by rw[h4,aN,aN];rfl
  have e2:((xs.zip ps).map λq=>(q.1,assign (.Name q.1 q.2) env)).map (·.1)=xs:=by
   rw[aN]
   exact lU (by exact rl 0x6a0287a10102 rfl _ _ h3)
  refine(ak e1)▸(ak ((rfl:(P₀.map (·.v)).toArray.toList=P₀.map (·.v))))▸?_
  have:=Ql (E:=E) (A:=A) cx.env (qs:=(xs.zip ps).map λq=>(q.1,assign (.Name q.1 q.2) env)) (by rw[ag,wV,h3];exact rl 0x3d01f95087a02802 rfl _ _ hl) (λq hq=>?_) (S.kp kk)
  ·rw[e2] at this
   exact wm this (λZ s₂ q=>let ⟨F',a,b⟩:=q;⟨F',a,(Mv.kp kk).tr b⟩)
  ·obtain⟨r,hr,rfl⟩:=aE.mp hq
   exact⟨og _ (gB hr).1,λv s Q z=>wpAny_assign_Name z⟩
theorem Zc (G:GW H₀ mg mb) (hC:bk prog w H₀ mg n C) (cx:Cx prog n A env sc){PN:List Str}{M:List (Str×Nat)}{ts es:List Expr}{xs:List Str}{k k':Nat}{p p' pos:Pos}{us:List OT}{ρ':au}(S:SS prog w H₀ O₀ env sc W pr ρ F P s)
  (wf:jj sc es=true) (kj:dk ts=some xs) (hn:xs.Nodup) (og:∀ x∈xs,lj sc x=true∧∀ r∈pr,r.1≠x) (hv:jU es=true) (iU:us.length≤bh) (h:j0 C PN M xs es ρ=some (us,ρ')) :
  wpAny (model prog w) A (exec (.Assign [.Tuple ts k p] (.Tuple es k' p') pos) env) (λf s'=>f=.next∧j2 prog w H₀ O₀ env sc W pr (fK xs us ρ') P F s s') E s:=by
 have val:∀ {Q:Value→Shared→Prop},(∀ s₁ F₁ P₀ a,P₀.map (·.t)=us→xs.length=P₀.length→SS prog w H₀ O₀ env sc W pr ρ' F₁ (P₀++P) s₁→Mv W F P s F₁ (P₀++P) s₁→s₁.heap.IsTuple a (P₀.map (·.v)).toArray→Q (.ref a) s₁) →
   wpAny (model prog w) A (eval (.Tuple es k' p') env) Q E s:=λ{Q} hQ=>by
  refine wpAny_Tuple (wm (VN G hC cx S wf h) (λvs s₁ q=>?_))
  refine JA q λF₁ P₀ e1 e2 e3 S₁ M₁=>?_;clear q
  refine⟨by rw[←e1,ag];exact tZ (by exact HW _ _ iU (by rw[←e2,ag]:P₀.length=us.length)),hQ _ F₁ P₀ _ e2 (by exact rl 0xf4050f409017a04803 rfl _ _ _ e3 (by rw[←e2,ag]:P₀.length=us.length)) (S₁.kp (Kp.push s₁ { cls:=.type "tuple",data:=.seq vs.toArray })) (M₁.tr (Mv.kp (Kp.push s₁ { cls:=.type "tuple",data:=.seq vs.toArray }))) ?_⟩
  rw[e1]
  exact⟨_,bK _ rfl,rfl,0,rfl⟩
 rcases Z6 cx.env (k:=k) (k':=k') (p:=p) (p':=p') kj hv with hs | hs
 ·refine Assign_Tuple (val λs₁ F₁ P₀ a e2 hl S₁ M₁ ht=>?_) rfl hs
  refine wm (JN cx S₁ kj hl og ht) (λZ s₂ q=>?_)
  refine aT q λF₂ S₂ M₂=>?_;clear q
  rw[e2] at S₂
  exact⟨rfl,F₂,S₂,M₁.tr M₂⟩
 ·refine Assign_Tuple_swapped (names:=xs) (val λs₁ F₁ P₀ a e2 hl S₁ M₁ ht=>?_) rfl hs
  have qn:xs.length=(P₀.map (·.v)).toArray.size:=by rw[bx,ag];exact hl
  refine(ak qn)▸?_
  refine unpackItems_tuple cx.room.handled ht λh' he=>?_
  have kk:Kp s₁ { s₁ with heap:=h' }:=⟨⟨h',s₁.toks,rfl⟩,λ{b o} e=>he b o (dr (cE e)) e⟩
  have e4:(xs.reverse.map λn=>bindName env n)=(xs.reverse.map λn=>(n,bindName env n)).map (·.2):=by rw[aN];rfl
  have e5:(xs.reverse.map λn=>(n,bindName env n)).map (·.1)=xs.reverse:=by rw[aN];exact List.map_id _
  refine(ak ((by rw[eE]:(P₀.map (·.v)).toArray.toList.reverse=P₀.reverse.map (·.v))))▸(ak e4)▸?_
  have:=Ql (E:=E) (A:=A) cx.env (qs:=xs.reverse.map λn=>(n,bindName env n)) (by simpa using hl) (λq hq=>?_) ((S₁.kp kk).perm ((g7 P₀).symm.append_right P:(P₀++P).Perm (P₀.reverse++P)))
  ·rw[e5] at this
   refine wm this (λZ s₂ q=>?_)
   refine aT q λF' S₃ M₃=>?_;clear q
   refine⟨rfl,F',S₃.same λy=>?_,M₁.tr ((Mv.kp kk).tr ((Mv.perm ((g7 P₀).symm.append_right P:(P₀++P).Perm (P₀.reverse++P))).tr M₃))⟩
   exact(ak eE)▸(ak e2)▸(y5T hn (by rw[hl,←e2,ag]) y)
  ·obtain⟨x,hx,rfl⟩:=aE.mp hq
   exact⟨og _ (vB.mp hx),λv s Q z=>wpAny_bindName z⟩
set_option tactic.hygienic true in
theorem PV {ds:List DV}:∀ {vs:List Value}{P:List Pv},SS prog w H₀ O₀ env sc W pr ρ F P s→bC s.heap (HS O₀ F P) vs ds→∃ P₀:List Pv,P₀.map (·.v)=vs∧P₀.map (·.t)=ds.map .af∧ly P₀=[]∧SS prog w H₀ O₀ env sc W pr ρ F (P₀++P) s∧Mv W F P s F (P₀++P) s:=by
 induction ds with
 | nil=>intro vs P S r;cases r;exact⟨[],rfl,rfl,rfl,S,Mv.rf ..⟩
 | cons d ds ih=>
  intro vs P S r
  cases r with | cons r rs=>
  rename_i v vs
  refine Bj (ih S rs) λP₀ e1 e2 e3 S₁ M₁=>?_
  have Dm:∀ b,HS O₀ F (P₀++P) b→HS O₀ F P b:=λb q=>q.imp id λz=>z.imp (λy=>by
   have:b∈ly P₀++ly P:=by
    simpa [ly,List.flatMap_append] using y
   rw[e3] at this;exact this) id
  refine dJ (S₁.push (Kp.rf s) (as:=[]) (v:=v) (t:=.af d) (.af (r.tr λa o hO e Z=>⟨e,λq=>q.elim (λz=>hO (Dm a z)) λz=>nomatch z⟩)) (λa h=>nomatch h) dg) λS₂ M₂=>?_
  exact⟨⟨v,.af d,[]⟩::P₀,by simp[e1],by simp[e2],by show[]++ly P₀=[];refine(ak e3)▸?_;rfl,S₂,M₁.tr M₂⟩
theorem ZK (G:GW H₀ mg mb) (hC:bk prog w H₀ mg n C) (cx:Cx prog n A env sc){PN:List Str}{ts:List Expr}{e:Expr}{xs:List Str}{k:Nat}{p pos:Pos}{ds:List DV}{fr:Bool}{ρ':au}(S:SS prog w H₀ O₀ env sc W pr ρ F P s)
  (wf:dY sc e=true) (kj:dk ts=some xs) (hl:xs.length=ds.length) (og:∀ x∈xs,lj sc x=true∧∀ r∈pr,r.1≠x) (hw:swappedStores [.Tuple ts k p] e env=pure none) (hs:swapsWithSole [.Tuple ts k p] e pos.line env=pure false)
  (h:eN C PN e ρ=some (.af (.tup ds),fr,ρ')) :
  wpAny (model prog w) A (exec (.Assign [.Tuple ts k p] e pos) env) (λf s'=>f=.next∧j2 prog w H₀ O₀ env sc W pr (fK xs (ds.map .af) ρ') P F s s') E s:=by
 refine Assign_Tuple (wm (vR G hC cx S wf h false) (λv s₁ q=>?_)) hs hw
 refine mZ q λF₁ as S₁ M₁=>?_;clear q
 have r:=(S₁.pend _ (.head _)).cG
 cases r with | tup ht ho rs=>
 refine Bj (PV S₁ rs) λP₀ e1 e2 e3 S₂ M₂=>?_
 have dx:P₀.length=ds.length:=by
  have:=congrArg rM e2
  simpa using this
 refine wm (JN cx S₂ kj (by exact rl 0xf4050f409017a04803 rfl _ _ _ hl dx) og ((ak e1)▸ht)) (λZ s₂ q=>?_)
 refine aT q λF₂ S₃ M₃=>?_;clear q
 rw[e2] at S₃
 exact⟨rfl,F₂,S₃.drop,M₁.tr (M₂.tr (M₃.tr Mv.drop))⟩
end
end
section
variable {prog:Program}{w:World}
noncomputable def oB:Operator→Int→Int→Option Int
 | .Add,a,b=>some (a+b)
 | .Sub,a,b=>some (a-b)
 | _,_,_=>none
section
variable {A:Around}{E:Value→Shared→Prop}{H₀:Heap}{mg mb:Str→Option Value}{O₀:Addr→Prop}{env:Env}{sc:Scope}{W:List Addr}{pr:List (Str×Value)}{ρ:au}{F:Str→List Addr}{P:List Pv}{s s':Shared}{n:Nat}{C:ey}
theorem NX {op:Operator}{a b c:Int}{t u:Tok}{Q:Value→Shared→Prop}(h:oB op a b=some c) (hQ:Q (.int c s.toks) { s with toks:=s.toks+1 }):wpAny (model prog w) A (inplaceOp op (.int a t) (.int b u)) Q E s:=by
 cases op with
 | Add=>cases h;exact P.iadd_int hQ
 | Sub=>cases h;exact P.isub_int hQ
 | _=>exact bR h
theorem JM (e:Expr) (o i:Expr) (p:Pos) (l:Nat):swapsWith e (some (.Subscript o i p)) l env=pure false:=by cases e<;>rfl
theorem j2.fin {q:Pv}{F₁:Str→List Addr}{s₁ s₂:Shared}(M:Mv W F P s F₁ (q::P) s₁) (k:Kp s₁ s₂) (x:j2 prog w H₀ O₀ env sc W pr ρ (q::P) F₁ s₂ s'):j2 prog w H₀ O₀ env sc W pr ρ P F s s':=
 aT x λF₃ S₃ M₃=>⟨F₃,S₃.drop,M.tr ((Mv.kp k).tr (M₃.tr Mv.drop))⟩
theorem WS (G:GW H₀ mg mb) (hC:bk prog w H₀ mg n C) (cx:Cx prog n A env sc){PN:List Str}{x:Str}{i e:Expr}{px p pos:Pos}{ts:List OT}{d d₀:DV}{fr:Bool}{k:Int}{j:Nat}{ρ':au}(S:SS prog w H₀ O₀ env sc W pr ρ F P s)
  (wf:dY sc e=true) (uJ:dY sc i=true) (h:eN C PN e ρ=some (.af d,fr,ρ')) (hx:ρ'.lookup x=some (.own ts)) (hi:ev C i ρ'=some (.af (.int k))) (h0:0≤k) (hj:eI ts.length k=some j) (hd:ts[j]?=some (.af d₀)) :
  wpAny (model prog w) A (exec (.Assign [.Subscript (.Name x px) i p] e pos) env) (λf s'=>f=.next∧j2 prog w H₀ O₀ env sc W pr (put x (.own (ts.set j (.af d))) ρ') P F s s') E s:=by
 refine wpAny_Assign_Subscript (wm (vR G hC cx S wf h false) λv s₁ q=>mZ q λF₁ iX S₁ M₁=>sJ (S₁.own hx) λqr a vs as hF V hl rs=>pj cx.env.kind qr V (wm (ph G hC i cx uJ S₁.iI hi) λvi s₂ p2=>?_)) (JM ..)
 have k:=p2.keeps
 exact p2.gU.eU (Q:=λvi=>wpAny (model prog w) A (setItem _ vi v) _ E s₂) λtk=>wm (O6 (tk:=tk) (v:=v) (S₁.kp k) hx hF (V.keeps k.fn) (hl.at λo e=>k.get e) (rs.tr (Tr.keeps k.fn) λb Z o e=>k.get e) h0 hj hd ((S₁.kp k).pend _ (.head _)).cG) λZ s₃ q=>⟨rfl,q.fin M₁ k⟩
theorem UC (G:GW H₀ mg mb) (hC:bk prog w H₀ mg n C) (cx:Cx prog n A env sc){PN:List Str}{x:Str}{i e:Expr}{px p pos:Pos}{ks:List (List Int)}{ns:List Int}{ds:List DV}{d:DV}{fr:Bool}{ρ':au}(S:SS prog w H₀ O₀ env sc W pr ρ F P s)
  (wf:dY sc e=true) (uJ:dY sc i=true) (h:eN C PN e ρ=some (.af d,fr,ρ')) (hx:ρ'.lookup x=some (.fI ks)) (hi:ev C i ρ'=some (.af (.tup ds))) (oY:fi ds=some ns) (pI:ns∉ks) (hc:ks.length≤bh) :
  wpAny (model prog w) A (exec (.Assign [.Subscript (.Name x px) i p] e pos) env) (λf s'=>f=.next∧j2 prog w H₀ O₀ env sc W pr (put x (.fI (ks++[ns])) ρ') P F s s') E s:=by
 refine wpAny_Assign_Subscript (wm (vR G hC cx S wf h false) λv s₁ q=>mZ q λF₁ iX S₁ M₁=>nG (S₁.vars x _ hx) λqr u V r=>iw r.Ez λa eu ef K=>pj cx.env.kind qr V (wm (ph G hC i cx uJ S₁.iI hi) λvi s₂ p2=>?_)) (JM ..)
 subst eu
 have k:=p2.keeps
 have ri:=p2.gU
 exact ri.iy (Q:=λvi=>Rep s₂.heap (HS O₀ F₁ _) vi _→wpAny (model prog w) A (setItem _ vi v) _ E s₂) (λt Z Z Z Z ri=>wm (W9 (v:=v) cx (S₁.kp k) hx (V.keeps k.fn) ri oY pI hc ef (K.tr (Tr.keeps k.fn) λo e=>k.get e)) λZ s₃ q=>⟨rfl,j2.fin M₁ k q⟩) ri
theorem Zb (G:GW H₀ mg mb) (hC:bk prog w H₀ mg n C) (cx:Cx prog n A env sc){PN:List Str}{x i:Str}{l e:Expr}{px pi p p' pos:Pos}{ts us:List OT}{d d₀:DV}{fr:Bool}{k m:Int}{r j:Nat}{ρ':au}(S:SS prog w H₀ O₀ env sc W pr ρ F P s)
  (wf:dY sc e=true) (wfl:dY sc l=true) (h:eN C PN e ρ=some (.af d,fr,ρ')) (hx:ρ'.lookup x=some (.own ts)) (hi:ρ'.lookup i=some (.af (.int m))) (hr:eI ts.length m=some r) (hu:ts[r]?=some (.own us))
  (lx:ev C l ρ'=some (.af (.int k))) (h0:0≤k) (hj:eI us.length k=some j) (hd:us[j]?=some (.af d₀)) :
  wpAny (model prog w) A (exec (.Assign [.Subscript (.Subscript (.Name x px) (.Name i pi) p) l p'] e pos) env) (λf s'=>f=.next∧j2 prog w H₀ O₀ env sc W pr (put x (.own (ts.set r (.own (us.set j (.af d))))) ρ') P F s s') E s:=by
 refine wpAny_Assign_Subscript (wm (vR G hC cx S wf h false) λv s₁ q=>mZ q λF₁ iX S₁ M₁=>sJ (S₁.own hx) λqr a vs as hF V hl rs=>nW (rs.get hu) λvb bs RB rb Z=>nU rb.CN λb Z Z eb Z Z Z=>?_) (JM ..)
 subst eb
 refine Jk cx.env S₁ qr V hl hi (rs.length.symm▸hr) RB (wm (ph G hC l cx wfl S₁.iI lx) λvi s₂ p2=>?_)
 have k:=p2.keeps
 exact p2.gU.eU (Q:=λvi=>wpAny (model prog w) A (setItem _ vi v) _ E s₂) λtk=>wm (XQ (tk:=tk) (v:=v) (S₁.kp k) hx hF (V.keeps k.fn) (hl.at λo e=>k.get e) (rs.tr (Tr.keeps k.fn) λb Z o e=>k.get e) hu RB h0 hj hd ((S₁.kp k).pend _ (.head _)).cG) λZ s₃ q=>⟨rfl,q.fin M₁ k⟩
theorem WW (G:GW H₀ mg mb) (hC:bk prog w H₀ mg n C) (cx:Cx prog n A env sc){x:Str}{e:Expr}{op:Operator}{px pos:Pos}{a b c:Int}(S:SS prog w H₀ O₀ env sc W pr ρ F P s) (wf:dY sc e=true) (ok:lj sc x=true) (hp:∀ q∈pr,q.1≠x)
  (hx:ρ.lookup x=some (.af (.int a))) (he:ev C e ρ=some (.af (.int b))) (Lz:oB op a b=some c) :
  wpAny (model prog w) A (exec (.AugAssign (.Name x px) op e pos) env) (λf s'=>f=.next∧j2 prog w H₀ O₀ env sc W pr (put x (.af (.int c)) ρ) P F s s') E s:=by
 refine nG (S.vars x _ hx) λqr u V r=>?_
 refine wpAny_AugAssign_Name (PK cx.env.kind qr V (wm (ph G hC e cx wf S.iI he) λv s₁ p1=>?_))
 refine r.cG.eU (Q:=λu=>wpAny (model prog w) A (inplaceOp op u v) _ E s₁) λZ=>p1.gU.eU (Q:=λv=>wpAny (model prog w) A (inplaceOp op _ v) _ E s₁) λZ=>NX Lz ?_
 refine dJ (S.push (p1.keeps.tr (Kp.tok s₁ (s₁.toks+1))) (as:=[]) (v:=.int c s₁.toks) (t:=.af (.int c)) (.af (.int _ _)) nofun .nil) λS₂ M₂=>?_
 exact wm (BD (prog:=prog) (w:=w) (A:=A) (E:=E) cx.env S₂ (uG ok).2 (uG ok).1 hp) λZ s₃ q=>⟨rfl,_,q.1,M₂.tr q.2⟩
theorem UD {i:Expr}(oY:∀ a b c p',i≠.Slice a b c p') (ov iv new:Value):augStore i ov iv new=(do holding [new,ov,iv] (setItem ov iv new);release [new,ov,iv] [];pure .next):=by
 cases i<;>first | rfl | exact absurd rfl (oY _ _ _ _)
theorem WV (G:GW H₀ mg mb) (hC:bk prog w H₀ mg n C) (cx:Cx prog n A env sc){x:Str}{i e:Expr}{op:Operator}{px p pos:Pos}{ts:List OT}{a b c k:Int}{j:Nat}(S:SS prog w H₀ O₀ env sc W pr ρ F P s) (wf:dY sc e=true) (uJ:dY sc i=true)
  (oY:∀ a b c p',i≠.Slice a b c p') (hx:ρ.lookup x=some (.own ts)) (hi:ev C i ρ=some (.af (.int k))) (h0:0≤k) (hj:eI ts.length k=some j) (hd:ts[j]?=some (.af (.int a))) (he:ev C e ρ=some (.af (.int b))) (Lz:oB op a b=some c) :
  wpAny (model prog w) A (exec (.AugAssign (.Subscript (.Name x px) i p) op e pos) env) (λf s'=>f=.next∧j2 prog w H₀ O₀ env sc W pr (put x (.own (ts.set j (.af (.int c)))) ρ) P F s s') E s:=by
 refine sJ (S.own hx) λqr l vs as hF V hl rs=>?_
 refine wpAny_AugAssign_SubscriptAny (pj cx.env.kind qr V (wm (ph G hC i cx uJ S.iI hi) λvi s₁ p1=>?_)) (UD oY)
 have k:=p1.keeps
 have oh:s₁.heap.PlainList l vs.toArray:=hl.at λo e=>k.get e
 have lK:=rs.tr (Tr.keeps k.fn) λb Z o e=>k.get e
 refine p1.gU.vd.elim λtk ev=>?_
 subst ev
 refine nW (lK.get hd) λv₀ bs hv rv Z=>Bb (.inl oh.isList) (rs.length.symm▸hj) hv (wm (ph G hC e cx wf (S.kp k).iI he) λv s₂ p2=>?_)
 refine rv.cG.eU (Q:=λu=>wpAny (model prog w) A (inplaceOp op u v) _ E s₂) λZ=>p2.gU.eU (Q:=λv=>wpAny (model prog w) A (inplaceOp op _ v) _ E s₂) λZ=>NX Lz ?_
 have kk:=p2.keeps.tr (Kp.tok s₂ (s₂.toks+1))
 exact wm (O6 (tk:=tk) (v:=.int c s₂.toks) ((S.kp k).kp kk) hx hF (V.keeps (k.tr kk).fn) (oh.at λo e=>kk.get e) (lK.tr (Tr.keeps kk.fn) λb Z o e=>kk.get e) h0 hj hd (Rep.int c s₂.toks)) λZ s₄ q=>aT q λF₃ S₄ M₄=>⟨rfl,F₃,S₄,(Mv.kp (k.tr kk)).tr M₄⟩
theorem Jc {e:Expr}{pos:Pos}{Q:Shared→Prop} (e':nR env sc) (hc:∃ f es kw p,e=.Call f es kw p) (h:wpAny (model prog w) A (eval e env) (λZ s'=>Q s') E s):wpAny (model prog w) A (exec (.Expr e pos) env) (λf s'=>f=.next∧Q s') E s:=by
 refine hc.elim λf h1=>h1.elim λes h1=>h1.elim λkw h1=>h1.elim λp h1=>?_
 subst h1
 refine wpAny_Expr_any (wm h λZ s' q=>⟨rfl,q⟩) ?_ rfl
 unfold interactive
 refine(ak e'.kind)▸?_;rfl
end
end
section
variable {prog:Program}{w:World}
theorem aM.split {h:Heap}{O:Addr→Prop}{vs:List Value}{ts:List OT}{as:List Addr}(x:aM prog w h O vs ts as):∃ Q:List Pv,vs=Q.map (·.v)∧ts=Q.map (·.t)∧as=ly Q∧∀ q∈Q,bf prog w h O q.v q.t q.as:=
 x.ind (Q:=λvs ts as=>∃ Q:List Pv,vs=Q.map (·.v)∧ts=Q.map (·.t)∧as=ly Q∧∀ q∈Q,bf prog w h O q.v q.t q.as) ⟨[],rfl,rfl,rfl,λZ h=>(bT h).elim⟩ λ{v vs t ts as bs} r Z q=>
  vT q λQ h1 h2 h3 h4=>⟨⟨v,t,as⟩::Q,congrArg (eZ v) h1,congrArg (eZ t) h2,congrArg (as++·) h3,λq hq=>(aC.mp hq).elim (λz=>by subst z;exact r) (h4 q)⟩
theorem aM.join {h:Heap}{O:Addr→Prop}:∀ {Q:List Pv},(∀ q∈Q,bf prog w h O q.v q.t q.as)→aM prog w h O (Q.map (·.v)) (Q.map (·.t)) (ly Q)
 | [],_=>.nil
 | q::Q,h=>.cons (h q (.head _)) (aM.join λr hr=>h r (.tail _ hr))
theorem aM.swap {h:Heap}{O:Addr→Prop}{vs:List Value}{ts:List OT}{as:List Addr}{i j:Nat}{v₁ v₂:Value}{t₁ t₂:OT}(x:aM prog w h O vs ts as) (h1:vs[i]?=some v₁) (h2:vs[j]?=some v₂) (h3:ts[i]?=some t₁) (h4:ts[j]?=some t₂) :
  ∃ gw,gw.Perm as∧aM prog w h O ((vs.set i v₂).set j v₁) ((ts.set i t₂).set j t₁) gw:=by
 refine vT x.split λQ e1 e2 e3 hQ=>?_
 subst e1 e2 e3
 rw[aU] at h1 h2 h3 h4
 refine jF h1 λa ea e1=>jF h2 λb eb e2=>?_
 rw[ea] at h3
 rw[eb] at h4
 have e3:=ai h3
 have e4:=ai h4
 subst e1 e2 e3 e4
 refine gF (b7.mp ea) λhi e1=>gF (b7.mp eb) λhj e2=>?_
 have pm:((Q.set i b).set j a).Perm Q:=by exact e1▸e2▸(List.set_set_perm hi hj)
 have y:=aM.join (h:=h) (O:=O) λq hq=>hQ q (pm.mem_iff.mp hq)
 rw[cL,cL,cL,cL] at y
 exact⟨_,Gu pm,y⟩
section
variable {A:Around}{E:Value→Shared→Prop}{H₀:Heap}{mg mb:Str→Option Value}{O₀:Addr→Prop}{env:Env}{sc:Scope}{W:List Addr}{pr:List (Str×Value)}{ρ:au}{F:Str→List Addr}{P:List Pv}{s s':Shared}{n:Nat}{C:ey}
theorem QP {o i:Expr}{p:Pos}{v:Value}{Q:Unit→Shared→Prop}(h:wpAny (model prog w) A (eval o env) (λov s₁=>wpAny (model prog w) A (eval i env) (λiv s₂=>wpAny (model prog w) A (setItem ov iv v) Q E s₂) E s₁) E s) :
  wpAny (model prog w) A (assign (.Subscript o i p) env v) Q E s:=by
 rw[assign_Subscript]
 exact wpAny_bind (wpAny_holding (wm h λov s₁ h=>wpAny_bind (wpAny_holding (wm h λiv s₂ h=>wpAny_bind (wpAny_standAt (wpAny_bind (wpAny_holding (wm h λZ s₃ h=>wpAny_release h))))))))
theorem Zs (a b c d:Expr×Expr×Pos) (k k':Nat) (pt pv:Pos):swappedStores [.Tuple [.Subscript a.1 a.2.1 a.2.2,.Subscript b.1 b.2.1 b.2.2] k pt] (.Tuple [.Subscript c.1 c.2.1 c.2.2,.Subscript d.1 d.2.1 d.2.2] k' pv) env=pure none:=by
 unfold swappedStores
 dsimp only
 split
 ·rfl
 ·split
  ·rfl
  ·rfl
theorem WU (cx:Cx prog n A env sc){x i j:Str}{p1 p2 p3 p4 p5 p6 q1 q2 q3 q4 q5 q6 pt pv pos:Pos}{k k':Nat}{ts:List OT}{a b:Int}{ia ib:Nat}{t₁ t₂:OT}(S:SS prog w H₀ O₀ env sc W pr ρ F P s)
  (hx:ρ.lookup x=some (.own ts)) (hi:ρ.lookup i=some (.af (.int a))) (hj:ρ.lookup j=some (.af (.int b))) (ha:eI ts.length a=some ia) (hb:eI ts.length b=some ib) (Af:0≤a) (RU:0≤b) (h1:ts[ia]?=some t₁) (h2:ts[ib]?=some t₂) :
  wpAny (model prog w) A (exec (.Assign [.Tuple [.Subscript (.Name x p1) (.Name i p2) p3,.Subscript (.Name x p4) (.Name j p5) p6] k pt] (.Tuple [.Subscript (.Name x q1) (.Name j q2) q3,.Subscript (.Name x q4) (.Name i q5) q6] k' pv) pos) env)
   (λf s'=>f=.next∧j2 prog w H₀ O₀ env sc W pr (put x (.own ((ts.set ia t₂).set ib t₁)) ρ) P F s s') E s:=by
 refine sJ (S.own hx) λqr l vs as hF V hl rs=>nW (rs.get h1) λv₁ b1 RE r1 Z=>nW (rs.get h2) λv₂ b2 RC r2 Z=>?_
 clear r1 r2
 have rC:eI vs.length a=some ia:=rs.length.symm▸ha
 have qu:eI vs.length b=some ib:=rs.length.symm▸hb
 refine jR (Bw rC) λa1 a2 Z a4=>jR (Bw qu) λc1 c2 Z c4=>?_
 have LW:a.toNat=ia:=a4.elim (·.2) λq=>absurd Af (uq.mpr q.1)
 have LS:b.toNat=ib:=c4.elim (·.2) λq=>absurd RU (uq.mpr q.1)
 refine Assign_Tuple (wpAny_Tuple ?_) rfl (Zs (_,_,_) (_,_,_) (_,_,_) (_,_,_) ..)
 refine bW (Jk cx.env S qr V hl hj qu RC (bW (Jk cx.env S qr V hl hi rC RE (g0 ⟨(by decide:2≤sizeLine),?_⟩))))
 have k1:=Kp.push s { cls:=.type "tuple",data:=.seq [v₂,v₁].toArray }
 refine wpAny_assign_Tuple cx.room.handled (items:=#[v₂,v₁]) ⟨_,bK _ rfl,rfl,0,rfl⟩ rfl rfl λh' he=>?_
 revert k1 he
 generalize ({ s with heap:=s.heap.push { cls:=.type "tuple",data:=.seq [v₂,v₁].toArray } }:Shared)=s₁
 intro k1 he
 have kk:=k1.tr (⟨⟨h',s₁.toks,rfl⟩,λ{b o} e=>he b o (dr (cE e)) e⟩:Kp s₁ { s₁ with heap:=h' })
 have S₂:=S.kp kk
 have V₂:=V.keeps kk.fn
 have Dx:h'.PlainList l vs.toArray:=hl.at λo e=>kk.get e
 have Cm:=rs.tr (Tr.keeps kk.fn) λb Z o e=>kk.get e
 clear k1 he V hl rs
 refine nG (S₂.vars i _ hi) λLN ui Vi ri=>nG (S₂.vars j _ hj) λhdj uj Vj rj=>ri.cG.vd.elim λti ei=>rj.cG.vd.elim λtj ej=>?_
 subst ei ej
 clear ri rj
 refine assignInOrder_cons (QP (pj cx.env.kind qr V₂ (pj cx.env.kind LN Vi (GI Dx Af (by exact FI _ _ _ a1 a2 LW) (by exact(ak bx)▸(FH _ _ _ a2 LW)) λh₃ tx oe=>?_))))
 have tx:=Bm▸LW▸tx
 have RJ:l∈F x:=hF▸.head _
 have VV:∀ {y u},bV env h' y u→bV env h₃ y u:=λX=>nG (S₂.vars x _ hx) λZ Z Z r₀=>X.mv (λo e Z=>(oe.2 _ λq=>(S₂.off l (.inr ⟨x,RJ⟩)).2 (q▸S₂.ie.loc)).trans e) λb o u e hd=>(oe.2 _ λq=>r₀.s9 _ RJ o (q▸e) u hd).trans e
 refine assignInOrder_cons (QP (pj cx.env.kind qr (VV V₂) (pj cx.env.kind hdj (VV Vj) (GI tx RU (by exact FI _ _ _ c1 c2 LS) (by exact(ak bx)▸(ak bM)▸(FH _ _ _ c2 LS)) λh₄ wo tv=>assignInOrder_nil ?_))))
 rw[LS,Bm] at wo
 have hs:dO l h' h₄:=⟨by first | exact tv.1.trans oe.1 | exact br oe.1 tv.1,λb hb=>(tv.2 b hb).trans (oe.2 b hb)⟩
 have nr:(l::as).Nodup:=hF▸S.nd x
 exact aT ((Cm.tr (Iv (s:={ s₁ with heap:=h' }) (O₀:=O₀) (P:=P) hF hs) λb hb o e=>(hs.2 b λq=>(a9.mp nr).1 (q▸hb)).trans e).swap RE RC h1 h2) λgw pm Ck=>aT (JW (tk:=s₁.toks) S₂ hx hF V₂ hs wo Ck (λb hb=>pm.mem_iff.mp hb) (pm.nodup_iff.mpr (a9.mp nr).2)) λF' S' M'=>⟨rfl,F',S',(Mv.kp kk).tr M'⟩
end
end
section
variable {prog:Program}{w:World}
set_option genInjectivity true in
inductive Out
 | bU (ρ:au)
 | cnt (ρ:au)
 | ret (d:DV) (ρ:au)
noncomputable def eT (t:au→Option Bool) (b:au→Option Out):Nat→au→Option Out
 | 0,_=>none
 | n+1,ρ=>(t ρ).bind λc=>if c then (b ρ).bind λo=>match o with
   | .bU ρ'=>eT t b n ρ'
   | .cnt ρ'=>eT t b n ρ'
   | .ret d ρ'=>some (.ret d ρ')
  else some (.bU ρ)
theorem xx {t:au→Option Bool}{b:au→Option Out}:∀ n ρ,eT t b (n+1) ρ=((t ρ).bind λc=>if c then (b ρ).bind λo=>match o with
   | .bU ρ'=>eT t b n ρ'
   | .cnt ρ'=>eT t b n ρ'
   | .ret d ρ'=>some (.ret d ρ')
  else some (.bU ρ)):=λ_ _=>rfl
noncomputable def fN (bd:DV→au→Option au) (b:au→Option Out):List DV→au→Option Out
 | [],ρ=>some (.bU ρ)
 | d::ds,ρ=>(bd d ρ).bind λρ₁=>(b ρ₁).bind λo=>match o with
   | .bU ρ'=>fN bd b ds ρ'
   | .cnt ρ'=>fN bd b ds ρ'
   | .ret d ρ'=>some (.ret d ρ')
theorem zT {bd:DV→au→Option au}{b:au→Option Out}:∀ d ds ρ,fN bd b (d::ds) ρ=((bd d ρ).bind λρ₁=>(b ρ₁).bind λo=>match o with
   | .bU ρ'=>fN bd b ds ρ'
   | .cnt ρ'=>fN bd b ds ρ'
   | .ret d ρ'=>some (.ret d ρ')):=λ_ _ _=>rfl
noncomputable def m6 {α:Type}(l:List α):Option (α×α):=match l with
 | a::l=>(match l with | b::l=>(match l with | []=>some (a,b) | _=>none) | _=>none)
 | _=>none
theorem PB {α:Type}{l:List α}{u:α×α}(h:m6 l=some u):l=[u.1,u.2]:=by
 cases l with
 | nil=>exact bR h
 | cons a l=>
  cases l with
  | nil=>exact bR h
  | cons b l=>
   cases l with
   | nil=>cases h;rfl
   | cons _ _=>exact bR h
noncomputable def bp (t:Expr) (d:DV) (ρ:au):Option au:=
 match lu t with
 | some x=>some (put x (.af d) ρ)
 | none=>(wc t).bind λn=>d.nX.bind λl=>(m6 l).bind λu=>some (put n.2 (.af u.2) (put n.1 (.af u.1) ρ))
theorem UG {t:Expr}{d:DV}{ρ:au}{x:Str}(h:lu t=some x):bp t d ρ=some (put x (.af d) ρ):=by unfold bp;exact(ak h)▸rfl
theorem UH {t:Expr}{d:DV}{ρ:au}(h:lu t=none):bp t d ρ=(wc t).bind λn=>d.nX.bind λl=>(m6 l).bind λu=>some (put n.2 (.af u.2) (put n.1 (.af u.1) ρ)):=by unfold bp;rw[h]
theorem Ze {t:Expr}{d:DV}{ρ ρ':au}{P:Prop}(h:bp t d ρ=some ρ') (k1:∀ x p,t=.Name x p→put x (.af d) ρ=ρ'→P)
  (k2:∀ x y p1 p2 k p3 a b,t=.Tuple [.Name x p1,.Name y p2] k p3→d=.tup [a,b]→put y (.af b) (put x (.af a) ρ)=ρ'→P):P:=
 kC (lu t) (λhn=>bv (λn h2=>bv λl hl=>bv λu hu e=>F4 (PM h2) λp p' k r z=>k2 _ _ p p' k r u.1 u.2 z ((ka hl).trans (congrArg DV.tup (PB hu))) (ai e)) ((UH hn).symm.trans h))
  λx hn=>(oR hn).elim λp z=>k1 x p z (ai ((UG hn).symm.trans h))
section
variable (C:ey) (PN:List Str) (M:List (Str×Nat)) (K:Nat)
noncomputable def rm:OT→Option (List OT)
 | .own l=>some l
 | _=>none
noncomputable def tf (ρ:au) (x:Str):Option (List OT):=(ρ.lookup x).bind rm
noncomputable def yf (ρ:au) (x:Str):Option Int:=(ρ.lookup x).bind λt=>t.lf.bind DV.int?
noncomputable def Aj (e:Expr) (ρ:au):Option DV:=(ev C e ρ).bind OT.lf
noncomputable def rE (e:Expr) (ρ:au):Option Int:=(ev C e ρ).bind λt=>t.lf.bind DV.int?
noncomputable def Sj (l:List OT) (j:Nat):Option Int:=(l[j]?).bind λt=>t.lf.bind DV.int?
theorem Bx {ρ:au}{x:Str}{l:List OT}(h:tf ρ x=some l):ρ.lookup x=some (.own l):=
 bJ h λt h1 h2=>by refine(ak h1)▸?_;cases t<;>first | exact congrArg (some ∘ OT.own) (ai h2) | exact bR h2
theorem sH {o:Option OT}{i:Int}(h:(o.bind λt=>t.lf.bind DV.int?)=some i):o=some (.af (.int i)):=
 bJ h λt h1 h2=>bJ h2 λd h3 h4=>by exact(ak h1)▸(ak (lh h3))▸(ak (rp h4))▸rfl
theorem Bi {o:Option OT}{d:DV}(h:o.bind OT.lf=some d):o=some (.af d):=
 bJ h λt h1 h2=>by exact(ak h1)▸(ak (lh h2))▸rfl
noncomputable def pN (x:Str) (i e:Expr) (ρ:au):Option au:=
 (eN C PN e ρ).bind λr=>r.1.lf.bind λd=>(r.2.2.lookup x).bind λt=>(match t with
  | .own ts=>(rE C i r.2.2).bind λk=>(eI ts.length k).bind λj=>if 0≤k then ((ts[j]?).bind OT.lf).bind λZ=>some (put x (.own (ts.set j (.af d))) r.2.2) else none
  | .fI ks=>(Aj C i r.2.2).bind λk=>k.nX.bind λds=>(fi ds).bind λns=>if ¬ ns∈ks then (if ks.length≤bh then some (put x (.fI (ks++[ns])) r.2.2) else none) else none
  | .af _=>none)
noncomputable def jZ (x i:Str) (l e:Expr) (ρ:au):Option au:=
 (eN C PN e ρ).bind λr=>r.1.lf.bind λd=>(tf r.2.2 x).bind λts=>(yf r.2.2 i).bind λm=>(eI ts.length m).bind λa=>((ts[a]?).bind rm).bind λus=>
  (rE C l r.2.2).bind λk=>(eI us.length k).bind λj=>if 0≤k then ((us[j]?).bind OT.lf).bind λZ=>some (put x (.own (ts.set a (.own (us.set j (.af d))))) r.2.2) else none
noncomputable def pM (x i j:Str) (ρ:au):Option au:=
 (tf ρ x).bind λts=>(yf ρ i).bind λa=>(yf ρ j).bind λb=>(eI ts.length a).bind λia=>(eI ts.length b).bind λib=>if 0≤a∧0≤b then (ts[ia]?).bind λt₁=>(ts[ib]?).bind λt₂=>some (put x (.own ((ts.set ia t₂).set ib t₁)) ρ) else none
noncomputable def sbP:(e:Expr)→Option {q:Expr×Expr // ∃ p,e=.Subscript q.1 q.2 p}
 | .Subscript v i p=>some ⟨(v,i),p,rfl⟩
 | _=>none
noncomputable def ue (e:Expr):Option (Str×Str):=(sbP e).bind λq=>(lu q.1.1).bind λx=>(lu q.1.2).map λy=>(x,y)
noncomputable def iy (e:Expr):Option (List Expr):=(Kn e).map (·.1)
theorem IB {x y:Str}{p q r:Pos}:ue (.Subscript (.Name x p) (.Name y q) r)=some (x,y):=rfl
theorem UR {es:List Expr}{k:Nat}{p:Pos}:iy (.Tuple es k p)=some es:=rfl
noncomputable def uM (ts:List Expr) (e:Expr):Option (Str×Str×Str):=
 (m6 ts).bind λt=>(iy e).bind λes=>(m6 es).bind λu=>(ue t.1).bind λp=>(ue t.2).bind λq=>(ue u.1).bind λr=>(ue u.2).bind λs=>
  if q.1=p.1∧r.1=p.1∧s.1=p.1∧r.2=q.2∧s.2=p.2 then some (p.1,p.2,q.2) else none
noncomputable def tF (ts:List Expr) (e:Expr) (ρ:au):Option au:=
 match dk ts with
 | some xs=>(match e with
  | .Tuple es _ _=>(j0 C PN M xs es ρ).bind λr=>if r.1.length≤bh then some (fK xs r.1 r.2) else none
  | e=>(eN C PN e ρ).bind λr=>r.1.lf.bind λd=>(match d with
   | .tup ds=>if xs.length=ds.length then some (fK xs (ds.map .af) r.2.2) else none
   | _=>none))
 | none=>(uM ts e).bind λn=>pM n.1 n.2.1 n.2.2 ρ
noncomputable def mB (t e:Expr) (ρ:au):Option au:=
 match t with
 | .Name x _=>if fu e&&gG M x != 0 then none else (nL C PN (gG M x) e ρ).bind λr=>some (put x r.1 r.2)
 | .Tuple ts _ _=>tF C PN M ts e ρ
 | .Subscript v i _=>(match v with
  | .Name x _=>pN C PN x i e ρ
  | v=>(ue v).bind λn=>jZ C PN n.1 n.2 i e ρ)
 | _=>none
theorem ZF {t:OT}{l:List OT}(h:rm t=some l):t=.own l:=by
 cases t<;>first | exact congrArg OT.own (ai h) | exact bR h
theorem Ye {e:Expr}{n:Str×Str}(h:ue e=some n):∃ p q r,e=.Subscript (.Name n.1 p) (.Name n.2 q) r:=
 bJ h λq Z=>bv λx hx=>mv λy hy e=>q.2.elim λr z=>(oR hx).elim λp hp=>(oR hy).elim λp' hp'=>⟨p,p',r,by exact(ak z)▸(ak hp)▸(ak hp')▸e▸rfl⟩
theorem ZI {e:Expr}{es:List Expr}(h:iy e=some es):∃ k p,e=.Tuple es k p:=jF h λa Z q=>q▸a.2
theorem tp {e:Expr}{n:Str×Str}{P:Expr→Prop}(h:ue e=some n) (k:∀ p q r,P (.Subscript (.Name n.1 p) (.Name n.2 q) r)):P e:=by
 obtain⟨p,q,r,rfl⟩:=Ye h
 exact k p q r
theorem BX {α:Type}{l:List α}{u:α×α}{P:List α→Prop}(h:m6 l=some u) (k:P [u.1,u.2]):P l:=PB h▸k
theorem B1 {e:Expr}{es:List Expr}{P:Expr→Prop}(h:iy e=some es) (k:∀ k p,P (.Tuple es k p)):P e:=by
 obtain⟨q,p,rfl⟩:=ZI h
 exact k q p
theorem Ca {P:List Expr→Expr→Prop}{ts:List Expr}{e:Expr}{n:Str×Str×Str}(h:uM ts e=some n) (k:∀ p1 p2 p3 p4 p5 p6 q1 q2 q3 q4 q5 q6 k' pv,
  P [.Subscript (.Name n.1 p1) (.Name n.2.1 p2) p3,.Subscript (.Name n.1 p4) (.Name n.2.2 p5) p6] (.Tuple [.Subscript (.Name n.1 q1) (.Name n.2.2 q2) q3,.Subscript (.Name n.1 q4) (.Name n.2.1 q5) q6] k' pv)):P ts e:=by
 revert h
 refine bv λt ht=>bv λes he=>bv λu hu=>bv λp hp=>bv λq hq=>bv λr hr=>bv λs hs=>gv λc h=>?_
 obtain rfl:=ai h
 refine BX (P:=λts=>P ts e) ht (B1 (P:=P _) he λk' pv=>BX (P:=λes=>P _ (.Tuple es k' pv)) hu ?_)
 refine tp (P:=λt=>P [t,_] _) hp λp1 p2 p3=>tp (P:=λt=>P [_,t] _) hq λp4 p5 p6=>tp (P:=λt=>P _ (.Tuple [t,_] _ _)) hr λq1 q2 q3=>tp (P:=λt=>P _ (.Tuple [_,t] _ _)) hs λq4 q5 q6=>?_
 rw[c.1,c.2.1,c.2.2.1,c.2.2.2.1,c.2.2.2.2]
 exact k p1 p2 p3 p4 p5 p6 q1 q2 q3 q4 q5 q6 k' pv
noncomputable def yF (t:Expr) (op:Operator) (e:Expr) (ρ:au):Option au:=
 match t with
 | .Name x _=>(yf ρ x).bind λa=>(rE C e ρ).bind λb=>(oB op a b).bind λc=>some (put x (.af (.int c)) ρ)
 | .Subscript v i _=>(lu v).bind λx=>(tf ρ x).bind λts=>(rE C i ρ).bind λk=>(eI ts.length k).bind λj=>if 0≤k then (Sj ts j).bind λa=>(rE C e ρ).bind λb=>(oB op a b).bind λc=>some (put x (.own (ts.set j (.af (.int c)))) ρ) else none
 | _=>none
noncomputable def atP:(e:Expr)→Option {q:Expr×Str // ∃ p,e=.Attribute q.1 q.2 p}
 | .Attribute v f p=>some ⟨(v,f),p,rfl⟩
 | _=>none
noncomputable def td (e:Expr):Option (Str×Str):=(atP e).bind λa=>(lu a.1.1).map λx=>(x,a.1.2)
theorem Tz {x f:Str}{p q:Pos}:td (.Attribute (.Name x p) f q)=some (x,f):=rfl
noncomputable def L6 (x:Str) (f:Str) (a:Expr) (ρ:au):Option au:=
 if f=ae "append" then (tf ρ x).bind λts=>(Aj C a ρ).bind λd=>if ts.length+1≤bh then some (put x (.own (ts++[.af d])) ρ) else none else none
noncomputable def D4 (x:Str) (f:Str) (i a:Expr) (ρ:au):Option au:=
 if f=ae "insert" then (tf ρ x).bind λts=>(jn ts).bind λds=>(rE C i ρ).bind λk=>(Aj C a ρ).bind λd=>if ds.length+1≤bh∧0≤k∧k≤ds.length then some (put x (.own ((ds.take k.toNat++[d]++ds.drop k.toNat).map .af)) ρ) else none else none
noncomputable def vn (e:Expr) (ρ:au):Option au:=
 match e with
 | .Call f es ks p=>(match td f with
  | some n=>(match es with
   | a::L9=>(match L9 with
    | []=>(match ks with | []=>L6 C n.1 n.2 a ρ | _=>none)
    | b::es''=>(match es'' with | []=>(match ks with | []=>D4 C n.1 n.2 a b ρ | _=>none) | _=>none))
   | _=>none)
  | none=>(eN C PN (.Call f es ks p) ρ).bind λr=>r.1.lf.bind λZ=>some r.2.2)
 | _=>none
mutual
noncomputable def ex:Stmt→au→Option Out
 | .Assign ts e _,ρ=>(match ts with | t::ts=>(match ts with | []=>(mB C PN M t e ρ).map .bU | _=>none) | _=>none)
 | .AugAssign t op e _,ρ=>(yF C t op e ρ).map .bU
 | .If t b o _,ρ=>(fx C t ρ).bind λc=>if c then cA b ρ else cA o ρ
 | .While t b os _,ρ=>(match os with | []=>eT (fx C t) (λρ'=>cA b ρ') K ρ | _=>none)
 | .For t it b os _,ρ=>(match os with | []=>(eJ C it ρ).bind λds=>fN (bp t) (λρ'=>cA b ρ') ds ρ | _=>none)
 | .Return e _,ρ=>(match e with | some e=>(eN C PN e ρ).bind λr=>r.1.lf.bind λd=>some (.ret d r.2.2) | none=>none)
 | .Continue _,ρ=>some (.cnt ρ)
 | .Expr e _,ρ=>(vn C PN e ρ).map .bU
 | _,_=>none
noncomputable def cA:List Stmt→au→Option Out
 | [],ρ=>some (.bU ρ)
 | s::ss,ρ=>(ex s ρ).bind λo=>match o with
  | .bU ρ'=>cA ss ρ'
  | o=>some o
end
end
noncomputable def sL (sc:Scope) (PN:List Str):Expr→Bool
 | .Name x _=>lj sc x&&!PN.contains x
 | .Tuple ts _ _=>match dk ts with
  | some xs=>xs.all (λx=>lj sc x&&!PN.contains x)&&decide xs.Nodup
  | none=>true
 | .Subscript _ i _=>dY sc i&&(match i with | .Slice ..=>false | _=>true)
 | _=>false
noncomputable def yg:Expr→Bool
 | .Call f _ _ q=>(match f with | .Attribute _ _ p=>p.endLine==q.line | _=>true)
 | _=>true
mutual
noncomputable def v7 (sc:Scope) (PN:List Str):Stmt→Bool
 | .Assign ts e _=>dY sc e&&ts.all (sL sc PN)&&(match e with | .Tuple es _ _=>jU es||ts.all (λt=>match t with | .Tuple us _ _=>(dk us).isNone | _=>true) | .ListComp ..=>ts.all (λt=>match t with | .Name ..=>true | _=>false) | .SetComp ..=>false | .DictComp ..=>false | _=>true)
 | .AugAssign t _ e _=>dY sc e&&sL sc PN t
 | .If t b o _=>dY sc t&&lI sc PN b&&lI sc PN o
 | .While t b _ _=>dY sc t&&lI sc PN b
 | .For t it b _ _=>dY sc it&&sL sc PN t&&xX t it&&lI sc PN b
 | .Return e _=>(match e with | some e=>dY sc e | none=>false)
 | .Expr e _=>dY sc e&&yg e
 | .Continue _=>true
 | .Raise ..=>true
 | _=>false
noncomputable def lI (sc:Scope) (PN:List Str):List Stmt→Bool
 | []=>true
 | s::ss=>v7 sc PN s&&lI sc PN ss
end
end
section
variable {prog:Program}{w:World}
section
variable {A:Around}{E:Value→Shared→Prop}{H₀:Heap}{mg mb:Str→Option Value}{O₀:Addr→Prop}{env:Env}{sc:Scope}{W:List Addr}{pr:List (Str×Value)}{ρ:au}{F:Str→List Addr}{P:List Pv}{s s':Shared}{n:Nat}{C:ey}
theorem Gl {PN:List Str}{x:Str}(gu:pr.map (·.1)=PN) (h:PN.contains x=false):∀ q∈pr,q.1≠x:=λq hq e=>by
 exact lN (h.symm.trans (dX.mpr (gu▸e▸aE.mpr ⟨q,hq,rfl⟩)))
theorem JO {PN:List Str}{xs:List Str}(gu:pr.map (·.1)=PN) (h:(xs.all λx=>lj sc x&&!PN.contains x)=true):∀ x∈xs,lj sc x=true∧∀ r∈pr,r.1≠x:=λx hx=>by
 exact⟨(a6 (aA.mp h x hx)).1,Gl gu (sE (a6 (aA.mp h x hx)).2)⟩
theorem JF {PN:List Str}{ts:List Expr}{k:Nat}{p:Pos}{xs:List Str}(rq:dk ts=some xs) (h:sL sc PN (.Tuple ts k p)=true):(xs.all λx=>lj sc x&&!PN.contains x)=true∧xs.Nodup:=by
 have h:(match dk ts with | some xs=>xs.all (λx=>lj sc x&&!PN.contains x)&&decide xs.Nodup | none=>true)=true:=h
 exact⟨(a6 (rq▸h)).1,of_decide_eq_true (a6 (rq▸h)).2⟩
theorem Wy {ts:List Expr}{k:Nat}{p:Pos}{e:Expr}(h:iy e=none):swappedStores [.Tuple ts k p] e env=pure none:=by
 cases e<;>first | rfl | exact bR h.symm
theorem XX {PN:List Str}{ts:List Expr}{k l:Nat}{p pos:Pos}{e:Expr}(wf:v7 sc PN (.Assign [.Tuple ts k p] e pos)=true):swapsWithSole [.Tuple ts k p] e l env=pure false:=by
 clear wf
 cases e<;>first | rfl | exact lN ((gI wf).2)
theorem Yp {o:Option OT}{l:List OT}(h:o.bind rm=some l):o=some (.own l):=
 bJ h λt h1 h2=>by exact(ak h1)▸(ak (ZF h2))▸rfl
theorem Qg {e:Expr}{x f:Str}(h:td e=some (x,f)):∃ p q,e=.Attribute (.Name x p) f q:=by
 exact bJ h λa Z=>mv λy hy e=>(oR hy).elim λp ep=>a.2.elim λq eq=>⟨p,q,by exact(ak eq)▸(ak ep)▸(ak ((eO e).1))▸(ak ((eO e).2))▸rfl⟩
theorem V1 {e:Expr}{A:List Expr→Option au}{B:Expr→Option au}{ρ':au}(h:(match e with | .Tuple es _ _=>A es | e=>B e)=some ρ'):(∃ es k p,e=.Tuple es k p∧A es=some ρ')∨(iy e=none∧B e=some ρ'):=by
 cases e<;>first | exact .inr ⟨rfl,h⟩ | exact .inl ⟨_,_,_,rfl,h⟩
set_option tactic.hygienic true in
theorem L7 {P:Expr→Expr→au→Prop}{PN:List Str}{M:List (Str×Nat)}{t e:Expr}{ρ ρ':au}(h:mB C PN M t e ρ=some ρ')
  (k1:∀ x px r,(fu e=true→gG M x=0)→nL C PN (gG M x) e ρ=some r→P (.Name x px) e (put x r.1 r.2))
  (k2:∀ ts k p xs ds fr ρ1,dk ts=some xs→iy e=none→eN C PN e ρ=some (.af (.tup ds),fr,ρ1)→xs.length=ds.length→P (.Tuple ts k p) e (fK xs (ds.map .af) ρ1))
  (k3:∀ ts k p xs es k' p' r,dk ts=some xs→j0 C PN M xs es ρ=some r→r.1.length≤bh→P (.Tuple ts k p) (.Tuple es k' p') (fK xs r.1 r.2))
  (k4:∀ k p p1 p2 p3 p4 p5 p6 q1 q2 q3 q4 q5 q6 k' pv x i j ts a b ia ib t₁ t₂,ρ.lookup x=some (.own ts)→ρ.lookup i=some (.af (.int a))→ρ.lookup j=some (.af (.int b))→eI ts.length a=some ia→eI ts.length b=some ib→0≤a→0≤b→ts[ia]?=some t₁→ts[ib]?=some t₂ →
   P (.Tuple [.Subscript (.Name x p1) (.Name i p2) p3,.Subscript (.Name x p4) (.Name j p5) p6] k p) (.Tuple [.Subscript (.Name x q1) (.Name j q2) q3,.Subscript (.Name x q4) (.Name i q5) q6] k' pv) (put x (.own ((ts.set ia t₂).set ib t₁)) ρ))
  (k5:∀ x px i p d fr ρ1 ts k j d₀,eN C PN e ρ=some (.af d,fr,ρ1)→ρ1.lookup x=some (.own ts)→ev C i ρ1=some (.af (.int k))→0≤k→eI ts.length k=some j→ts[j]?=some (.af d₀)→P (.Subscript (.Name x px) i p) e (put x (.own (ts.set j (.af d))) ρ1))
  (k6:∀ x px i p d fr ρ1 ks ds ns,eN C PN e ρ=some (.af d,fr,ρ1)→ρ1.lookup x=some (.fI ks)→ev C i ρ1=some (.af (.tup ds))→fi ds=some ns→¬ ns∈ks→ks.length≤bh→P (.Subscript (.Name x px) i p) e (put x (.fI (ks++[ns])) ρ1))
  (k7:∀ x y p1 p2 p3 i p d fr ρ1 ts m a us k j d₀,eN C PN e ρ=some (.af d,fr,ρ1)→ρ1.lookup x=some (.own ts)→ρ1.lookup y=some (.af (.int m))→eI ts.length m=some a→ts[a]?=some (.own us)→ev C i ρ1=some (.af (.int k))→0≤k→eI us.length k=some j→us[j]?=some (.af d₀) →
   P (.Subscript (.Subscript (.Name x p1) (.Name y p2) p3) i p) e (put x (.own (ts.set a (.own (us.set j (.af d))))) ρ1)):P t e ρ':=by
 cases t<;>first | exact bR h | skip
 case Name x px=>
  change (if fu e&&gG M x != 0 then none else (nL C PN (gG M x) e ρ).bind λr=>some (put x r.1 r.2))=some ρ' at h
  exact Lo h (λZ h=>bR h) λhc h=>bJ h λr h1 h=>ai h▸k1 x px r (λAe=>gD λq=>hc (bQ.mpr ⟨Ae,bne_iff_ne.mpr q⟩)) h1
 case Tuple ts k p=>
  change tF C PN M ts e ρ=some ρ' at h
  unfold tF at h
  split at h
  ·rename_i xs rq
   rcases V1 (A:=λes=>(j0 C PN M xs es ρ).bind λr=>if r.1.length≤bh then some (fK xs r.1 r.2) else none) (B:=λe=>(eN C PN e ρ).bind λr=>r.1.lf.bind λd=>(match d with | .tup ds=>if xs.length=ds.length then some (fK xs (ds.map .af) r.2.2) else none | _=>none)) h with ⟨es,k',p',e1,h⟩ | ⟨he,h⟩
   ·exact bJ h λr h1 h=>gg h λiU h=>ai h▸e1▸k3 ts k p xs es k' p' r rq h1 iU
   ·revert h
    refine bw λd fr ρ1 h1 h=>?_
    cases d<;>first | exact bR h | exact gg h λhl h=>ai h▸k2 ts k p xs _ fr ρ1 rq he h1 hl
  ·revert h
   refine bv λn hn=>bv λjt hx=>bv λa hi=>bv λb hj=>bv λia h1=>bv λib h2=>gv λh0=>bv λt₁ g1=>bv λt₂ g2 h=>?_
   exact ai h▸Ca (P:=λts e=>P (.Tuple ts k p) e _) hn λp1 p2 p3 p4 p5 p6 q1 q2 q3 q4 q5 q6 k' pv=>k4 k p p1 p2 p3 p4 p5 p6 q1 q2 q3 q4 q5 q6 k' pv _ _ _ jt a b ia ib t₁ t₂ (Bx hx) (sH hi) (sH hj) h1 h2 h0.1 h0.2 g1 g2
 case Subscript v i p=>
  have two:((ue v).bind λn=>jZ C PN n.1 n.2 i e ρ)=some ρ'→P (.Subscript v i p) e ρ':=by
   refine bv λn hn=>bw λd fr ρ1 h1=>bv λts hx=>bv λm hi=>bv λa h4=>bv λus hu=>bv λk h6=>bv λj h8=>gv λh0=>bv λd₀ hd h=>?_
   exact ai h▸tp (P:=λv=>P (.Subscript v i p) e _) hn λp1 p2 p3=>k7 _ _ p1 p2 p3 i p d fr ρ1 ts m a us k j d₀ h1 (Bx hx) (sH hi) h4 (Yp hu) (sH h6) h0 h8 (Bi hd)
  cases v<;>first | exact two h | skip
  rename_i x px
  revert h
  refine bw λd fr ρ1 h1=>bv λt hx h=>?_
  cases t with
  | af _=>exact bR h
  | own ts=>exact bJ h λk h4 h=>bJ h λj h6 h=>gg h λh0 h=>bJ h λd₀ hd h=>ai h▸k5 x px i p d fr ρ1 ts k j d₀ h1 hx (sH h4) h0 h6 (Bi hd)
  | fI ks=>exact bJ h λk h4 h=>bJ h λds hk h=>bJ h λns h6 h=>gg h λpI h=>gg h λiU h=>ai h▸k6 x px i p d fr ρ1 ks ds ns h1 hx (ka hk▸Bi h4) h6 pI iU
theorem T2 (G:GW H₀ mg mb) (hC:bk prog w H₀ mg n C) (cx:Cx prog n A env sc){PN:List Str}{M:List (Str×Nat)}{t e:Expr}{pos:Pos}{ρ':au}(gu:pr.map (·.1)=PN) (S:SS prog w H₀ O₀ env sc W pr ρ F P s)
  (wf:v7 sc PN (.Assign [t] e pos)=true) (h:mB C PN M t e ρ=some ρ') :
  wpAny (model prog w) A (exec (.Assign [t] e pos) env) (λf s'=>f=.next∧j2 prog w H₀ O₀ env sc W pr ρ' P F s s') E s:=by
 refine L7 (P:=λt e ρ'=>v7 sc PN (.Assign [t] e pos)=true→wpAny (model prog w) A (exec (.Assign [t] e pos) env) (λf s'=>f=.next∧j2 prog w H₀ O₀ env sc W pr ρ' P F s s') E s) h
  (λx px r LI h1 wf=>?_) (λts k p xs ds fr ρ1 rq Ac h1 hl wf=>?_) (λts k p xs es k' p' r rq h1 iU wf=>?_) (λk p p1 p2 p3 p4 p5 p6 q1 q2 q3 q4 q5 q6 k' pv x i j ts a b ia ib t₁ t₂ hx hi hj h1 h2 h0 Hl g1 g2 wf=>?_)
  (λx px i p d fr ρ1 ts k j d₀ h1 hx h4 h0 h6 hd wf=>?_) (λx px i p d fr ρ1 ks ds ns h1 hx h4 h6 pI iU wf=>?_) (λx y p1 p2 p3 i p d fr ρ1 ts m a us k j d₀ h1 hx hi h4 hu h6 h0 h8 hd wf=>?_) wf
 ·have w:=gI wf
  exact WT G hC cx S w.1.1 (a6 (a6 w.1.2).1).1 (Gl gu (sE (a6 (a6 w.1.2).1).2)) LI h1
 ·have w:=gI wf
  exact ZK G hC cx S w.1.1 rq hl (JO gu (JF rq ((a6 w.1.2).1)).1) (Wy Ac) (XX wf) h1
 ·have w:=gI wf
  have wt:=(a6 w.1.2).1
  have wx:(jU es||((dk ts).isNone&&true))=true:=w.2
  rw[rq] at wx
  exact Zc G hC cx S w.1.1 rq (JF rq wt).2 (JO gu (JF rq wt).1) ((cU.mp wx).elim id lN) iU h1
 ·exact WU cx S hx hi hj h1 h2 h0 Hl g1 g2
 ·have w:=gI wf
  exact WS G hC cx S w.1.1 (a6 (a6 w.1.2).1).1 h1 hx h4 h0 h6 hd
 ·have w:=gI wf
  exact UC G hC cx S w.1.1 (a6 (a6 w.1.2).1).1 h1 hx h4 h6 pI iU
 ·have w:=gI wf
  exact Zb G hC cx S w.1.1 (a6 (a6 w.1.2).1).1 h1 hx hi h4 hu h6 h0 h8 hd
set_option tactic.hygienic true in
theorem T4 (G:GW H₀ mg mb) (hC:bk prog w H₀ mg n C) (cx:Cx prog n A env sc){PN:List Str}{t e:Expr}{op:Operator}{pos:Pos}{ρ':au}(gu:pr.map (·.1)=PN) (S:SS prog w H₀ O₀ env sc W pr ρ F P s)
  (wf:v7 sc PN (.AugAssign t op e pos)=true) (h:yF C t op e ρ=some ρ') :
  wpAny (model prog w) A (exec (.AugAssign t op e pos) env) (λf s'=>f=.next∧j2 prog w H₀ O₀ env sc W pr ρ' P F s s') E s:=by
 have wf:=a6 wf
 revert h
 cases t<;>first | exact λh=>bR h | skip
 case Name x px=>
  have wt:=a6 wf.2
  exact bv λa hx=>bv λb h1=>bv λc h3 h=>ai h▸WW G hC cx S wf.1 wt.1 (Gl gu (sE wt.2)) (sH hx) (sH h1) h3
 case Subscript v i p=>
  refine bv λx hn=>?_
  refine(oR hn).elim λpx ev=>?_
  subst ev
  have wt:=a6 wf.2
  exact bv λts hx=>bv λk h1=>bv λj h3=>gv λh0=>bv λa hd=>bv λb h5=>bv λc h7 h=>ai h▸WV G hC cx S wf.1 wt.1 (λa b c p' q=>by subst q;exact lN wt.2) (Bx hx) (sH h1) h0 h3 (sH hd) (sH h5) h7
theorem CU {P:Expr→Prop}{e:Expr}{n:Str×Str}(h:td e=some n) (k:∀ p q,P (.Attribute (.Name n.1 p) n.2 q)):P e:=by
 exact iB (Qg (x:=n.1) (f:=n.2) h) λp q e=>e▸k p q
set_option tactic.hygienic true in
theorem L5 {P:Expr→au→Prop}{PN:List Str}{e:Expr}{ρ ρ':au}(h:vn C PN e ρ=some ρ')
  (k1:∀ f es ks p d fr ρ1,eN C PN (.Call f es ks p) ρ=some (.af d,fr,ρ1)→P (.Call f es ks p) ρ1)
  (k2:∀ x px q a p ts d,ρ.lookup x=some (.own ts)→ev C a ρ=some (.af d)→ts.length+1≤bh→P (.Call (.Attribute (.Name x px) (ae "append") q) [a] [] p) (put x (.own (ts++[.af d])) ρ))
  (k3:∀ x px q i a p (ds:List DV) (k:Int) d,ρ.lookup x=some (.own (ds.map .af))→ev C i ρ=some (.af (.int k))→ev C a ρ=some (.af d)→ds.length+1≤bh→0≤k→k≤ds.length →
   P (.Call (.Attribute (.Name x px) (ae "insert") q) [i,a] [] p) (put x (.own ((ds.take k.toNat++[d]++ds.drop k.toNat).map .af)) ρ)):P e ρ':=by
 cases e<;>first | exact bR h | skip
 rename_i f es ks p
 unfold vn at h
 dsimp only at h
 split at h
 ·rename_i n hn
  refine CU (P:=λf=>P (.Call f es ks p) ρ') hn λpx q=>?_
  cases es with
  | nil=>exact bR h
  | cons a es=>
   cases es with
   | nil=>
    cases ks with
    | cons _ _=>exact bR h
    | nil=>exact gg h λhf h=>bJ h λts hx h=>bJ h λd h1 h=>gg h λiU h=>ai h▸hf▸k2 n.1 px q a p ts d (Bx hx) (Bi h1) iU
   | cons b es=>
    cases es with
    | cons _ _=>exact bR h
    | nil=>
     cases ks with
     | cons _ _=>exact bR h
     | nil=>exact gg h λhf h=>bJ h λts hx h=>bJ h λds h1 h=>bJ h λk h2 h=>bJ h λd h4 h=>gg h λiU h=>ai h▸hf▸k3 n.1 px q a b p ds k d (t7 h1▸Bx hx) (sH h2) (Bi h4) iU.1 iU.2.1 iU.2.2
 ·exact bJ h λr h1 h=>bJ h λd h2 h=>ai h▸k1 f es ks p d r.2.1 r.2.2 (by exact(ak h1)▸(lh h2)▸rfl)
theorem T3 (G:GW H₀ mg mb) (hC:bk prog w H₀ mg n C) (cx:Cx prog n A env sc){PN:List Str}{e:Expr}{pos:Pos}{ρ':au}(S:SS prog w H₀ O₀ env sc W pr ρ F P s)
  (wf:v7 sc PN (.Expr e pos)=true) (h:vn C PN e ρ=some ρ') :
  wpAny (model prog w) A (exec (.Expr e pos) env) (λf s'=>f=.next∧j2 prog w H₀ O₀ env sc W pr ρ' P F s s') E s:=by
 refine L5 (P:=λe ρ'=>v7 sc PN (.Expr e pos)=true→wpAny (model prog w) A (exec (.Expr e pos) env) (λf s'=>f=.next∧j2 prog w H₀ O₀ env sc W pr ρ' P F s s') E s) h
  (λf es ks p d fr ρ1 h1 wf=>?_) (λx px q a p ts d hx h1 iU wf=>?_) (λx px q i a p ds k d hx h2 h4 c1 c2 c3 wf=>?_) wf
 ·refine Jc cx.env ⟨_,_,_,_,rfl⟩ (wm (vR G hC cx S (a6 wf).1 h1 false) (λv s₁ q=>?_))
  refine mZ q λF₁ as S₁ M₁=>?_;clear q
  exact⟨F₁,S₁.drop,M₁.tr Mv.drop⟩
 ·have wf:=a6 wf
  exact Jc cx.env ⟨_,_,_,_,rfl⟩ (wm (Za G hC cx S hx (a6 (a6 wf.1).2).1 h1 iU wf.2) (λZ Z q=>q.2))
 ·have wf:=a6 wf
  exact Jc cx.env ⟨_,_,_,_,rfl⟩ (wm (Zv G hC cx S hx (a6 (a6 wf.1).2).1 (a6 (a6 (a6 wf.1).2).2).1 h2 h4 c1 c2 c3 wf.2) (λZ Z q=>q.2))
end
end
section
variable {prog:Program}{w:World}
noncomputable def Ends (prog:Program) (w:World) (H₀:Heap) (O₀:Addr→Prop) (env:Env) (sc:Scope) (W:List Addr) (pr:List (Str×Value)) (F:Str→List Addr) (s:Shared) (out:Out) (f:Flow) (s':Shared):Prop:=
 ∃ F',Mv W F [] s F' [] s'∧match out with
  | .bU ρ'=>f=.next∧SS prog w H₀ O₀ env sc W pr ρ' F' [] s'
  | .cnt ρ'=>f=.cont∧SS prog w H₀ O₀ env sc W pr ρ' F' [] s'
  | .ret d ρ'=>∃ v,f=.ret v∧SS prog w H₀ O₀ env sc W pr ρ' F' [] s'∧Rep s'.heap (HS O₀ F' []) v d
section
variable {H₀:Heap}{O₀:Addr→Prop}{env:Env}{sc:Scope}{W:List Addr}{pr:List (Str×Value)}{F:Str→List Addr}{s:Shared}
theorem Ends.pre {F₀:Str→List Addr}{s₀:Shared}{out:Out}{f:Flow}{s':Shared}(M:Mv W F₀ [] s₀ F [] s) (x:Ends prog w H₀ O₀ env sc W pr F s out f s'):Ends prog w H₀ O₀ env sc W pr F₀ s₀ out f s':=by
 exact aT x λF' M' q=>⟨F',M.tr M',q⟩
theorem Ends.sX {ρ':au}{f:Flow}{s':Shared}(x:f=.next∧j2 prog w H₀ O₀ env sc W pr ρ' [] F s s'):Ends prog w H₀ O₀ env sc W pr F s (.bU ρ') f s':=aT x.2 λF' S M=>⟨F',M,x.1,S⟩
end
section
variable (prog w)
variable (H₀:Heap) (n:Nat) (C:ey) (PN:List Str) (M:List (Str×Nat)) (K:Nat)
noncomputable def XS (st:Stmt):Prop:=∀ {A:Around}{env:Env}{sc:Scope}{O₀:Addr→Prop}{W:List Addr}{pr:List (Str×Value)}{ρ:au}{F:Str→List Addr}{s:Shared}{out:Out}{E:Value→Shared→Prop},Cx prog n A env sc→pr.map (·.1)=PN→v7 sc PN st=true →
 SS prog w H₀ O₀ env sc W pr ρ F [] s→ex C PN M K st ρ=some out→wpAny (model prog w) A (exec st env) (Ends prog w H₀ O₀ env sc W pr F s out) E s
noncomputable def wI (ua:List Stmt):Prop:=∀ {A:Around}{env:Env}{sc:Scope}{O₀:Addr→Prop}{W:List Addr}{pr:List (Str×Value)}{ρ:au}{F:Str→List Addr}{s:Shared}{out:Out}{E:Value→Shared→Prop},Cx prog n A env sc→pr.map (·.1)=PN→lI sc PN ua=true →
 SS prog w H₀ O₀ env sc W pr ρ F [] s→cA C PN M K ua ρ=some out→wpAny (model prog w) A (execs ua env) (Ends prog w H₀ O₀ env sc W pr F s out) E s
end
section
variable {H₀:Heap}{mg mb:Str→Option Value}{n:Nat}{C:ey}{PN:List Str}{M:List (Str×Nat)}{K:Nat}
theorem kN {st:Stmt}(h:∀ ρ,ex C PN M K st ρ=none):XS prog w H₀ n C PN M K st:=λ{A env sc O₀ W pr ρ F s out E} cx gu wf S q=>by rw[h] at q;exact bR q
theorem WG:wI prog w H₀ n C PN M K []:=λ{A env sc O₀ W pr ρ F s out E} cx gu wf S h=>by
 obtain rfl:=ai h
 exact λZ Z Z=>⟨F,Mv.rf ..,rfl,S⟩
theorem X8 {st:Stmt}{ua:List Stmt} (h1:XS prog w H₀ n C PN M K st) (h2:wI prog w H₀ n C PN M K ua):wI prog w H₀ n C PN M K (st::ua):=λ{A env sc O₀ W pr ρ F s out E} cx gu wf S h=>by
 have wf:=a6 wf
 revert h
 refine bv λo e1 e2=>?_
 refine wpAny_execs_cons (wm (h1 cx gu wf.1 S e1) (λf s₁ q=>?_))
 cases o with
 | bU ρ'=>exact iw q λF₁ M₁ e S₁=>by subst e;exact wm (h2 cx gu wf.2 S₁ e2) λZ Z z=>z.pre M₁
 | cnt ρ'=>exact iw q λF₁ M₁ e S₁=>by cases e2;subst e;exact⟨F₁,M₁,rfl,S₁⟩
 | ret d ρ'=>exact F3 q λF₁ M₁ v e r=>by cases e2;subst e;exact⟨F₁,M₁,v,rfl,r⟩
theorem Z9 (G:GW H₀ mg mb) (hC:bk prog w H₀ mg n C) (t e:Expr) (pos:Pos):XS prog w H₀ n C PN M K (.Assign [t] e pos):=λ{A env sc O₀ W pr ρ F s out E} cx gu wf S h=>by
 exact jF h λρ' h1 h=>h▸wm (T2 G hC cx gu S wf h1) (λZ Z q=>.sX q)
theorem UT (G:GW H₀ mg mb) (hC:bk prog w H₀ mg n C) (t e:Expr) (op:Operator) (pos:Pos):XS prog w H₀ n C PN M K (.AugAssign t op e pos):=λ{A env sc O₀ W pr ρ F s out E} cx gu wf S h=>by
 exact jF h λρ' h1 h=>h▸wm (T4 G hC cx gu S wf h1) (λZ Z q=>.sX q)
theorem WE (G:GW H₀ mg mb) (hC:bk prog w H₀ mg n C) (e:Expr) (pos:Pos):XS prog w H₀ n C PN M K (.Expr e pos):=λ{A env sc O₀ W pr ρ F s out E} cx gu wf S h=>by
 exact jF h λρ' h1 h=>h▸wm (T3 G hC cx S wf h1) (λZ Z q=>.sX q)
theorem WD (pos:Pos):XS prog w H₀ n C PN M K (.Continue pos):=λ{A env sc O₀ W pr ρ F s out E} cx gu wf S h=>by
 obtain rfl:=ai h
 exact λZ Z Z=>⟨F,Mv.rf ..,rfl,S⟩
theorem UX (G:GW H₀ mg mb) (hC:bk prog w H₀ mg n C) (e:Expr) (pos:Pos):XS prog w H₀ n C PN M K (.Return (some e) pos):=λ{A env sc O₀ W pr ρ F s out E} cx gu wf S h=>by
 revert h
 refine bw λd fr ρ' h1 h2=>ai h2▸?_
 exact wpAny_Return_some (wm (vR G hC cx S wf h1 false) λv s₁ q=>mZ q λF₁ as S₁ M₁=>⟨F₁,M₁.tr Mv.drop,v,rfl,S₁.drop,(S₁.pend _ (.head _)).cG.sub λa q=>q.imp id λz=>z.imp (λy=>fM.mpr (.inr y)) id⟩)
theorem BO (G:GW H₀ mg mb) (hC:bk prog w H₀ mg n C){b o:List Stmt}(hb:wI prog w H₀ n C PN M K b) (ho:wI prog w H₀ n C PN M K o) (t:Expr) (pos:Pos):XS prog w H₀ n C PN M K (.If t b o pos):=λ{A env sc O₀ W pr ρ F s out E} cx gu wf S h=>by
 have wf:=gI wf
 revert h
 refine bv λc h1 h2=>wpAny_If (wm (Ow G hC t cx wf.1.1 S.iI h1) λc' s₁ q=>?_)
 have e:=q.1
 subst e
 have k:=q.2
 cases c' with
 | true=>exact wm (hb cx gu wf.1.2 (S.kp k) h2) λZ Z z=>z.pre (Mv.kp k)
 | false=>exact wm (ho cx gu wf.2 (S.kp k) h2) λZ Z z=>z.pre (Mv.kp k)
theorem X7 (G:GW H₀ mg mb) (hC:bk prog w H₀ mg n C){b:List Stmt}(hb:wI prog w H₀ n C PN M K b) (t:Expr) (pos:Pos):XS prog w H₀ n C PN M K (.While t b [] pos):=λ{A env sc O₀ W pr ρ F s out E} cx gu wf S h=>by
 have wf:=a6 wf
 refine wpAny_While (codeAny_mono (R:=λr s'=>∃ f,r=.ok f∧Ends prog w H₀ O₀ env sc W pr F s out f s') ?_ λr s' q=>?_)
 ·refine codeAny_whileLoop (λm s'=>∃ ρ' F',SS prog w H₀ O₀ env sc W pr ρ' F' [] s'∧Mv W F [] s F' [] s'∧eT (fx C t) (λρ'=>cA C PN M K b ρ') m ρ'=some out) (λm s₁ hI=>?_) K ⟨ρ,F,S,Mv.rf ..,h⟩
  refine nW hI λρ₁ F₁ S₁ M₁ h1=>?_;clear hI
  cases m with
  | zero=>exact bR h1
  | succ m=>
   refine bJ h1 λc h2 h3=>wm (Ow G hC t cx wf.1 S₁.iI h2) λc' s₂ q=>?_
   clear h1
   have e:=q.1
   subst e
   have S₂:=S₁.kp q.2
   have M₂:=M₁.tr (Mv.kp q.2)
   clear q M₁ S₁
   cases c' with
   | true=>
    refine bJ h3 λo h4 h5=>wm (hb cx gu wf.2 S₂ h4) λf s₃ q=>?_
    cases o with
    | bU ρ'=>exact iw q λF₃ M₃ e S₃=>by subst e;exact⟨m,wR _,ρ',F₃,S₃,M₂.tr M₃,h5⟩
    | cnt ρ'=>exact iw q λF₃ M₃ e S₃=>by subst e;exact⟨m,wR _,ρ',F₃,S₃,M₂.tr M₃,h5⟩
    | ret d ρ'=>exact F3 q λF₃ M₃ v e r=>by subst e;exact⟨.ret v,rfl,ai h5▸⟨F₃,M₂.tr M₃,v,rfl,r⟩⟩
   | false=>exact λZ Z Z=>⟨.next,rfl,ai h3▸⟨F₁,M₂,rfl,S₂⟩⟩
 ·exact aT q λf e q=>e▸q
end
end
section
variable {prog:Program}{w:World}
section
variable {A:Around}{E:Value→Shared→Prop}{H₀:Heap}{mg mb:Str→Option Value}{O₀:Addr→Prop}{env:Env}{sc:Scope}{W:List Addr}{pr:List (Str×Value)}{ρ:au}{F:Str→List Addr}{P:List Pv}{s s':Shared}{n:Nat}{C:ey}
theorem SS.nj {V:List Addr}(S:SS prog w H₀ O₀ env sc W pr ρ F P s) (k:iN V s s') (hV:∀ a∈V,a∉W∧¬ HS O₀ F P a∧H₀.get? a=none∧∀ o,s.heap.get? a=some o→¬ fW o∧(∀ v,o.data≠.cell v)∧∀ es n,o.data≠.dict es n):SS prog w H₀ O₀ env sc W pr ρ F P s':=by
 have g:∀ a,HS O₀ F P a→∀ o,s.heap.get? a=some o→s'.heap.get? a=some o:=λa ha o e=>k.get (λq=>(hV a q).2.1 ha) e
 have VV:∀ y u,bV env s.heap y u→bV env s'.heap y u:=λy u X=>X.nj k λa ha o e=>((hV a ha).2.2.2 o e).2
 exact⟨⟨λb o e=>k.get (λq=>by have e:=((hV b q).2.2.1)▸e;cases e) (S.dP.up b o e),S.dP.new,λa ha=>let ⟨o,e⟩:=S.dP.alive a ha;⟨o,g a ha o e⟩⟩,
  λx t hx=>let ⟨h1,v,h2,h3⟩:=S.vars x t hx;⟨h1,v,VV _ _ h2,h3.tr (Tr.nj k λa ha o e=>((hV a ha).2.2.2 o e).1:Tr s.heap (HS O₀ F P) s'.heap (HS O₀ F P)) λa ha o e=>g a (.inr (.inr ⟨x,ha⟩)) o e⟩,S.out,
  λp hp=>(S.pend p hp).tr (Tr.nj k λa ha o e=>((hV a ha).2.2.2 o e).1:Tr s.heap (HS O₀ F P) s'.heap (HS O₀ F P)) λa ha o e=>g a (.inr (.inl (bN.mpr ⟨p,hp,ha⟩))) o e,S.nd,S.pP,S.ub,S.jm,S.off,S.kP,
  S.ie.kp λa ha o e=>k.get (λq=>(hV a q).1 ha) e,λp hp=>VV _ _ (S.par p hp)⟩
theorem WY (cx:Cx prog n A env sc){PN:List Str}{tg:Expr}{d:DV}{v:Value}{ρ':au}(gu:pr.map (·.1)=PN) (wf:sL sc PN tg=true) (S:SS prog w H₀ O₀ env sc W pr ρ F [] s) (I:gJ tg s.heap (HS O₀ F []) v d) (h:bp tg d ρ=some ρ') :
  wpAny (model prog w) A (assign tg env v) (λZ s'=>∃ F',SS prog w H₀ O₀ env sc W pr ρ' F' [] s'∧Mv W F [] s F' [] s') E s:=by
 refine Ze h (λx p e1 e2=>?_) λx y p1 p2 kk p3 p q e1 e2 e3=>?_
 ·subst e1 e2
  have wf:=a6 (wf:(lj sc x&&!(PN.contains x))=true)
  refine dJ (uG wf.1) λok1 KY=>?_
  refine dJ (S.push (Kp.rf s) (as:=[]) (v:=v) (t:=.af d) (.af (Rep.tr (λa o hO e Z=>⟨e,λq=>q.elim hO nofun⟩) (I:Rep s.heap (HS O₀ F []) v d))) nofun .nil) λS₁ M₁=>?_
  exact wpAny_assign_Name (wm (BD (prog:=prog) (w:=w) (A:=A) (E:=E) cx.env S₁ KY ok1 (Gl gu (sE wf.2))) λZ s' q=>⟨_,q.1,M₁.tr q.2⟩)
 ·subst e1 e2 e3
  refine nU ((I:∀ p' q',DV.tup [p,q]=.tup [p',q']→∃ T x y,v=.ref T∧s.heap.IsTuple T #[x,y]∧Rep s.heap (HS O₀ F []) x p'∧Rep s.heap (HS O₀ F []) y q') p q rfl) λT a b ev ht ra rb=>ev▸?_
  refine Bj (PV (ds:=[p,q]) (vs:=[a,b]) S (.cons ra (.cons rb .nil))) λP₀ e1 e2 e3 S₁ M₁=>?_
  refine wm (JN (E:=E) (k:=kk) (p:=p3) cx S₁ (show dk [.Name x p1,.Name y p2]=some [x,y] from rfl) (((ag (·.v)).symm.trans (congrArg rM e1):P₀.length=2)▸rfl) (JO gu (a6 (wf:(([x,y].all λx=>lj sc x&&!PN.contains x)&&decide [x,y].Nodup)=true)).1) (e1.symm▸ht)) λZ s' q'=>aT q' λF' S' M'=>⟨F',(e2▸S':SS prog w H₀ O₀ env sc W pr (fK [x,y] ([p,q].map .af) ρ) F' [] s'),M₁.tr M'⟩
end
section
variable {A:Around}{H₀:Heap}{O₀:Addr→Prop}{env:Env}{sc:Scope}{W:List Addr}{pr:List (Str×Value)}{F:Str→List Addr}{s s₂:Shared}{tg:Expr}{I:Addr}{fp wr:List Addr}{ds:List DV}{St:Nat→Heap→Prop}
noncomputable def Nw (F:Str→List Addr) (s₂:Shared) (Fa:Str→List Addr):Prop:=∀ b,OW Fa [] b→OW F [] b∨s₂.heap.get? b=none
structure FL (prog:Program) (w:World) (A:Around) (H₀:Heap) (O₀:Addr→Prop) (W:List Addr) (F:Str→List Addr) (tg:Expr) (I:Addr) (fp wr:List Addr) (ds:List DV) (St:Nat→Heap→Prop) (s s₂:Shared):Prop where
 src:Src prog w A tg I fp wr ds (λb=>HS O₀ F [] b∨s₂.heap.get? b=none) St
 Q3:∀ b∈wr,b∉W
 Q5:∀ b∈wr,¬ HS O₀ F [] b
 wrN:∀ b∈wr,H₀.get? b=none
 Q4:∀ b∈wr,s.heap.get? b=none
 wrA:∀ b∈wr,∃ o,s₂.heap.get? b=some o
 fp:∀ b∈fp,b∈wr∨∃ o,s₂.heap.get? b=some o∧fW o∧¬ HS O₀ F [] b
 W2:∀ b∈W,∀ o,s₂.heap.get? b=some o→¬ fW o
structure FJ (prog:Program) (w:World) (H₀:Heap) (O₀:Addr→Prop) (env:Env) (sc:Scope) (W:List Addr) (pr:List (Str×Value)) (F:Str→List Addr) (s s₂:Shared) (St:Nat→Heap→Prop) (i:Nat) (ρ:au) (F':Str→List Addr) (s':Shared):Prop where
 S:SS prog w H₀ O₀ env sc W pr ρ F' [] s'
 M:Mv W F [] s F' [] s'
 N:Nw F s₂ F'
 al:Al s₂ s'
 st:St i s'.heap
section
variable (L:FL prog w A H₀ O₀ W F tg I fp wr ds St s s₂){i:Nat}{ρ ρ':au}{F' Az:Str→List Addr}{s' mh:Shared}(j:FJ prog w H₀ O₀ env sc W pr F s s₂ St i ρ F' s')
include L
theorem FL.out (hN:Nw F s₂ F'){b:Addr}(hb:b∈wr):¬ OW F' [] b:=λq=>(hN b q).elim (λz=>L.Q5 b hb (.inr z)) λz=>(L.wrA b hb).elim λZ e=>fH z e
include j
theorem FJ.V:∀ a∈wr,a∉W∧¬ HS O₀ F' [] a∧H₀.get? a=none∧∀ o,s'.heap.get? a=some o→¬ fW o∧(∀ v,o.data≠.cell v)∧∀ es n,o.data≠.dict es n:=λa ha=>
 ⟨L.Q3 a ha,λq=>q.elim (λq=>L.Q5 a ha (.inl q)) (L.out j.N ha),L.wrN a ha,λo e=>aT (L.src.seq i _ j.st a ha) λo' e' q=>ai (e'.symm.trans e)▸q⟩
theorem FJ.Mk (k:iN wr s' mh):Mv W F [] s F' [] mh:=
 ⟨iB j.M.same λh t e=>iB k.same λh' t' e'=>⟨h',t',by rw[e',e]⟩,λb o hb hn e=>k.get (λq=>fH (L.Q4 b q) e) (j.M.get b o hb hn e),j.M.new,λa o e=>(j.M.al a o e).elim λo' e'=>⟨o',k.get (λq=>fH (L.Q4 a q) e) e'⟩⟩
theorem FJ.next (k:iN wr s' mh) (st:St (i+1) mh.heap):FJ prog w H₀ O₀ env sc W pr F s s₂ St (i+1) ρ F' mh:=
 ⟨j.S.nj k (j.V L),j.Mk L k,j.N,λa o e=>(bA (a∈wr)).elim (L.src.alive st a) λq=>(j.al a o e).elim λo' e'=>⟨o',k.get q e'⟩,st⟩
theorem FJ.mv (S:SS prog w H₀ O₀ env sc W pr ρ' Az [] mh) (M:Mv W F' [] s' Az [] mh):FJ prog w H₀ O₀ env sc W pr F s s₂ St i ρ' Az mh:=
 ⟨S,j.M.tr M,λb q=>(M.new b q).elim (j.N b) λz=>.inr (j.al.fresh z),λa o e=>(j.al a o e).elim λo' e'=>M.al a o' e',
  L.src.frame i _ _ j.st λb o e q=>q.elim (λq=>(L.fp b q).elim (λz=>M.get b o (L.Q3 b z) (L.out j.N z) e) λz=>iw z λo' e' z1 z2=>M.get b o (λy=>L.W2 b y o' e' z1) (λy=>(j.N b y).elim (λu=>z2 (.inr u)) λu=>fH u e') e)
   λq=>M.get b o (λy=>j.S.ie.ix b y o e q.1) (λy=>q.2 ((j.N b y).imp .inr id)) e⟩
end
end
section
variable {H₀:Heap}{mg mb:Str→Option Value}{n:Nat}{C:ey}{PN:List Str}{M:List (Str×Nat)}{K:Nat}
theorem UU (G:GW H₀ mg mb) (hC:bk prog w H₀ mg n C){b:List Stmt}(hb:wI prog w H₀ n C PN M K b) (tg it:Expr) (pos:Pos):XS prog w H₀ n C PN M K (.For tg it b [] pos):=λ{A env sc O₀ W pr ρ F s out E} cx gu wf S h=>by
 have wg:=gI (a6 wf).1
 refine bJ h λds h1 h2=>?_
 clear h
 refine wpAny_For (wm (Jm G hC it cx wg.1.1 S.iI h1 (IZ wg.2)) λx s₁ q=>wm q λG9 s₂ q=>?_) (Gw wg.2 env)
 refine sJ q λk₂ I fp wr ei oX km mk=>?_
 subst ei
 refine aT (mk (λb=>HS O₀ F [] b∨s₂.heap.get? b=none) λb q=>q) λSt R st=>?_
 clear mk q
 have S₂:=S.kp k₂
 have L:FL prog w A H₀ O₀ W F tg I fp wr ds St s s₂:=⟨R,λb hb q=>aT (S.ie.data b q) λo e Z=>fH (oX b hb) e,λb hb q=>(S.dP.alive b q).elim λo e=>fH (oX b hb) e,λb hb=>kC (H₀.get? b) id λo z=>fH (oX b hb) (S.dP.up b o z),oX,R.alive st,km,S₂.ie.ix⟩
 clear R oX km
 refine codeAny_mono (R:=λr s'=>∃ f,r=.ok f∧Ends prog w H₀ O₀ env sc W pr F s out f s') ?_ λr s' q=>aT q λf e q=>e▸q
 refine codeAny_forLoop_any (λm s'=>∃ i ρ' F',m=ds.length-i∧i≤ds.length∧FJ prog w H₀ O₀ env sc W pr F s s₂ St i ρ' F' s'∧fN (bp tg) (λρ'=>cA C PN M K b ρ') (ds.drop i) ρ'=some out) (λm s₁ hI=>?_) ds.length
  ⟨0,ρ,F,rfl,fh _,⟨S₂,Mv.kp k₂,λb q=>.inl q,λa o e=>⟨o,e⟩,st⟩,h2⟩
 clear st S₂ h2
 refine nU hI λi ρ₁ F₁ em hi j h3=>?_
 subst em
 refine(bA (i<ds.length)).elim (λkl=>?_) λkl=>?_
 ·have hd:=aB kl
  rw[nP kl] at h3
  generalize ds[i]=d at hd h3
  refine bJ h3 λρ₂ h4=>bv λo h5 h6=>?_
  clear h3
  refine wpAny_mono (L.src.item i d s₁ hd j.st) (λr s₃ q=>aT q λv er q'=>?_) λZ Z z=>z.elim
  subst er
  refine wpAny_mono q' (λZ s₃ q=>fL q λk₃ qg tn=>?_) λZ Z z=>z.elim
  refine wm (WY cx gu wg.1.2 (j.next L k₃ qg).S (tn.sub λa q=>q.elim (λz=>.inl (.inl z)) λz=>(j.N a z).imp .inr id) h4) λZ s₄ q=>aT q λF₄ S₄ M₄=>?_
  have j₄:=(j.next L k₃ qg).mv L S₄ M₄
  refine wm (hb cx gu (a6 wf).2 S₄ h5) λf s₅ q=>aT q λF₅ M₅ q'=>?_
  cases o with
  | bU ρ'=>
   have e:=q'.1
   subst e
   exact⟨_,(by exact FK _ _ kl:ds.length-(i+1)<ds.length-i),i+1,ρ',F₅,rfl,kl,j₄.mv L q'.2 M₅,h6⟩
  | cnt ρ'=>
   have e:=q'.1
   subst e
   exact⟨_,(by exact FK _ _ kl:ds.length-(i+1)<ds.length-i),i+1,ρ',F₅,rfl,kl,j₄.mv L q'.2 M₅,h6⟩
  | ret d' ρ'=>
   refine iw q' λv' e q1 q2=>?_
   subst e
   exact⟨.ret v',rfl,ai h6▸⟨F₅,j₄.M.tr M₅,v',rfl,q1,q2⟩⟩
 ·have kE:i=ds.length:=by exact rl 0xf40517720286a02802 rfl _ _ hi kl
  subst kE
  rw[vE] at h3
  refine wpAny_mono (L.src.done s₁ j.st) (λr s₃ q=>?_) λZ Z z=>z.elim
  have er:=q.1
  subst er
  exact λZ Z Z=>⟨.next,rfl,ai h3▸⟨F₁,j.Mk L q.2,rfl,j.S.nj q.2 (j.V L)⟩⟩
mutual
theorem US (G:GW H₀ mg mb) (hC:bk prog w H₀ mg n C):∀ st:Stmt,XS prog w H₀ n C PN M K st
 | .Assign [t] e pos=>Z9 G hC t e pos
 | .Assign [] e pos=>kN λZ=>rfl
 | .Assign (_::_::_) e pos=>kN λZ=>rfl
 | .AugAssign t op e pos=>UT G hC t e op pos
 | .If t b o pos=>BO G hC (ja G hC b) (ja G hC o) t pos
 | .While t b [] pos=>X7 G hC (ja G hC b) t pos
 | .While t b (_::_) pos=>kN λZ=>rfl
 | .For t it b [] pos=>UU G hC (ja G hC b) t it pos
 | .For t it b (_::_) pos=>kN λZ=>rfl
 | .Return (some e) pos=>UX G hC e pos
 | .Return none pos=>kN λZ=>rfl
 | .Continue pos=>WD pos
 | .Expr e pos=>WE G hC e pos
 | .FunctionDef ..=>kN λZ=>rfl
 | .AsyncFunctionDef ..=>kN λZ=>rfl
 | .ClassDef ..=>kN λZ=>rfl
 | .Delete ..=>kN λZ=>rfl
 | .TypeAlias ..=>kN λZ=>rfl
 | .AnnAssign ..=>kN λZ=>rfl
 | .AsyncFor ..=>kN λZ=>rfl
 | .With ..=>kN λZ=>rfl
 | .AsyncWith ..=>kN λZ=>rfl
 | .Match ..=>kN λZ=>rfl
 | .Raise ..=>kN λZ=>rfl
 | .Try ..=>kN λZ=>rfl
 | .TryStar ..=>kN λZ=>rfl
 | .Assert ..=>kN λZ=>rfl
 | .Import ..=>kN λZ=>rfl
 | .ImportFrom ..=>kN λZ=>rfl
 | .Global ..=>kN λZ=>rfl
 | .Nonlocal ..=>kN λZ=>rfl
 | .Pass ..=>kN λZ=>rfl
 | .Break ..=>kN λZ=>rfl
theorem ja (G:GW H₀ mg mb) (hC:bk prog w H₀ mg n C):∀ ua:List Stmt,wI prog w H₀ n C PN M K ua
 | []=>WG
 | st::ua=>X8 (US G hC st) (ja G hC ua)
end
end
end
section
variable {prog:Program}{w:World}
structure FD where
 params:List Str
 sc:Scope
 PN:List Str
 M:List (Str×Nat)
 body:List Stmt
noncomputable def FD.fits (fd:FD) (ts:List OT):Bool:=
 match fd.PN,ts with
 | [],ts=>(jn ts).isSome
 | [_],.own _::r=>(jn r).isSome
 | _,_=>false
noncomputable def FD.fin (fd:FD) (ts:List OT) (d:DV) (ρ:au):Option (DV×List OT):=
 match fd.PN with
 | []=>some (d,ts)
 | p::_=>if d.j9 then (ρ.lookup p).bind λt=>some (d,t::ts.tail) else none
noncomputable def FD.run (fd:FD) (C:ey) (K:Nat) (ts:List OT):Option (DV×List OT):=
 if ts.length=fd.params.length∧fd.fits ts=true then
  (cA C fd.PN fd.M K fd.body (fd.params.zip ts)).bind λo=>match o with
   | .ret d ρ=>fd.fin ts d ρ
   | .bU ρ=>fd.fin ts .none ρ
   | .cnt _=>none
 else none
noncomputable def aw (T:Str→Option FD) (K:Nat):Nat→ey
 | 0,_,_=>none
 | n+1,f,ts=>(T f).bind λfd=>fd.run (λg us=>aw T K n g us) K ts
theorem XE {T:Str→Option FD}{K:Nat}:∀ n f ts,aw T K (n+1) f ts=((T f).bind λfd=>fd.run (λg us=>aw T K n g us) K ts):=λ_ _ _=>rfl
noncomputable def BW (fd:FD):Bool:=
 (match fd.sc.kind with | .function=>true | _=>false)&&!fd.sc.isCoroutine&&!fd.sc.isGenerator&&lI fd.sc fd.PN fd.body&&decide fd.params.Nodup&&fd.params.all (lj fd.sc) &&
  (fd.sc.names.all λp=>p.2 != .free)&&(match fd.PN with | []=>true | [p]=>fd.params.head?==some p | _=>false)
structure FnAt (H₀:Heap) (mg:Str→Option Value) (f:Str) (fd:FD):Prop where
 wf:BW fd=true
 obj:∃ a o fo,mg f=some (.ref a)∧H₀.get? a=some o∧o.data=.func fo∧fo.body=.stmts fd.body∧fo.scope=fd.sc∧fo.closure=[]∧fo.globals=mainGlobals∧fo.builtins=builtinsNs∧H₀.CodeRec fo.code fo.qualname ∧
  ∀ fR:List Value,fR.length=fd.params.length→bindArgs fo ⟨fR,[]⟩=pure (fd.params.zip fR)
theorem bV.uniq {env:Env}{h:Heap}{x:Str}{v u:Value}(a:bV env h x v) (b:bV env h x u):v=u:=by
 rcases a with ⟨k1,m1,n1,e1⟩ | ⟨k1,c1,l1,d1⟩<;>rcases b with ⟨k2,m2,n2,e2⟩ | ⟨k2,c2,l2,d2⟩
 ·have:m1=m2:=by
   funext z
   refine nU n1 λo es ep ho hd Z hm=>?_;clear n1
   refine nU n2 λo' L9 ep' mw jH Z yr=>?_;clear n2
   rw[ho] at mw;cases mw
   rw[hd] at jH;cases jH
   rw[←hm z,←yr z]
  subst this
  rw[e1] at e2;cases e2;rfl
 ·rw[k1] at k2;rcases k2 with q | q<;>cases q
 ·rw[k2] at k1;rcases k1 with q | q<;>cases q
 ·rw[l1] at l2;cases l2
  refine aT d1 λo ho hd=>?_;clear d1
  refine aT d2 λo' mw jH=>?_;clear d2
  rw[ho] at mw;cases mw
  rw[hd] at jH;cases jH;rfl
theorem Pw {kindOf:Str→Option NameKind}{x:Str}:∀ {l:List (Str×Value)}{m:Str→Option Value},(l.map (·.1)).Nodup→kindOf x=some .local→bindL kindOf l m x=(l.lookup x).or (m x)
 | [],m,_,_=>rfl
 | (y,v)::r,m,hn,hk=>by
  rw[a8,a9] at hn
  unfold bindL
  rw[Pw hn.2 hk]
  by_cases h:x=y
  ·subst h
   have:r.lookup x=none:=by
    cases q:r.lookup x with
    | none=>rfl
    | some u=>exact absurd (aE.mpr ⟨_,mem_of_lookup q,rfl⟩) hn.1
   rw[this,if_pos hk]
   simp[]
  ·have:(x==y)=false:=beq_eq_false_iff_ne.mpr h
   rw[aQ,this]
   congr 1
   split
   ·exact if_neg h
   ·rfl
theorem Pu {kindOf:Str→Option NameKind}{x:Str}:∀ {l:List (Str×Value)}{m:Str→Option Value},(l.map (·.1)).Nodup→kindOf x≠some .local→bindC kindOf l m x=(l.lookup x).or (m x)
 | [],m,_,_=>rfl
 | (y,v)::r,m,hn,hk=>by
  rw[a8,a9] at hn
  unfold bindC
  rw[Pu hn.2 hk]
  by_cases h:x=y
  ·subst h
   have:r.lookup x=none:=by
    cases q:r.lookup x with
    | none=>rfl
    | some u=>exact absurd (aE.mpr ⟨_,mem_of_lookup q,rfl⟩) hn.1
   rw[this,if_neg hk]
   simp[]
  ·have:(x==y)=false:=beq_eq_false_iff_ne.mpr h
   rw[aQ,this]
   congr 1
   split
   ·rfl
   ·exact if_neg h
theorem Qo {α β:Type}{x:Str}{t:β}:∀ {xs:List Str}{vs:List α}{ts:List β},vs.length=ts.length→(xs.zip ts).lookup x=some t→∃ (i:Nat) (v:α),(xs.zip vs).lookup x=some v∧xs[i]?=some x∧vs[i]?=some v∧ts[i]?=some t
 | [],vs,ts,_,h=>by simp at h
 | y::xs,[],[],_,h=>by simp at h
 | y::xs,v::vs,u::ts,hl,h=>by
  rw[de,aQ] at h
  rw[de,aQ]
  split at h
  ·rename_i hb
   have:=beq_iff_eq.mp hb
   subst this
   cases h
   exact⟨0,v,by simp,rfl,rfl,rfl⟩
  ·rename_i hb
   refine Bk (Qo (vs:=vs) (by simpa using hl) h) λi v' h1 h2 h3 h4=>?_
   exact⟨i+1,v',by first | exact h1 | (rw[hb];exact h1),h2,h3,h4⟩
end
section
variable {prog:Program}{w:World}
structure A8 (prog:Program) (w:World) (H₀:Heap) (fd:FD) (env:Env) (W:List Addr) (binds:List (Str×Value)) (s s₁:Shared):Prop where
 Eh:nR env fd.sc
 ie:oK env fd.sc W s₁.heap
 new:∀ a∈W,s.heap.get? a=none
 kp:Kp s s₁
 var:∀ x v,binds.lookup x=some v→lj fd.sc x=true→bV env s₁.heap x v
theorem Zg {H₀:Heap}{fd:FD}{fo:FuncData}{a:Addr}{binds:List (Str×Value)}{s s₁:Shared}(hs:fo.scope=fd.sc) (hg:fo.globals=mainGlobals) (hb:fo.builtins=builtinsNs) (hk:fd.sc.kind=.function) (lO:∀ p∈fd.sc.names,p.2≠.free) (hn:(binds.map (·.1)).Nodup)
  (x:InCallC s (callEnvC fo s.heap.objs.size a).locals (bindL (callEnvC fo s.heap.objs.size a).kindOf binds λZ=>none) (callEnvC fo s.heap.objs.size a).cells (bindC (callEnvC fo s.heap.objs.size a).kindOf binds λZ=>none) s₁) :
  ∃ W,A8 prog w H₀ fd (callEnvC fo s.heap.objs.size a) W binds s s₁:=by
 have kd:∀ y,(callEnvC fo s.heap.objs.size a).kindOf y=fd.sc.names.lookup y:=λy=>by
  show fo.scope.names.lookup y=_
  rw[hs]
 have cl:(callEnvC fo s.heap.objs.size a).cells=cellsFrom (s.heap.objs.size+1) fd.sc.names []:=by
  show cellsFrom _ fo.scope.names []=_
  rw[hs]
 have sZ:∀ y,fd.sc.names.lookup y≠some .free:=λy q=>lO _ (mem_of_lookup q) rfl
 have fresh:∀ c,s.heap.objs.size≤c→s.heap.get? c=none:=λc hc=>by
  cases q:s.heap.get? c with
  | none=>rfl
  | some o=>exact absurd (cE q) (kH.mpr hc)
 have lP:∀ y,fd.sc.names.lookup y=some .cell→∃ c,(callEnvC fo s.heap.objs.size a).cells.lookup y=some c:=λy hy=>by
  rw[cl]
  exact xD (z5 (mem_of_lookup hy))
 refine⟨s.heap.objs.size::fd.sc.names.filterMap (λp=>(callEnvC fo s.heap.objs.size a).cells.lookup p.1),⟨?_,hg,hb,λy q=>by rw[kd,q],λy q=>by rw[kd,q],λy q=>by rw[kd,q],λy q=>absurd q (sZ y),λy q=>?_,λy z c q1 q2=>name_of_addr x.apart (mem_of_lookup q1) (mem_of_lookup q2)⟩,
  ⟨⟨_,x.toInCall.ns⟩,.head _,λy hy=>?_,λb hb=>?_⟩,λb hb=>?_,⟨?_,λ{b o} e=>x.toInCall.keep b o e⟩,λy v hy ok=>?_⟩
 ·show fo.scope.kind=_
  rw[hs,hk]
 ·rcases q with q | q
  ·exact lP y q
  ·exact absurd q (sZ y)
 ·refine gF (lP y hy) λc hc=>?_
  exact⟨c,_,hc,x.cell y c hc,.tail _ (gQ.mpr ⟨_,mem_of_lookup hy,hc⟩)⟩
 ·rcases aC.mp hb with q | q
  ·subst q
   refine zV x.toInCall.ns λo es ep ho hd Z=>?_
   exact⟨o,ho,zX hd⟩
  ·refine aT (gQ.mp q) λp hp hc=>?_
   refine aT (x.cell _ _ hc) λo ho hd=>?_
   exact⟨o,ho,Gy hd⟩
 ·rcases aC.mp hb with q | q
  ·subst q;exact fresh _ (aL _)
  ·refine aT (gQ.mp q) λp hp hc=>?_
   have:=x.above _ _ (mem_of_lookup hc)
   exact fresh _ (qI this)
 ·refine iB x.toInCall.same λh tk e=>?_
  exact⟨h,tk,e⟩
 ·refine dJ (uG ok) λZ KY=>?_
  rcases KY with q | q
  ·refine .inl ⟨by rw[kd,q],_,x.toInCall.ns,?_⟩
   rw[Pw hn (by rw[kd,q]),hy];rfl
  ·refine gF (lP y q) λc hc=>?_
   refine .inr ⟨.inl (by rw[kd,q]),c,hc,?_⟩
   have:=x.cell y c hc
   rw[Pu hn (by rw[kd,q];simp),hy] at this
   exact this
theorem Qx {ts:List OT}(h:(jn ts).isSome=true):∃ ds:List DV,ts=ds.map .af:=by
 refine gF (dp.mp h) λds e=>?_
 exact⟨ds,t7 e⟩
end
section
variable {prog:Program}{w:World}
theorem O9 {H₀:Heap}{fd:FD}{env:Env}{W:List Addr}{s s₁:Shared}{O:Addr→Prop}{as:List Addr}{F:Str→List Addr}{pr:List (Str×Value)}{vs:List Value}{ts:List OT}(CF:A8 prog w H₀ fd env W (fd.params.zip vs) s s₁) (hH:Hid H₀ (λb=>O b∨b∈as) s.heap)
  (hO:∀ b∈as,¬ O b) (nr:∀ x,(F x).Nodup) (LL:∀ x y a,a∈F x→a∈F y→x=y) (Ag:∀ b,OW F [] b↔b∈as) (og:fd.params.all (lj fd.sc)=true) (dx:vs.length=ts.length)
  (fs:∀ (i:Nat) x t v,fd.params[i]?=some x→ts[i]?=some t→vs[i]?=some v→bf prog w s.heap (λb=>O b∨b∈as) v t (F x)) (rx:∀ x,(fd.params.zip ts).lookup x=none→F x=[])
  (Ds:∀ p∈pr,(fd.params.zip vs).lookup p.1=some p.2):SS prog w H₀ O env fd.sc W pr (fd.params.zip ts) F [] s₁:=by
 have L4:∀ a∈W,H₀.get? a=none∧¬ O a∧a∉as:=λa ha=>by
  have h1:=CF.new a ha
  refine⟨?_,λq=>?_,λq=>?_⟩
  ·cases z:H₀.get? a with
   | none=>rfl
   | some o=>have:=hH.up a o z;rw[h1] at this;exact bR this
  ·refine gF (hH.alive a (.inl q)) λo e=>?_;rw[h1] at e;exact bR e
  ·refine gF (hH.alive a (.inr q)) λo e=>?_;rw[h1] at e;exact bR e
 have KX:∀ x v,(fd.params.zip vs).lookup x=some v→lj fd.sc x=true:=λx v h=>aA.mp og x (gB (mem_of_lookup h)).1
 refine⟨(hH.keeps CF.kp.fn).sub (λb q=>q.imp id (Ag b).mp:∀ b,HS O F [] b→O b∨b∈as),λx t hx=>?_,rx,λp hp=>(nomatch hp),nr,LL,dg,λx a Z q=>(nomatch q),λa q=>⟨hO a ((Ag a).mp q),λz=>(L4 a z).2.2 ((Ag a).mp q)⟩,λa ha=>⟨(L4 a ha).1,(L4 a ha).2.1⟩,CF.ie,λp hp=>?_⟩
 ·refine Bk (Qo dx hx) λi v h1 h2 h3 h4=>?_
  refine⟨(uG (KX x v h1)).1,v,CF.var x v h1 (KX x v h1),?_⟩
  exact((fs i x t v h2 h4 h3).less (λb q=>q.imp id (Ag b).mp:∀ b,HS O F [] b→O b∨b∈as)).tr (Tr.keeps CF.kp.fn) λa Z o e=>CF.kp.get e
 ·exact CF.var p.1 p.2 (Ds p hp) (KX _ _ (Ds p hp))
theorem X4 {fd:FD}(h:BW fd=true):fd.sc.kind=.function∧fd.sc.isCoroutine=false∧fd.sc.isGenerator=false∧lI fd.sc fd.PN fd.body=true∧fd.params.Nodup∧fd.params.all (lj fd.sc)=true∧(∀ x∈fd.sc.names,¬ x.2=.free) ∧
  (match fd.PN with | []=>true | [p]=>fd.params.head?==some p | _=>false)=true:=
 have e:=gI (a6 (a6 (a6 (a6 h).1).1).1).1
 ⟨OR (a6 e.1.1).1,sE (a6 e.1.1).2,sE e.1.2,e.2,of_decide_eq_true (a6 (a6 (a6 (a6 h).1).1).1).2,(a6 (a6 (a6 h).1).1).2,(λx hx=>bne_iff_ne.mp (aA.mp (a6 (a6 h).1).2 x hx)),(a6 h).2⟩
theorem CQ {α:Sort _}{A B:Prop}{C:α→Prop}{G:Prop}(h:A∧B∧∃ x,C x) (k:A→B→∀ x,C x→G):G:=by
 obtain⟨h0,h1,h2,h3⟩:=h
 exact k h0 h1 h2 h3
theorem y4d {α:Sort _}{β:Sort _}{γ:Sort _}{A B C D E F I J K L:α→β→γ→Prop}{G:Prop}(h:∃ x,∃ y,∃ z,A x y z∧B x y z∧C x y z∧D x y z∧E x y z∧F x y z∧I x y z∧J x y z∧K x y z∧L x y z) (k:∀ x,∀ y,∀ z,A x y z→B x y z→C x y z→D x y z→E x y z→F x y z→I x y z→J x y z→K x y z→L x y z→G):G:=by
 obtain⟨h0,h1,h2,h3,h4,h5,h6,h7,h8,h9,h10,h11,h12⟩:=h
 exact k h0 h1 h2 h3 h4 h5 h6 h7 h8 h9 h10 h11 h12
theorem bC.at {h:Heap}{O:Addr→Prop}{vs:List Value}{ds:List DV}(rs:bC h O vs ds){i:Nat}{t:OT}{v:Value} (h2:(ds.map OT.af)[i]?=some t) (h3:vs[i]?=some v):bf prog w h O v t []:=by
 rw[aU] at h2
 obtain⟨d,hd,rfl⟩:=iE.mp h2
 obtain⟨v',rt,r'⟩:=rs.get hd
 exact ai (rt.symm.trans h3)▸.af r'
theorem UA {h:Heap}{O:Addr→Prop}{vs:List Value}{ts:List OT}{as:List Addr}(hf:(jn ts).isSome=true) (r:aM prog w h O vs ts as) :
  as=[]∧∀ {i:Nat}{t:OT}{v:Value},ts[i]?=some t→vs[i]?=some v→bf prog w h O v t []:=by
 obtain⟨ds,rfl⟩:=Qx hf
 exact⟨r.x9,r.fT.at⟩
theorem UB {h:Heap}{O:Addr→Prop}{vs:List Value}{t:OT}{rest:List OT}{as:List Addr}(hf:(jn rest).isSome=true) (r:aM prog w h O vs (t::rest) as) :
  ∃ ds,rest=ds.map .af∧∃ v₀ ws,vs=v₀::ws∧bf prog w h O v₀ t as∧bC h O ws ds:=by
 obtain⟨ds,rfl⟩:=Qx hf
 cases r with
 | cons ra rb=>exact⟨ds,rfl,_,_,rfl,by rw[rb.x9,bS];exact ra,rb.fT⟩
theorem Ou {as:List Addr}(DO:as=[]) (b:Addr):OW (λZ=>[]) [] b↔b∈as:=by
 subst DO
 exact⟨λq=>q.elim id λq=>q.elim λZ z=>z,λq=>nomatch q⟩
theorem Lm {p:Str}{as:List Addr}{x:Str}{b:Addr}(q:b∈dT (λZ=>[]) p as x):x=p:=by
 by_cases hy:x=p
 ·exact hy
 ·rw[Bl hy] at q;exact nomatch q
theorem F5 {p:Str}{as:List Addr}(b:Addr):OW (dT (λZ=>[]) p as) [] b↔b∈as:=by
 refine⟨λq=>q.elim (λz=>nomatch z) λq=>q.elim λy z=>?_,λq=>.inr ⟨p,by exact(ak GH)▸q⟩⟩
 have:=Lm z
 subst this
 have z:=GH▸z
 exact z
theorem IC {as W:List Addr}{F F':Str→List Addr}{s s₁ s':Shared}(kp:Kp s s₁) (nw:∀ a∈W,s.heap.get? a=none) (Ag:∀ b,OW F [] b↔b∈as) (M:Mv W F [] s₁ F' [] s'):iN as s s':=by
 refine iB kp.same λh1 t1 q1=>iB M.same λh2 t2 q2=>?_
 exact⟨⟨h2,t2,by exact(ak q2)▸(ak q1)▸rfl⟩,λ{b ob} hb e=>M.get b ob (λq=>bR ((nw b q).symm.trans e)) (λq=>hb ((Ag b).mp q)) (kp.get e)⟩
noncomputable def xT {α:Type}(f:DV→au→Option α):Out→Option α
 | .ret d ρ=>f d ρ
 | .bU ρ=>f .none ρ
 | .cnt _=>none
set_option backward.match.sparseCases true in
theorem OQ {H₀:Heap}{mg mb:Str→Option Value}(G:GW H₀ mg mb){n:Nat}{C:ey}(hC:bk prog w H₀ mg n C){A:Around}{env:Env}{sc:Scope}{W:List Addr}{pr:List (Str×Value)}{ρ:au}{F:Str→List Addr}{s:Shared}{O:Addr→Prop}{PN:List Str}{M:List (Str×Nat)}{K:Nat}{body:List Stmt}
  (cx:Cx prog n A env sc) (hpr:pr.map (·.1)=PN) (rX:lI sc PN body=true) (S:SS prog w H₀ O env sc W pr ρ F [] s){out:Out}(wz:cA C PN M K body ρ=some out) {α:Type}{f:DV→au→Option α}{r:α}(kn:xT f out=some r){Q:Value→Shared→Prop}{E:Value→Shared→Prop}
  (CH:∀ v d ρ' F' s',Mv W F [] s F' [] s'→SS prog w H₀ O env sc W pr ρ' F' [] s'→Rep s'.heap (HS O F' []) v d→f d ρ'=some r→Q v s') :
  wpAny (model prog w) A (execs body env) (λq s'=>Q (match q with | .ret v=>v | _=>.none) s') E s:=by
 refine wm (ja G hC body cx hpr rX S wz) (λg s' q=>?_)
 refine aT q λF' M' q=>?_
 cases out with
 | bU ρ'=>exact dJ q λe S'=>e▸CH .none .none ρ' F' s' M' S' .none kn
 | cnt ρ'=>exact bR kn
 | ret d₀ ρ'=>exact iw q λv e S' r'=>e▸CH v d₀ ρ' F' s' M' S' r' kn
theorem XH {fd:FD}{ts:List OT}(hp:fd.PN=[]) (h:fd.fits ts=true):(jn ts).isSome=true:=by
 unfold FD.fits at h
 have h:=hp▸h
 exact h
theorem XI {fd:FD}{ts:List OT}{p:Str}(hp:fd.PN=[p]) (h:fd.fits ts=true):∃ us rest,ts=.own us::rest∧(jn rest).isSome=true:=by
 unfold FD.fits at h
 rw[hp] at h
 match ts,h with
 | .own us::rest,h=>exact⟨us,rest,rfl,h⟩
theorem V2 {fd:FD}{ts jt:List OT}{d d₀:DV}{ρ:au}(hp:fd.PN=[]) (h:fd.fin ts d₀ ρ=some (d,jt)):d₀=d∧ts=jt:=by
 unfold FD.fin at h
 have h:=hp▸h
 exact eO (ai h)
theorem V3 {fd:FD}{ts jt:List OT}{d d₀:DV}{ρ:au}{p:Str}(hp:fd.PN=[p]) (h:fd.fin ts d₀ ρ=some (d,jt)):d.j9=true∧d₀=d∧∃ t,ρ.lookup p=some t∧jt=t::ts.tail:=by
 unfold FD.fin at h
 rw[hp] at h
 refine pG h (λhi h=>bJ h λt ht h=>?_) λh=>bR h
 obtain⟨rfl,rfl⟩:=eO (ai h)
 exact⟨hi,rfl,t,ht,rfl⟩
section
variable {H₀:Heap}{mg mb:Str→Option Value}{n:Nat}{C:ey}{A:Around}{env:Env}{fd:FD}{W as:List Addr}{s s₁:Shared}{O:Addr→Prop}{K:Nat}{vs:List Value}{ts jt:List OT}{d:DV}{out:Out}{E:Value→Shared→Prop}
set_option backward.match.sparseCases true in
theorem W3 (G:GW H₀ mg mb) (hC:bk prog w H₀ mg n C) (cx:Cx prog n A env fd.sc) (CF:A8 prog w H₀ fd env W (fd.params.zip vs) s s₁) (hH:Hid H₀ (λb=>O b∨b∈as) s.heap) (hO:∀ b∈as,¬ O b) (ru:aM prog w s.heap (λb=>O b∨b∈as) vs ts as)
  (hp:fd.PN=[]) (og:fd.params.all (lj fd.sc)=true) (rX:lI fd.sc fd.PN fd.body=true) (hf:fd.fits ts=true) (wz:cA C fd.PN fd.M K fd.body (fd.params.zip ts)=some out) (kn:xT (fd.fin ts) out=some (d,jt)) :
  wpAny (model prog w) A (execs fd.body env) (λq s'=>iZ prog w O s vs as d jt (.ok (.ret (match q with | .ret v=>v | _=>.none))) s') E s₁:=by
 have a:=UA (XH hp hf) ru
 refine OQ (Q:=λv s'=>iZ prog w O s vs as d jt (.ok (.ret v)) s') G hC cx (pr:=[]) hp.symm rX (O9 CF hH hO (F:=λZ=>[]) (λZ=>dg) (λZ Z Z q=>nomatch q) (Ou a.1) og ru.length (λi x t v Z h2 h3=>a.2 h2 h3) (λZ Z=>rfl) (λp q=>nomatch q)) wz kn λv d₀ ρ' F' s' M' S' r h=>?_
 exact⟨v,rfl,IC CF.kp CF.new (Ou a.1) M',(V2 hp h).1▸r.sub (λb q=>q.imp id λz=>absurd (a.1▸z) bT),.inl a.1⟩
theorem V7 {h:Heap}{Q:Addr→Prop}{p:Str}{ps:List Str}{v₀:Value}{ws:List Value}{t₀:OT}{ds:List DV}(hn:p∉ps) (ra:bf prog w h Q v₀ t₀ as) (rs:bC h Q ws ds) (i:Nat) (x:Str) (t:OT) (v:Value) (h1:(p::ps)[i]?=some x) (h2:(t₀::ds.map OT.af)[i]?=some t) (h3:(v₀::ws)[i]?=some v) :
  bf prog w h Q v t (dT (λZ=>[]) p as x):=by
 cases i with
 | zero=>
  cases h1;cases h2;cases h3
  rw[GH];exact ra
 | succ i=>
  rw[Bl λ(q:x=p)=>hn (q▸(bt h1:x∈ps))]
  exact rs.at h2 h3
theorem Yt {pr:List (Str×Value)}{p:Str}{v₀:Value}{ws:List Value}{t':OT}{ds:List DV}{F':Str→List Addr}{ρ':au}{s':Shared}(CF:A8 prog w H₀ fd env W pr s s₁) (hH:Hid H₀ (λb=>O b∨b∈as) s.heap) (rs:bC s.heap (λb=>O b∨b∈as) ws ds)
  (M':Mv W (dT (λZ=>[]) p as) [] s₁ F' [] s') (S':SS prog w H₀ O env fd.sc W [(p,v₀)] ρ' F' [] s') (ht:ρ'.lookup p=some t') :
  (∀ a∈as,∃ o,s'.heap.get? a=some o)∧∃ gw,aM prog w s'.heap (λb=>O b∨b∈gw) (v₀::ws) (t'::ds.map .af) gw∧gw.Nodup∧∀ a∈gw,a∈as∨s.heap.get? a=none:=by
 have nw:∀ b∈F' p,b∈as∨s.heap.get? b=none:=λb hb=>(M'.new b (.inr ⟨p,hb⟩)).imp (F5 b).mp (V9 CF.kp)
 refine nG (S'.vars p t' ht) λZ v' V' r'=>?_
 refine⟨λb hb=>gF (hH.alive b (.inr hb)) λob e=>M'.al b ob (CF.kp.get e),F' p,?_,S'.nd p,nw⟩
 have:=aM.cons ((V'.uniq (S'.par (p,v₀) (.head _))▸r').less (λb q=>q.imp id λz=>.inr ⟨p,z⟩:∀ b,(O b∨b∈F' p)→HS O F' [] b)) (aM.kg (rs.tr (λb ob RV e Z=>⟨(IC CF.kp CF.new F5 M').get (λq=>RV (.inr q)) e,λq=>RV (q.imp id λq=>(nw b q).elim id λz=>bR (z.symm.trans e))⟩:Tr s.heap (λb=>O b∨b∈as) s'.heap (λb=>O b∨b∈F' p))):aM prog w s'.heap _ ws (ds.map .af) [])
 rw[bS] at this
 exact this
set_option backward.match.sparseCases true in
theorem W5 {p:Str}{ps:List Str}{v₀:Value}{ws:List Value}{t₀:OT}{ds:List DV}(G:GW H₀ mg mb) (hC:bk prog w H₀ mg n C) (cx:Cx prog n A env fd.sc) (yn:fd.params=p::ps) (CF:A8 prog w H₀ fd env W (fd.params.zip (v₀::ws)) s s₁) (hH:Hid H₀ (λb=>O b∨b∈as) s.heap) (hO:∀ b∈as,¬ O b)
  (nr:as.Nodup) (hl:(v₀::ws).length=(t₀::ds.map OT.af).length) (ra:bf prog w s.heap (λb=>O b∨b∈as) v₀ t₀ as) (rs:bC s.heap (λb=>O b∨b∈as) ws ds)
  (hp:fd.PN=[p]) (gu:fd.params.Nodup) (og:fd.params.all (lj fd.sc)=true) (rX:lI fd.sc fd.PN fd.body=true) (wz:cA C fd.PN fd.M K fd.body (fd.params.zip (t₀::ds.map .af))=some out) (kn:xT (fd.fin (t₀::ds.map .af)) out=some (d,jt)) :
  wpAny (model prog w) A (execs fd.body env) (λq s'=>iZ prog w O s (v₀::ws) as d jt (.ok (.ret (match q with | .ret v=>v | _=>.none))) s') E s₁:=by
 refine OQ (Q:=λv s'=>iZ prog w O s (v₀::ws) as d jt (.ok (.ret v)) s') G hC cx (pr:=[(p,v₀)]) hp.symm rX (O9 CF hH hO (F:=dT (λZ=>[]) p as) (λx=>?_) (λx y b h1 h2=>(Lm h1).trans (Lm h2).symm) F5 og hl (λi x t v h1 h2 h3=>?_) (λx hx=>?_) (λq hq=>?_)) wz kn λv d₀ ρ' F' s' M' S' r h=>?_
 ·unfold dT;split
  ·exact nr
  ·exact dg
 ·rw[yn] at h1 gu
  exact V7 (a9.mp gu).1 ra rs i x t v h1 h2 h3
 ·refine Bl λhy=>?_
  subst hy
  rw[yn,de,lookup_cons_self] at hx;exact bR hx.symm
 ·exact(ak (aK.mp hq))▸(ak yn)▸(List.lookup_cons_self (k:=p))
 ·refine CQ (V3 hp h) λhi e t' q=>?_
  subst e
  refine dJ q λht e'=>?_
  exact(ak e')▸(dJ (Yt CF hH rs M' S' ht) λq1 q2=>⟨v,rfl,IC CF.kp CF.new F5 M',r.Dh hi,.inr ⟨hi,q1,q2⟩⟩)
end
theorem y75 {H₀:Heap}{mg mb:Str→Option Value}(G:GW H₀ mg mb) (mN:prog.given.tree=none){T:Str→Option FD}{K n:Nat}(hT:∀ f fd,T f=some fd→FnAt H₀ mg f fd) (hC:bk prog w H₀ mg n (λg us=>aw T K n g us)) :
  bk prog w H₀ mg (n+1) (λg us=>aw T K (n+1) g us):=by
 intro f ts d jt h
 refine bJ h λfd hf ym=>?_
 have wf:=hT f fd hf
 refine JK (X4 wf.wf) λhk RO DB rX gu yp hnf DQ=>y4d wf.obj λa o fo LH ho wA DK yl LO wu DL DH DM=>?_
 clear wf
 refine⟨a,o,fo,LH,ho,wA,λA O s vs as R fr hH hO nr ru=>?_⟩
 refine gF fr λl tC=>?_;clear fr
 have dx:=ru.length
 refine pG ym (λkT ym=>bJ ym λout wz kn=>?_) λh=>bR h
 refine codeAny_call_cells (binds:=fd.params.zip vs) (by exact rl 0xe480a70a02e480a70b12008d8c485890a10102 rfl _ _ R.depth) (hH.up _ _ ho) wA (G.nolimit.keeps hH.up) (DH.keeps hH.up) DK (DM vs (by exact rl 0xf4050f405027a04803 rfl _ _ _ dx kT.1)) LO (λx hx=>?_) (λs₁ x=>?_) (by exact(ak yl)▸RO) (by exact(ak yl)▸DB) (by exact(ak yl)▸hk)
 ·refine dJ (uG (aA.mp yp x.1 (gB hx).1)) λZ q=>?_
  refine(ak yl)▸?_
  refine q.imp id λz=>⟨z,?_⟩
  refine gF (xD (z5 (n:=s.heap.objs.size+1) (mem_of_lookup z))) λc hc=>?_
  refine(ak hc)▸?_;rfl
 refine gF (Zg (prog:=prog) (w:=w) (H₀:=H₀) yl wu DL hk hnf (by exact(ak (lU (by exact rl 0xd4090f4202f4050203 rfl _ _ _ dx kT.1)))▸gu:((fd.params.zip vs).map (·.1)).Nodup) x) λW CF=>?_
 have cx:Cx prog n (A.deeper (callEnvC fo s.heap.objs.size a)) (callEnvC fo s.heap.objs.size a) fd.sc:=⟨⟨R.handled,by have:=R.depth;show A.depth+1+(n+1)+200<_;exact rl 0x1c9014e1624011b1890a02c4850e480a70b12008d8c485890a02802 rfl _ _ this,by have:=R.units;show A.units+3+40*(n+1)+200<_;exact rl 0x1c9214431312008d98015890a02c48d0e490a2189890046cc00ac485890a02802 rfl _ _ this⟩,⟨mN,_,l,by show A.frames.map (_::·)=_;rw[tC];rfl,(congrArg Scope.isGenerator yl).trans DB,(congrArg Scope.isCoroutine yl).trans RO,DL,wu⟩,CF.Eh⟩
 match hp:fd.PN,DQ with
 | [],_=>exact W3 G hC cx CF hH hO ru hp yp rX kT.2 wz kn
 | [p],DQ=>
  have yn:∃ ps,fd.params=p::ps:=by
   match q:fd.params,DQ with
   | y::ps,DQ=>exact⟨ps,congrArg (·::ps) (ai (eq_of_beq DQ))⟩
  refine gF yn λps yn=>mZ (XI hp kT.2) λus rest kj hr=>?_
  subst kj
  refine aT (UB hr ru) λds e q=>?_
  subst e
  refine nW q λv₀ ws e ra rs=>?_
  subst e
  exact W5 G hC cx yn CF hH hO nr dx ra rs hp gu yp rX wz kn
end
section
noncomputable def S (x:String):Str:=ae x
noncomputable def CJ (f:Str):List Str:=
 if f=S "pivot_row" then [S "a"] else if f=S "bareiss_step" then [S "a"] else if f=S "_law_draw" then [S "pool"] else []
noncomputable def Rt (f:Str):List (Str×Nat):=
 if f=S "candidates" then [(S "met",3),(S "found",1)]
 else if f=S "determinant" then [(S "found",2)]
 else if f=S "law" then [(S "pool",1),(S "pairs",1)]
 else if f∈[S "zmul",S "qmul",S "qdivmod",S "mended",S "zexact",S "prime_factors",S "rational_roots",S "sorted_roots"] then [(S "found",1)]
 else []
noncomputable def defOf (f:Str):Stmt→Option FD
 | .FunctionDef name args body _ _ _ scope _ _ _=>if name=f then some ⟨args.args.map (·.arg),scope,CJ f,Rt f,body⟩ else none
 | _=>none
noncomputable def qy:List Stmt:=Aq.main.body
noncomputable def reach:List Str:=["gcd","gcd_all","least_divisor","prime_factors","divisors","rat","radd","rsub","rmul","rdiv","rneg","rinv","rcompare","ztrim","zdegree","zlead","zadd","zneg","zsub","zscale","zraise","zmul","zcontent","zdivided",
 "zprimitive","zderive","qtrim","qadd","qneg","qsub","qscale","qraise","qdivmod","qmul","qat","to_z","cut","first_within","pade","pivot_row","bareiss_step","determinant","discrepancy","mended","least_recurrence","check_bottom","zexact","pseudo",
 "divided","full_rest","row_resultant","resultant","discriminant","sign_of","value_sign","linear_of","rational_roots","tried_roots","candidates","sorted_roots","_law_draw","_law_places","law"].map S
noncomputable def T (f:Str):Option FD:=if reach.contains f then qy.findSome? (defOf f) else none
theorem X6:(reach.all λf=>match T f with | some fd=>BW fd | none=>false)=true:=by decide +kernel
noncomputable def mM (a:Arguments):Bool:=a.posonlyargs.isEmpty&&a.kwonlyargs.isEmpty&&a.vararg.isNone&&a.kwarg.isNone
theorem ZJ:(qy.all λst=>match st with | .FunctionDef name a _ _ _ _ _ _ _ _=>!reach.contains name||mM a | _=>true)=true:=by decide +kernel
end
section
theorem X9 {names:List Str}{fR:List Value}(hl:fR.length=names.length){x:Str}(hx:x∈names):∃ v,(names.zip fR).lookup x=some v:=by
 induction names generalizing fR with
 | nil=>cases hx
 | cons y ys ih=>
  cases fR with
  | nil=>simp at hl
  | cons v vs=>
   rw[de,aQ]
   cases hb:x==y with
   | true=>exact⟨v,rfl⟩
   | false=>
    rcases aC.mp hx with q | q
    ·subst q;simp at hb
    ·exact ih (by simpa using hl) q
theorem y4R {names:List Str}{fR:List Value}(hl:fR.length=names.length) (nd:names.Nodup):(names.filterMap λn=>((names.zip fR).lookup n).map (n,·))=names.zip fR:=by
 have RZ:∀ (ns:List Str) (vs:List Value) (L:List (Str×Value)),vs.length=ns.length→ns.Nodup→(∀ n v,(n,v)∈ns.zip vs→L.lookup n=some v)→(ns.filterMap λn=>(L.lookup n).map (n,·))=ns.zip vs:=by
  intro ns
  induction ns with
  | nil=>intro vs L h1 h2 h3;simp
  | cons y ys ih=>
   intro vs L h1 h2 h3
   cases vs with
   | nil=>simp at h1
   | cons v vs=>
    rw[de,aS,h3 y v (by simp)]
    simp only[aD]
    rw[ih vs L (by simpa using h1) (a9.mp h2).2 (λn u hu=>h3 n u (by simp[hu]))]
 refine RZ names fR _ hl nd λn v h=>?_
 clear RZ
 induction names generalizing fR with
 | nil=>simp at h
 | cons y ys ih=>
  cases fR with
  | nil=>simp at hl
  | cons u us=>
   rw[de] at h ⊢
   refine dJ (a9.mp nd) λK5 K4=>?_
   rcases aC.mp h with q | q
   ·cases q;simp
   ·have:n≠y:=λz=>K5 (z▸(gB q).1)
    have hb:(n==y)=false:=beq_eq_false_iff_ne.mpr this
    rw[aQ,hb]
    exact ih (by simpa using hl) K4 q
theorem XJ {α β γ:Type}{l:List α}{b:β}{f:α→β→Sem (ForInStep β)}{k:β→Sem γ}{r:Sem γ}(h:l=[]) (hk:k b=r):(forIn l b f >>= k)=r:=by subst h;exact hk
theorem UY {α β:Type}{l:List α}{m:List β}(h:m=[]):l.zip m=[]:=h▸List.zip_nil_right
theorem ZL {fo:FuncData}{names:List Str} (h1:fo.params.posonlyargs=[]) (h2:fo.params.args.map (·.arg)=names) (h3:fo.params.kwonlyargs=[]) (h4:fo.params.vararg=none) (h5:fo.params.kwarg=none) (h6:fo.defaults=.none) (nd:names.Nodup) (fR:List Value) (hl:fR.length=names.length) :
  bindArgs fo ⟨fR,[]⟩=pure (names.zip fR):=by
 obtain⟨n1,n2,⟨po,ar,va,ko,kd,kw,df⟩,n3,n4,n5,n6,n7,n8⟩:=fo
 dsimp only at h1 h2 h3 h4 h5 h6
 subst h1 h2 h3 h4 h5 h6
 refine a7 (if_neg λh=>kH.mpr (jf hl) (of_decide_eq_true (a6 h).1)) (a7 (if_neg λh=>lN ((congrArg (λl=>!List.isEmpty l) (List.filter_eq_nil_iff.mpr λx hx=>(X9 hl (cN hx)).elim λv e=>?_)).symm.trans h)) (XJ ?_ ?_))
 ·exact λq=>lN (show wM (some v)=true from (congrArg wM e).symm.trans q)
 ·exact UY oG
 ·exact congrArg (λl=>(pure l:Sem (List (Str×Value)))) ((congrArg (List.filterMap _) (bS _)).trans (y4R hl nd))
end
section
section
variable {C:ey}{ρ ρi:au}{p q:Pos}{k:Nat}{x f:Str}{e l r v i:Expr}{es rs:List Expr}{f':Expr}{ks:List Keyword}
theorem oP {j:Int}:ev C (.Constant (.int j) k p) ρ=some (.af (.int j)):=rfl
theorem D9:ev C (.Constant .none k p) ρ=some (.af .none):=rfl
theorem D' {b:Bool}:ev C (.Constant (.bool b) k p) ρ=some (.af (.bool b)):=rfl
theorem gR:ev C (.Name x p) ρ=(match ρ.lookup x with | some t=>some t | none=>(cst x).map .af):=rfl
theorem qS {op:Operator}:ev C (.BinOp l op r p) ρ=(ev C l ρ).bind λa=>a.lf.bind λa=>(ev C r ρ).bind λb=>b.lf.bind λb=>(l9 op a b).map .af:=rfl
theorem xg {b:Expr}:ev C (.IfExp e l b p) ρ=(fx C e ρ).bind λc=>if c then ev C l ρ else ev C b ρ:=rfl
theorem Eb {op:CmpOp}:ev C (.Compare l [op] [r] p) ρ=(ev C l ρ).bind λa=>a.lf.bind λa=>(ev C r ρ).bind λb=>b.lf.bind λb=>(jy op a b).map λc=>.af (.bool c):=rfl
theorem j':ev C (.Call (.Name f q) es [] p) ρ=(jw C es ρ).bind λts=>if f∈a5 then (bi f ts).map .af else (jn ts).bind λds=>(C f (ds.map .af)).map λr=>.af r.1:=rfl
theorem D8 {a b c:Option Expr}:ev C (.Subscript v (.Slice a b c q) p) ρ=(ev C v ρ).bind λt=>(kU t).bind λl=>(mO C a ρ).bind λlo=>(mO C b ρ).bind λhi=>(mO C c ρ).bind λst=>(match t with | .af (.tup _)=>none | _=>(m7 l lo hi st).map λr=>.af (.list r)):=rfl
theorem NO {c:Const}:ev C (.Subscript v (.Constant c k q) p) ρ=(ev C v ρ).bind λt=>(ev C (.Constant c k q) ρ).bind λk=>iJ t k:=rfl
theorem Iz:ev C (.Subscript v (.Name x q) p) ρ=(ev C v ρ).bind λt=>(ev C (.Name x q) ρ).bind λk=>iJ t k:=rfl
theorem Ea {op:Operator}:ev C (.Subscript v (.BinOp l op r q) p) ρ=(ev C v ρ).bind λt=>(ev C (.BinOp l op r q) ρ).bind λk=>iJ t k:=rfl
theorem pZ:ev C (.List es p) ρ=(jw C es ρ).bind λts=>(jn ts).bind λds=>if ds.length≤bh then some (.af (.list ds)) else none:=rfl
theorem NQ:ev C (.Tuple es k p) ρ=(jw C es ρ).bind λts=>(jn ts).bind λds=>if ds.length≤bh then some (.af (.tup ds)) else none:=rfl
theorem uA {gs:List Comprehension}{sc:Scope}:ev C (.ListComp e gs sc p) ρ=if (sc.names.all λp=>p.2 != .free||(ρ.lookup p.1).isSome) then
   (fU C gs ρ (seen sc ρ) λρ'=>(ev C e ρ').bind λt=>t.lf.bind λd=>some [d]).bind λl=>if l.length≤bh then some (.af (.list l)) else none
  else none:=rfl
theorem eK:jw C [] ρ=some []:=rfl
theorem fy:jw C (e::es) ρ=(ev C e ρ).bind λt=>(jw C es ρ).bind λts=>some (t::ts):=rfl
theorem Eg:mO C none ρ=some none:=rfl
theorem Ef:mO C (some e) ρ=(ev C e ρ).bind λt=>(match t with | .af (.int i)=>some (some i) | _=>none):=rfl
theorem Iu:fx C (.Compare l [.Lt] [r] p) ρ=(ev C l ρ).bind λa=>a.lf.bind λa=>(ev C r ρ).bind λb=>b.lf.bind λb=>jy .Lt a b:=rfl
theorem It:fx C (.Compare l [.Gt] [r] p) ρ=(ev C l ρ).bind λa=>a.lf.bind λa=>(ev C r ρ).bind λb=>b.lf.bind λb=>jy .Gt a b:=rfl
theorem Ek:fx C (.Compare l [.GtE] [r] p) ρ=(ev C l ρ).bind λa=>a.lf.bind λa=>(ev C r ρ).bind λb=>b.lf.bind λb=>jy .GtE a b:=rfl
theorem El:fx C (.Compare l [.Eq] [r] p) ρ=(ev C l ρ).bind λa=>a.lf.bind λa=>(ev C r ρ).bind λb=>b.lf.bind λb=>jy .Eq a b:=rfl
theorem zC:fx C (.Compare l [.NotEq] [r] p) ρ=(ev C l ρ).bind λa=>a.lf.bind λa=>(ev C r ρ).bind λb=>b.lf.bind λb=>jy .NotEq a b:=rfl
theorem pS {op:BoolOp}:iV C op [] ρ=some (op==.And):=rfl
theorem Mq:iV C .And (e::es) ρ=(fx C e ρ).bind λb=>if b then iV C .And es ρ else some false:=rfl
theorem yJ:eJ C (.Call (.Name f q) [e] [] p) ρ=(ev C e ρ).bind λt=>ki C f t:=rfl
theorem Mb:eJ C (.Call (.Name f q) [e,l] [] p) ρ=if f=ae "range" then (ev C e ρ).bind λt=>(ev C l ρ).bind λu=>qm t u else none:=rfl
theorem vo:eJ C (.Name x p) ρ=(ρ.lookup x).bind tG:=rfl
theorem Ma {a b c:Option Expr}:eJ C (.Subscript v (.Slice a b c q) p) ρ=(ev C v ρ).bind λt=>(kU t).bind λl=>(mO C a ρ).bind λlo=>(mO C b ρ).bind λhi=>(mO C c ρ).bind λst=>(match t with | .af (.tup _)=>none | _=>m7 l lo hi st):=rfl
theorem nv {h:au→Option (List DV)}:fU C [] ρi ρ h=h ρ:=rfl
theorem ny {t it:Expr}{ifs:List Expr}{a:Int}{gs:List Comprehension}{h:au→Option (List DV)}:fU C (⟨t,it,ifs,a⟩::gs) ρi ρ h=(eJ C it ρi).bind λitems=>gV (λd=>(cW t d ρ).bind λρ'=>(iV C .And ifs ρ').bind λok=>if ok then fU C gs ρ' ρ' h else some []) items:=rfl
theorem B3 {r':Pos}:kB C (.Call (.Name f q) (.Name x r'::es) [] p) ρ=pA C f x es ρ:=rfl
theorem Kk:kB C (.Tuple [l,r] k p) ρ=(kB C l ρ).bind λx=>(kB C r x.2).bind λy=>some (.tup [x.1,y.1],y.2):=rfl
theorem Kl:kB C (.Name x p) ρ=none:=rfl
variable {PN:List Str}{M:List (Str×Nat)}{K:Nat}{ss ts:List Stmt}{t:Expr}{s:Stmt}
theorem md:ex C PN M K (.Assign [t] e p) ρ=(mB C PN M t e ρ).map .bU:=rfl
theorem J':ex C PN M K (.If e ss ts p) ρ=(fx C e ρ).bind λc=>if c then cA C PN M K ss ρ else cA C PN M K ts ρ:=rfl
theorem BS:ex C PN M K (.While e ss [] p) ρ=eT (fx C e) (λρ'=>cA C PN M K ss ρ') K ρ:=rfl
theorem pz:ex C PN M K (.For t e ss [] p) ρ=(eJ C e ρ).bind λds=>fN (bp t) (λρ'=>cA C PN M K ss ρ') ds ρ:=rfl
theorem uI:ex C PN M K (.Return (some e) p) ρ=(eN C PN e ρ).bind λr=>r.1.lf.bind λd=>some (.ret d r.2.2):=rfl
theorem Ka:ex C PN M K (.Expr e p) ρ=(vn C PN e ρ).map .bU:=rfl
theorem BP:cA C PN M K (s::ss) ρ=(ex C PN M K s ρ).bind λo=>(match o with | .bU ρ'=>cA C PN M K ss ρ' | o=>some o):=rfl
theorem BQ:mB C PN M (.Name x p) e ρ=if fu e&&gG M x != 0 then none else (nL C PN (gG M x) e ρ).bind λr=>some (put x r.1 r.2):=rfl
theorem q8:mB C PN M (.Tuple es k p) e ρ=tF C PN M es e ρ:=rfl
theorem J9:mB C PN M (.Subscript (.Name x q) i p) e ρ=pN C PN x i e ρ:=rfl
theorem BR {j:Expr}:mB C PN M (.Subscript (.Subscript v j q) i p) e ρ=(ue (.Subscript v j q)).bind λn=>jZ C PN n.1 n.2 i e ρ:=rfl
theorem ro {l:List DV}{k:Int}:iJ (.af (.list l)) (.af (.int k))=(eI l.length k).bind λj=>(l[j]?).map .af:=rfl
theorem pF {l:List DV}{k:Int}:iJ (.af (.tup l)) (.af (.int k))=(eI l.length k).bind λj=>(l[j]?).map .af:=rfl
theorem u9 {l:List OT}{k:Int}:iJ (.own l) (.af (.int k))=(eI l.length k).bind λj=>l[j]?:=rfl
theorem sM:j0 C PN M [] [] ρ=some ([],ρ):=rfl
theorem sN {xs:List Str}:j0 C PN M (x::xs) (e::es) ρ=(nL C PN (gG M x) e ρ).bind λa=>(j0 C PN M xs es a.2).bind λb=>some (a.1::b.1,b.2):=rfl
theorem z7:nL C PN 0 e ρ=(eN C PN e ρ).bind λr=>r.1.lf.bind λd=>some (.af d,r.2.2):=rfl
theorem Q6:nL C PN 1 e ρ=(eN C PN e ρ).bind λr=>r.1.lf.bind λd=>some (ownOf r.2.1 d,r.2.2):=rfl
theorem iS:lu (.Name x p)=some x:=rfl
theorem K2:lu (.Tuple es k p)=none:=rfl
theorem K6 {y:Str}{p':Pos}:wc (.Tuple [.Name x q,.Name y p'] k p)=some (x,y):=rfl
theorem Lq:fu (.Call e es [] p)=false:=rfl
end
theorem cy {d:DV}:(OT.af d).lf=some d:=rfl
theorem gA:jn []=some []:=rfl
theorem gN {t:OT}{ts:List OT}:jn (t::ts)=t.lf.bind λd=>(jn ts).bind λds=>some (d::ds):=rfl
theorem xV {l:List OT}:rm (.own l)=some l:=rfl
theorem tI {i:Int}:(DV.int i).int?=some i:=rfl
theorem Em {l:List DV}:(DV.tup l).nX=some l:=rfl
theorem jI {l:List DV}:rG (.af (.list l))=some l.length:=rfl
theorem Et {l:List OT}:rG (.own l)=some l.length:=rfl
theorem vp {l:List DV}:tG (.af (.list l))=some l:=rfl
theorem pO {l:List DV}:kU (.af (.list l))=some l:=rfl
theorem uX {α:Type}{a b:Int}{f:Int→Int→Option α}{g:List DV→List DV→Option α}:oW (.int a) (.int b) f g=f a b:=rfl
theorem uW {α:Type}{a b:List DV}{f:Int→Int→Option α}{g:List DV→List DV→Option α}:oW (.list a) (.list b) f g=g a b:=rfl
theorem rI {a b:DV}:l9 .Add a b=oW a b (λa b=>some (.int (a+b))) λxs ys=>if xs.length+ys.length≤bh then some (.list (xs++ys)) else none:=rfl
theorem Mr {a b:Int}:l9 .Sub (.int a) (.int b)=some (.int (a-b)):=rfl
theorem EJ {a b:Int}:l9 .Mult (.int a) (.int b)=if cj a b then some (.int (a*b)) else none:=rfl
theorem EH {l:List DV}{n:Int}:l9 .Mult (.list l) (.int n)=if 0≤n∧n≤1000∧l.length*n.toNat≤256 then some (.list (ax n.toNat l).flatten) else none:=rfl
theorem Ms {a b:Int}:l9 .Mod (.int a) (.int b)=if b=0 then none else some (.int (a.fmod b)):=rfl
theorem EI {a b:Int}:l9 .Pow (.int a) (.int b)=if eC a b then some (.int (a^b.toNat)) else none:=rfl
theorem EB {a b:DV}:jy .Eq a b=wD a b:=rfl
theorem yP {a b:DV}:jy .NotEq a b=(wD a b).map not:=rfl
theorem Ej {a b:Int}:wD (.int a) (.int b)=some (decide (a=b)):=rfl
theorem Ei {a b:List DV}:wD (.list a) (.list b)=if dU a&&dU b&&dZ (gO a) 8&&dZ (gO b) 8 then some (iW a b) else none:=rfl
theorem Mc {a b:List DV}:wD (.tup a) (.tup b)=if dU a&&dU b&&dZ (gO a) 8&&dZ (gO b) 8 then some (iW a b) else none:=rfl
theorem jo {t:OT}:bi (ae "len") [t]=(rG t).bind λn=>if n≤bh then some (.int n) else none:=if_pos rfl
theorem tL {a b:Int}:bi (ae "max") [.af (.int a),.af (.int b)]=some (.int (if a<b then b else a)):=by kernel_rfl
theorem Mu {a:Int}:bi (ae "int") [.af (.int a)]=some (.int a):=by kernel_rfl
theorem Mt {l:List DV}:bi (ae "sum") [.af (.list l)]=if l.length≤bh then (fi l).bind λns=>some (.int ns.sum) else none:=by kernel_rfl
theorem EK {l:List DV}:bi (ae "sorted") [.af (.list l)]=if l.length<64 then (fi l).bind λns=>some (.list ((ft ns).map .int)) else none:=by kernel_rfl
theorem vw {t:OT}:bi (ae "list") [t]=(kU t).bind λl=>if l.length≤bh then some (.list l) else none:=by kernel_rfl
theorem uS {ρ:au}:fK [] [] ρ=ρ:=rfl
theorem uT {x:Str}{xs:List Str}{t:OT}{ts:List OT}{ρ:au}:fK (x::xs) (t::ts) ρ=fK xs ts (put x t ρ):=rfl
section
variable {C:ey}{PN:List Str}{M:List (Str×Nat)}{ρ:au}{x y:Str}{e elt:Expr}{es:List Expr}{p q r:Pos}{k:Nat}
theorem kS {l:List OT}:(OT.own l).lf=none:=rfl
theorem rF:eN C PN e ρ=(match (ev C e ρ).bind OT.lf with
 | some d=>some (.af d,bo e,ρ)
 | none=>match kB C e ρ with
  | some r=>some (.af r.1,false,r.2)
  | none=>((ev C e (bX PN ρ)).bind OT.lf).map λd=>(.af d,bo e,bX PN ρ)):=rfl
theorem Ee {d:DV}(h:ev C e ρ=some (.af d)):eN C PN e ρ=some (.af d,bo e,ρ):=by
 refine rF.trans ?_
 rw[h];rfl
theorem B6:pA C x y es ρ=(match ρ.lookup y with
 | some (.own ts)=>
  if x∈a5 then none
  else (jw C es ρ).bind λus=>(jn us).bind λds=>(C x (.own ts::ds.map .af)).bind λr=>
   match r.2 with
   | t'::_=>some (r.1,put y t' ρ)
   | []=>none
 | _=>none):=rfl
theorem Dj {n:Int}:ki C (ae "range") (.af (.int n))=if -(bh:Int)≤n∧n≤bh then some (ke 0 n) else none:=if_pos rfl
theorem nZ {l:List DV}{a b:Option Int}:m7 l a b none=if l.length≤bh then some ((l.drop (kms_lo a l.length)).take (kms_hi b l.length-kms_lo a l.length)) else none:=rfl
theorem Kw {l:List DV}{k:Int}:m7 l none none (some k)=if l.length≤bh then (if k=-1 then some l.reverse else none) else none:=rfl
theorem xF:tF C PN M [.Name x p,.Name y q] (.Tuple es k r) ρ=(j0 C PN M [x,y] es ρ).bind λr=>if r.1.length≤bh then some (fK [x,y] r.1 r.2) else none:=rfl
theorem BN {z:Str}{p':Pos}:tF C PN M [.Name x p,.Name y q,.Name z p'] (.Tuple es k r) ρ=(j0 C PN M [x,y,z] es ρ).bind λr=>if r.1.length≤bh then some (fK [x,y,z] r.1 r.2) else none:=rfl
theorem J8 {v i v' i':Expr}:tF C PN M [.Subscript v i p,.Subscript v' i' q] e ρ=(uM [.Subscript v i p,.Subscript v' i' q] e).bind λn=>pM n.1 n.2.1 n.2.2 ρ:=rfl
theorem BY {α:Type}{a b:α}:m6 [a,b]=some (a,b):=rfl
theorem vX2 {g:Comprehension}{gs:List Comprehension}{sc:Scope}:nL C PN 2 (.ListComp elt (g::gs) sc p) ρ=if (sc.names.all λp=>p.2 != .free||(ρ.lookup p.1).isSome)&&bo elt then
    (fU C (g::gs) ρ (seen sc ρ) λρ'=>(ev C elt ρ').bind λt=>t.lf.bind λd=>some [d]).bind λl=>if l.length≤bh&&l.all G' then some (.own (l.map (iQ true)),ρ) else none
    else none:=rfl
theorem vX3:nL C PN 3 (.Dict [] [] p) ρ=some (.fI [],ρ):=rfl
theorem Kd {b:Bool}{l:List DV}:iQ b (.list l)=if b then .own (l.map .af) else .af (.list l):=rfl
theorem Me {a b:Int}:vt (.int a) (.int b)=decide (a=b):=rfl
theorem Ep {l:List DV}:iW [] l=l.isEmpty:=rfl
theorem Er {a b:DV}{l m:List DV}:iW (a::l) (b::m)=(vt a b&&iW l m):=rfl
theorem Dg {d:DV}{l:List DV}:fi (d::l)=d.int?.bind λi=>(fi l).bind λr=>some (i::r):=rfl
end
theorem mr {l:List OT}:(OT.own l).gz=gM l:=rfl
theorem mx {l:List OT}:(OT.own l).rD=.list (mA l):=rfl
theorem yD {d:DV}:(OT.af d).rD=d:=rfl
theorem Ln:DV.none.j9=true:=rfl
end
section
noncomputable def cR:au→au→au
 | [],ρ=>ρ
 | p::σ,ρ=>put p.1 p.2 (cR σ ρ)
theorem zL {ρ:au}{x:Str}:∀ σ:au,(cR σ ρ).lookup x=(match σ.lookup x with | some t=>some t | none=>ρ.lookup x)
 | []=>rfl
 | (y,t)::σ=>by
  show(put y t (cR σ ρ)).lookup x=_
  rw[vZ,zL σ]
  by_cases h:x=y
  ·subst h;rw[if_pos rfl,lookup_cons_self]
  ·rw[if_neg h,oU h]
noncomputable def qL (t:OT) (k:DV→Prop):Prop:=match t with
 | .af d=>k d
 | _=>True
theorem j8 {t:OT}{k:DV→Prop}(h:∀ d,t.lf=some d→k d):qL t k:=by
 cases t with
 | af d=>exact h d rfl
 | own l=>trivial
 | fI l=>trivial
noncomputable def uN:List OT→(List DV→Prop)→Prop
 | [],k=>k []
 | t::ts,k=>qL t λd=>uN ts λds=>k (d::ds)
theorem xj:∀ {ts:List OT}{k:List DV→Prop},(∀ ds,jn ts=some ds→k ds)→uN ts k
 | [],k,h=>h [] rfl
 | t::ts,k,h=>j8 λd hd=>xj λds oi=>h _ (by show(t.lf.bind _)=_;rw[hd,ao,oi];rfl)
noncomputable def pC (n:Nat) (P:Prop):Prop:=match dZ n 16 with
 | true=>P
 | false=>n≤bh→P
theorem Gn {n:Nat}{P:Prop}(h:n≤bh→P):pC n P:=by
 unfold pC
 cases hb:dZ n 16 with
 | true=>exact h (br (dj hb) (by decide))
 | false=>exact h
noncomputable def xR (op:Operator) (a b:DV) (k:OT→Prop):Prop:=
 match op with
 | .Add=>(match a with
  | .int x=>(match b with | .int y=>k (.af (.int (x+y))) | _=>True)
  | _=>∀ {d},l9 .Add a b=some d→k (.af d))
 | .Sub=>(match a with
  | .int x=>(match b with | .int y=>k (.af (.int (x-y))) | _=>True)
  | _=>∀ {d},l9 .Sub a b=some d→k (.af d))
 | op=>∀ {d},l9 op a b=some d→k (.af d)
theorem O1 {op:Operator}{a b:DV}{k:OT→Prop}(h:∀ d,l9 op a b=some d→k (.af d)):xR op a b k:=by
 cases op<;>first
  | exact @h
  | (cases a<;>first
    | exact @h
    | (cases b<;>first | trivial | exact h _ rfl))
section
variable (C:ey) (ρ:au)
noncomputable def qV (σ:au) (x:Str) (k:OT→Prop):Prop:=match σ.lookup x with
 | some t=>k t
 | none=>∀ {t:OT},ρ.lookup x=some t→k t
theorem zG {σ:au}{x:Str}{k:OT→Prop}(h:∀ t,(cR σ ρ).lookup x=some t→k t):qV ρ σ x k:=by
 unfold qV
 rw[zL] at h
 cases hs:σ.lookup x with
 | some t=>rw[hs] at h;exact h t rfl
 | none=>rw[hs] at h;exact @h
noncomputable def qN (σ:au) (x:Str) (k:OT→Prop):Prop:=match σ.lookup x with
 | some t=>k t
 | none=>match cst x with
  | some d=>ρ.lookup x=none→k (.af d)
  | none=>∀ {t:OT},ρ.lookup x=some t→k t
theorem CA {σ:au}{x:Str}{p:Pos}{k:OT→Prop}(h:∀ t,ev C (.Name x p) (cR σ ρ)=some t→k t):qN ρ σ x k:=by
 unfold qN
 simp only[gR,zL] at h
 cases hs:σ.lookup x with
 | some t=>simp only[hs] at h;exact h t rfl
 | none=>
  simp only[hs] at h
  cases hc:cst x with
  | some d=>exact λhr=>h _ (by rw[hr,hc];rfl)
  | none=>exact λ{t} hr=>h t (by rw[hr])
noncomputable def v9 (x:Str) (ts:List OT) (k:OT→Prop):Prop:=match decide (x∈a5) with
 | true=>∀ {d},bi x ts=some d→k (.af d)
 | false=>uN ts λds=>∀ {r},C x (ds.map .af)=some r→k (.af r.1)
theorem nS {P:Nat→Prop}{c n:Nat}(h:c+1≤n) (k:∀ m,c+1≤m+1→P (m+1)):P n:=by
 cases n with
 | zero=>exact absurd h (Nat.not_succ_le_zero c)
 | succ m=>exact k m h
noncomputable def m8:Expr→Option (Option Expr×Option Expr×Option Expr)
 | .Slice a b c _=>some (a,b,c)
 | _=>none
theorem JL {i:Expr}{s:Option Expr×Option Expr×Option Expr}(h:m8 i=some s):∃ q,i=.Slice s.1 s.2.1 s.2.2 q:=by
 cases i<;>first | exact bR h | skip
 cases h;exact⟨_,rfl⟩
theorem Ob {C:ey}{v i:Expr}{p:Pos}{ρ:au}(h:m8 i=none):ev C (.Subscript v i p) ρ=(ev C v ρ).bind λt=>(ev C i ρ).bind λk=>iJ t k:=by
 cases i<;>first | rfl | exact nomatch h
noncomputable def uO (t:OT) (k:List DV→Prop):Prop:=match t with
 | .af d=>(match d with | .list l=>k l | .tup l=>k l | _=>True)
 | _=>True
noncomputable def sT (t:OT) (a b c:Option Int) (k:List DV→Prop):Prop:=match t with
 | .af d=>(match d with | .list l=>(∀ {r},m7 l a b c=some r→k r) | _=>True)
 | .own l=>uN l λds=>(∀ {r},m7 ds a b c=some r→k r)
 | _=>True
noncomputable def xQ (x:Str) (t:OT) (k:List DV→Prop):Prop:=match decide (x=ae "range") with
 | true=>qL t λd=>(match d with | .int n=>(-(bh:Int)≤n∧n≤bh→k (ke 0 n)) | _=>True)
 | false=>(match decide (x=ae "enumerate") with
  | true=>qL t λd=>(match d with | .list l=>(l.length≤bh→k (eh 0 l)) | _=>True)
  | false=>(match decide (x=ae "reversed") with
   | true=>qL t λd=>(match d with | .list l=>(l.length≤bh→k l.reverse) | _=>True)
   | false=>(match decide (x∈a5) with
    | true=>(∀ {d},bi x [t]=some d→uO (.af d) k)
    | false=>qL t λd=>(∀ {r},C x [.af d]=some r→uO (.af r.1) k))))
mutual
noncomputable def QE:Nat→au→Expr→(OT→Prop)→Prop
 | 0,σ,e,k=>∀ {t},ev C e (cR σ ρ)=some t→k t
 | n+1,σ,e,k=>match e with
  | .Constant c _ _=>(match c with | .int i=>k (.af (.int i)) | .none=>k (.af .none) | .bool b=>k (.af (.bool b)) | _=>True)
  | .Name x _=>qN ρ σ x k
  | .BinOp l op r _=>QE n σ l λa=>qL a λa=>QE n σ r λb=>qL b λb=>xR op a b k
  | .UnaryOp op e _=>(match op with | .USub=>QE n σ e λa=>qL a λa=>(match a with | .int i=>k (.af (.int (-i))) | _=>True) | _=>True)
  | .IfExp t b o _=>QB n σ t λc=>(match c with | true=>QE n σ b k | false=>QE n σ o k)
  | .Compare l gE rs _=>(match gE with | op::gE=>(match gE with | []=>(match rs with | r::rs=>(match rs with | []=>QE n σ l λa=>qL a λa=>QE n σ r λb=>qL b λb=>∀ {c},jy op a b=some c→k (.af (.bool c)) | _=>True) | _=>True) | _=>True) | _=>True)
  | .Call f args ks _=>(match f with | .Name x _=>(match ks with | []=>wK n σ args λts=>v9 C x ts k | _=>True) | _=>True)
  | .Subscript v i p=>(match m8 i with
   | some s=>(∀ m:Bool,match m with
    | true=>QE n σ v λt=>rK n σ s.1 λa=>rK n σ s.2.1 λb=>rK n σ s.2.2 λc=>sT t a b c λl=>k (.af (.list l))
    | false=>∀ {t},ev C (.Subscript v i p) (cR σ ρ)=some t→k t)
   | none=>QE n σ v λt=>QE n σ i λj=>∀ {r},iJ t j=some r→k r)
  | .List es _=>wK n σ es λts=>uN ts λds=>pC ds.length (k (.af (.list ds)))
  | .Tuple es _ _=>wK n σ es λts=>uN ts λds=>pC ds.length (k (.af (.tup ds)))
  | .ListComp e gs sc p=>∀ {t},ev C (.ListComp e gs sc p) (cR σ ρ)=some t→k t
  | _=>True
noncomputable def wK:Nat→au→List Expr→(List OT→Prop)→Prop
 | 0,σ,es,k=>∀ {ts},jw C es (cR σ ρ)=some ts→k ts
 | n+1,σ,es,k=>match es with
  | []=>k []
  | e::es=>QE n σ e λt=>wK n σ es λts=>k (t::ts)
noncomputable def rK:Nat→au→Option Expr→(Option Int→Prop)→Prop
 | 0,σ,e,k=>∀ {a},mO C e (cR σ ρ)=some a→k a
 | n+1,σ,e,k=>match e with
  | none=>k none
  | some e=>QE n σ e λt=>qL t λd=>(match d with | .int i=>k (some i) | _=>True)
noncomputable def QB:Nat→au→Expr→(Bool→Prop)→Prop
 | 0,σ,e,k=>∀ {c},fx C e (cR σ ρ)=some c→k c
 | n+1,σ,e,k=>match e with
  | .Compare l gE rs p=>(match gE with | op::gE=>(match gE with | []=>(match rs with | r::rs=>(match rs with | []=>(match op with | .NotIn=>(∀ {c},fx C (.Compare l [.NotIn] [r] p) (cR σ ρ)=some c→k c) | op=>QE n σ l λa=>qL a λa=>QE n σ r λb=>qL b λb=>(∀ {c},jy op a b=some c→k c)) | _=>True) | _=>True) | _=>True) | _=>True)
  | .BoolOp op es _=>EZ n σ op es k
  | _=>True
noncomputable def EZ:Nat→au→BoolOp→List Expr→(Bool→Prop)→Prop
 | 0,σ,op,es,k=>∀ {c},iV C op es (cR σ ρ)=some c→k c
 | n+1,σ,op,es,k=>match es with
  | []=>k (op==.And)
  | e::es=>(match es with | []=>QB n σ e k | e'::es=>QB n σ e λb=>(match op with | .And=>(match b with | true=>EZ n σ .And (e'::es) k | false=>k false) | .Or=>(match b with | true=>k true | false=>EZ n σ .Or (e'::es) k)))
end
noncomputable def Cz (σ:au) (a b:Expr) (k:List DV→Prop):Prop:=QE C ρ 40 σ a λt=>qL t λd=>QE C ρ 40 σ b λu=>qL u λe=>(match d with
 | .int m=>(match e with | .int n=>((-(bh:Int)≤m∧m≤bh)∧-(bh:Int)≤n∧n≤bh→k (ke m n)) | _=>True)
 | _=>True)
noncomputable def QI (σ:au) (e:Expr) (k:List DV→Prop):Prop:=match e with
 | .Call f args ks _=>(match f with | .Name x _=>(match ks with | []=>(match args with | a::as=>(match as with | []=>QE C ρ 40 σ a λt=>xQ C x t k | b::bs=>(match bs with | []=>(match decide (x=ae "range") with | true=>Cz C ρ σ a b k | false=>True) | _=>True)) | _=>True) | _=>True) | _=>True)
 | .Name x _=>qV ρ σ x λt=>uO t k
 | .Tuple es _ _=>wK C ρ 40 σ es λts=>uN ts λds=>pC ds.length (k ds)
 | .Subscript v i _=>(match m8 i with | some s=>QE C ρ 40 σ v λt=>rK C ρ 40 σ s.1 λa=>rK C ρ 40 σ s.2.1 λb=>rK C ρ 40 σ s.2.2 λc=>sT t a b c k | none=>True)
 | _=>True
noncomputable def yV:Nat→au→Expr→(DV→au→Prop)→Prop
 | 0,σ,e,k=>True
 | n+1,σ,e,k=>match e with
  | .Call f args ks _=>(match f with | .Name x _=>(match ks with | []=>(match args with | a::as=>(match a with | .Name y _=>qV ρ σ y λt=>(match t with | .own ts=>(match decide (x∈a5) with | true=>True | false=>wK C ρ 40 σ as λus=>uN us λds=>(∀ {r},C x (.own ts::ds.map .af)=some r→(match r.2 with | t'::_=>k r.1 ((y,t')::σ) | []=>True))) | _=>True) | _=>True) | _=>True) | _=>True) | _=>True)
  | .BinOp l op r _=>QE C ρ 40 σ l λa=>qL a λa=>yV n σ r λb σ'=>xR op a b λt=>qL t λd=>k d σ'
  | .Tuple es _ _=>(match es with | a::es=>(match es with | b::es=>(match es with | []=>yV n σ a λx σ₁=>yV n σ₁ b λy σ₂=>k (.tup [x,y]) σ₂ | _=>True) | _=>True) | _=>True)
  | .Subscript v i _=>QE C ρ 40 σ v λt=>qL t λa=>yV n σ i λj σ'=>(∀ {r},iJ (.af a) (.af j)=some r→qL r λd=>k d σ')
  | _=>True
end
end
section
section
variable {C:ey}{ρ:au}
theorem bs {α β:Type}{o:Option α}{f:α→Option β}{a:α}{r:Option β}(h:o=some a) (k:f a=r):o.bind f=r:=h▸k
theorem ms {α β:Type}{o:Option α}{f:α→β}{a:α}(h:o=some a):o.map f=some (f a):=h▸rfl
theorem bn {α β:Type}{o:Option α}{f:α→Option β}(h:o=none):o.bind f=none:=h▸rfl
theorem Tw {t b:OT}(h:b.lf=none):iJ t b=none:=by
 cases b with
 | af _=>exact nomatch h
 | _=>rfl
theorem WC {C:ey}{ρ:au}{f x:Str}{args:List Expr}{ts us:List OT}{ds:List DV}{r:DV×List OT}{t':OT}{rest:List OT}(ht:ρ.lookup x=some (.own ts)) (hx:¬ f∈a5) (we:jw C args ρ=some us) (oi:jn us=some ds) (hr:C f (.own ts::ds.map .af)=some r) (h2:r.2=t'::rest):pA C f x args ρ=some (r.1,put x t' ρ):=by
 unfold pA
 rw[ht]
 exact(if_neg hx).trans (bs we (bs oi (bs hr (by rw[h2]))))
theorem Oo {α:Type}{t:OT}{x:Option α}:(∀ l,t≠.af (.tup l))→(match t with | .af (.tup _)=>none | _=>x)=x:=by
 cases t with
 | af d=>cases d<;>first | exact λh=>absurd rfl (h _) | exact λZ=>rfl
 | own _=>exact λZ=>rfl
 | fI _=>exact λZ=>rfl
theorem vc {m n:Int}:qm (.af (.int m)) (.af (.int n))=if (-(bh:Int)≤m∧m≤bh)∧-(bh:Int)≤n∧n≤bh then some (ke m n) else none:=rfl
theorem O2 {t:OT}{a b c:Option Int}{k:List DV→Prop}(h:∀ l,(∃ ds,kU t=some ds∧m7 ds a b c=some l∧∀ l,t≠.af (.tup l))→k l):sT t a b c k:=by
 cases t with
 | af d=>
  cases d<;>first
   | trivial
   | exact λ{r} hr=>h r ⟨_,rfl,hr,λl q=>by cases q⟩
 | own l=>exact xj λds oi=>λ{r} hr=>h r ⟨ds,oi,hr,λl q=>by cases q⟩
 | fI _=>trivial
set_option tactic.hygienic true in
theorem gf:∀ n:Nat,(∀ {σ e k},(∀ t,ev C e (cR σ ρ)=some t→k t)→QE C ρ n σ e k)∧(∀ {σ es k},(∀ t,jw C es (cR σ ρ)=some t→k t)→wK C ρ n σ es k) ∧
  (∀ {σ e k},(∀ t,fx C e (cR σ ρ)=some t→k t)→QB C ρ n σ e k)∧(∀ {σ op es k},(∀ t,iV C op es (cR σ ρ)=some t→k t)→EZ C ρ n σ op es k)∧(∀ {σ e k},(∀ t,mO C e (cR σ ρ)=some t→k t)→rK C ρ n σ e k)
 | 0=>⟨λh=>@h,λh=>@h,λh=>@h,λh=>@h,λh=>@h⟩
 | n+1=>by
  refine oQ (gf n) λi1 i2 i3 i4 i5=>?_
  refine⟨λ{σ e k} h=>?_,λ{σ es k} h=>?_,λ{σ e k} h=>?_,λ{σ op es k} h=>?_,λ{σ e k} h=>?_⟩
  ·cases e with
   | Constant c _ _=>cases c<;>first | trivial | exact h _ rfl
   | Name x p=>exact CA (p:=p) C ρ h
   | BinOp l op r _=>
    exact i1 λa ha=>j8 λa' rC=>i1 λb hb=>j8 λb' qu=>O1 λd hd=>h _ (bs ha (bs rC (bs hb (bs qu (ms hd)))))
   | UnaryOp op e _=>
    cases op<;>first | trivial | skip
    refine i1 λa ha=>j8 λa' rC=>?_
    cases a'<;>first | trivial | skip
    exact h _ (bs ha (bs rC rfl))
   | IfExp t b o _=>
    refine i3 λc hc=>?_
    cases c
    ·exact i1 λa ha=>h _ (bs hc ha)
    ·exact i1 λa ha=>h _ (bs hc ha)
   | Compare l gE rs _=>
    cases gE with
    | nil=>trivial
    | cons op gE=>
     cases gE with
     | cons _ _=>trivial
     | nil=>
      cases rs with
      | nil=>trivial
      | cons r rs=>
       cases rs with
       | cons _ _=>trivial
       | nil=>exact i1 λa ha=>j8 λa' rC=>i1 λb hb=>j8 λb' qu=>λ{c} hc=>h _ (bs ha (bs rC (bs hb (bs qu (ms hc)))))
   | Call f args ks _=>
    cases f<;>first | trivial | skip
    rename_i x _
    cases ks with
    | cons _ _=>trivial
    | nil=>
     refine i2 λts kj=>?_
     unfold v9
     cases hx:decide (x∈a5) with
     | true=>exact λ{d} hd=>h _ (bs (a:=x) rfl (bs kj ((if_pos (of_decide_eq_true hx)).trans (ms hd))))
     | false=>exact xj λds oi=>λ{r} hr=>h _ (bs (a:=x) rfl (bs kj ((if_neg (of_decide_eq_false hx)).trans (bs oi (ms hr)))))
   | Subscript v i p=>
    show(match m8 i with
     | some s=>(∀ m:Bool,match m with
      | true=>QE C ρ n σ v λt=>rK C ρ n σ s.1 λa=>rK C ρ n σ s.2.1 λb=>rK C ρ n σ s.2.2 λc=>sT t a b c λl=>k (.af (.list l))
      | false=>∀ {t},ev C (.Subscript v i p) (cR σ ρ)=some t→k t)
     | none=>QE C ρ n σ v λt=>QE C ρ n σ i λj=>∀ {r},iJ t j=some r→k r)
    cases hs:m8 i with
    | none=>exact i1 λa ha=>i1 λb hb=>λ{r} hr=>h _ ((Ob hs).trans (bs ha (bs hb hr)))
    | some s=>
     obtain⟨q,rfl⟩:=JL hs
     intro m
     cases m
     ·exact @h
     ·exact i1 λa ha=>i5 λb hb=>i5 λc hc=>i5 λd hd=>O2 λl hl=>iw hl λds h1 h2 h3=>h _ (bs ha (bs h1 (bs hb (bs hc (bs hd ((Oo h3).trans (ms h2)))))))
   | List es _=>exact i2 λts kj=>xj λds oi=>Gn λhc=>h _ (bs kj (bs oi (if_pos hc)))
   | Tuple es _ _=>exact i2 λts kj=>xj λds oi=>Gn λhc=>h _ (bs kj (bs oi (if_pos hc)))
   | ListComp e gs sc p=>exact @h
   | _=>trivial
  ·cases es with
   | nil=>exact h _ rfl
   | cons e es=>exact i1 λt ht=>i2 λts kj=>h _ (bs ht (bs kj rfl))
  ·cases e with
   | Compare l gE rs p=>
    cases gE with
    | nil=>trivial
    | cons op gE=>
     cases gE with
     | cons _ _=>trivial
     | nil=>
      cases rs with
      | nil=>trivial
      | cons r rs=>
       cases rs with
       | cons _ _=>trivial
       | nil=>
        have g:op≠.NotIn→fx C (.Compare l [op] [r] p) (cR σ ρ)=(ev C l (cR σ ρ)).bind λa=>a.lf.bind λa=>(ev C r (cR σ ρ)).bind λb=>b.lf.bind λb=>jy op a b:=λho=>by
         cases op<;>first | exact absurd rfl ho | rfl
        have q:op≠.NotIn→QB C ρ (n+1) σ (.Compare l [op] [r] p) k=QE C ρ n σ l (λa=>qL a λa=>QE C ρ n σ r λb=>qL b λb=>(∀ {c},jy op a b=some c→k c)):=λho=>by
         cases op<;>first | exact absurd rfl ho | rfl
        by_cases ho:op=.NotIn
        ·subst ho;exact @h
        ·rw[q ho]
         exact i1 λa ha=>j8 λa' rC=>i1 λb hb=>j8 λb' qu=>λ{c} hc=>h _ ((g ho).trans (bs ha (bs rC (bs hb (bs qu hc)))))
   | BoolOp op es _=>exact i4 h
   | _=>trivial
  ·cases es with
   | nil=>exact h _ (by cases op<;>rfl)
   | cons e es=>
    cases es with
    | nil=>exact i3 λb hb=>h _ (by cases op<;>cases b<;>exact bs hb rfl)
    | cons e' es=>
    refine i3 λb hb=>?_
    cases op<;>cases b
    ·exact h _ (bs hb rfl)
    ·exact i4 λc hc=>h _ (bs hb hc)
    ·exact i4 λc hc=>h _ (bs hb hc)
    ·exact h _ (bs hb rfl)
  ·cases e with
   | none=>exact h _ rfl
   | some e=>
    refine i1 λt ht=>j8 λd hd=>?_
    cases d<;>first | trivial | skip
    exact h _ (bs (lh hd▸ht) rfl)
theorem Jl {t:OT}{k:List DV→Prop}(h:∀ l,tG t=some l→k l):uO t k:=by
 cases t with
 | af d=>cases d<;>first | trivial | exact h _ rfl
 | own _=>trivial
 | fI _=>trivial
theorem Vx {x:Str}{a:Expr}{p q:Pos}{t:OT}{k:List DV→Prop}{σ:au}(ha:ev C a (cR σ ρ)=some t) (h:∀ l,eJ C (.Call (.Name x p) [a] [] q) (cR σ ρ)=some l→k l):xQ C x t k:=by
 unfold xQ
 have h:∀ l,ki C x t=some l→k l:=λl hl=>h l (bs ha hl)
 cases hx:decide (x=ae "range") with
 | true=>
  refine j8 λd hd=>?_
  have e:=lh hd
  subst e
  cases d<;>first | trivial | exact λhc=>h _ ((if_pos (of_decide_eq_true hx)).trans (if_pos hc))
 | false=>
  have h:∀ l,_=some l→k l:=λl hl=>h l ((if_neg (of_decide_eq_false hx)).trans hl)
  cases hx:decide (x=ae "enumerate") with
  | true=>
   refine j8 λd hd=>?_
   have e:=lh hd
   subst e
   cases d<;>first | trivial | exact λhc=>h _ ((if_pos (of_decide_eq_true hx)).trans (if_pos hc))
  | false=>
   have h:∀ l,_=some l→k l:=λl hl=>h l ((if_neg (of_decide_eq_false hx)).trans hl)
   cases hx:decide (x=ae "reversed") with
   | true=>
    refine j8 λd hd=>?_
    have e:=lh hd
    subst e
    cases d<;>first | trivial | exact λhc=>h _ ((if_pos (of_decide_eq_true hx)).trans (if_pos hc))
   | false=>
    have h:∀ l,_=some l→k l:=λl hl=>h l ((if_neg (of_decide_eq_false hx)).trans hl)
    cases hx:decide (x∈a5) with
    | true=>exact λ{d} hd=>Jl λl hl=>h l ((if_pos (of_decide_eq_true hx)).trans (bs hd hl))
    | false=>exact j8 λd hd=>λ{r} hr=>Jl λl hl=>h l ((if_neg (of_decide_eq_false hx)).trans (bs hd (bs hr hl)))
set_option tactic.hygienic true in
theorem NK {σ:au}{e:Expr}{k:List DV→Prop}(h:∀ l,eJ C e (cR σ ρ)=some l→k l):QI C ρ σ e k:=by
 cases e with
 | Call f args ks q=>
  cases f<;>first | trivial | skip
  rename_i x p
  cases ks with
  | cons _ _=>trivial
  | nil=>
   cases args with
   | nil=>trivial
   | cons a as=>
    cases as with
    | nil=>exact(gf 40).1 λt ht=>Vx ht h
    | cons b bs=>
     cases bs with
     | cons _ _=>trivial
     | nil=>
      show(match decide (x=ae "range") with | true=>Cz C ρ σ a b k | false=>True)
      cases hx:decide (x=ae "range") with
      | true=>
       refine(gf 40).1 λt ht=>j8 λd hd=>(gf 40).1 λu hu=>j8 λe he=>?_
       cases d<;>first | trivial | skip
       cases e<;>first | trivial | skip
       exact λhc=>h _ ((if_pos (of_decide_eq_true hx)).trans (bs (lh hd▸ht) (bs (lh he▸hu) (vc.trans (if_pos hc)))))
      | false=>trivial
 | Name x p=>exact zG ρ λt ht=>Jl λl hl=>h l (bs ht hl)
 | Tuple es _ _=>exact(gf 40).2.1 λts kj=>xj λds oi=>Gn λhc=>h _ (bs kj (bs oi (if_pos hc)))
 | Subscript v i p=>
  show(match m8 i with | some s=>QE C ρ 40 σ v λt=>rK C ρ 40 σ s.1 λa=>rK C ρ 40 σ s.2.1 λb=>rK C ρ 40 σ s.2.2 λc=>sT t a b c k | none=>True)
  cases hs:m8 i with
  | none=>trivial
  | some s=>
   obtain⟨q,rfl⟩:=JL hs
   exact(gf 40).1 λa ha=>(gf 40).2.2.2.2 λb hb=>(gf 40).2.2.2.2 λc hc=>(gf 40).2.2.2.2 λd hd=>O2 (a:=b) (b:=c) (c:=d) λl hl=>iw hl λds h1 h2 h3=>h l (bs ha (bs h1 (bs hb (bs hc (bs hd ((Oo h3).trans h2))))))
 | _=>trivial
set_option tactic.hygienic true in
theorem zN:∀ (n:Nat) {σ:au}{e:Expr}{k:DV→au→Prop},(∀ d σ',kB C e (cR σ ρ)=some (d,cR σ' ρ)→(ev C e (cR σ ρ)).bind OT.lf=none→k d σ')→yV C ρ n σ e k
 | 0,_,_,_,_=>trivial
 | n+1,σ,e,k,h=>by
  cases e with
  | Call f args ks q=>
   cases f<;>first | trivial | skip
   rename_i x p
   cases ks with
   | cons _ _=>trivial
   | nil=>
    cases args with
    | nil=>trivial
    | cons a as=>
     cases a<;>first | trivial | skip
     rename_i y py
     refine zG ρ λt ht=>?_
     cases t with
     | af _=>trivial
     | fI _=>trivial
     | own ts=>
      show(match decide (x∈a5) with | true=>True | false=>wK C ρ 40 σ as λus=>uN us λds=>(∀ {r},C x (.own ts::ds.map .af)=some r→(match r.2 with | t'::_=>k r.1 ((y,t')::σ) | []=>True)))
      cases hx:decide (x∈a5) with
      | true=>trivial
      | false=>
       have hx:=of_decide_eq_false hx
       refine(gf 40).2.1 λus we=>xj λds oi=>λ{r} hr=>?_
       have e0:ev C (.Call (.Name x p) (.Name y py::as) [] q) (cR σ ρ)=none:=bs (a:=x) rfl (bs (zD (FY ht) we) ((if_neg hx).trans rfl))
       show(match r.2 with | t'::_=>k r.1 ((y,t')::σ) | []=>True)
       cases hr2:r.2 with
       | nil=>trivial
       | cons t' rest=>exact h _ _ (WC ht hx we oi hr hr2) (congrArg (lC · OT.lf) e0)
  | BinOp l op r _=>
   refine(gf 40).1 λa ha=>j8 λa' rC=>zN n λb σ' hb hn=>O1 (k:=λt=>qL t λd=>k d σ') λd hd=>show k d σ' from h _ _ (bs ha (bs rC (bs hb (ms hd))))
    (congrArg (lC · OT.lf) (bs ha (bs rC (kC (ev C r (cR σ ρ)) (λe=>bn e) λb e=>bs e (bn ((bs e rfl).symm.trans hn)))):ev C (.BinOp l op r _) (cR σ ρ)=none))
  | Tuple es _ _=>
   cases es with
   | nil=>trivial
   | cons a es=>
    cases es with
    | nil=>trivial
    | cons b es=>
     cases es with
     | cons _ _=>trivial
     | nil=>
      exact zN n λx σ₁ hx hn=>zN n λy σ₂ hy Z=>h _ _ (bs hx (bs hy rfl))
       (congrArg (lC · OT.lf) (kC (ev C a (cR σ ρ)) (λe=>bn (bn e)) (λt e=>kC (jw C [b] (cR σ ρ)) (λe2=>bn (bs e (bn e2))) λts e2=>bs (bs e (bs e2 rfl)) (bn (bn ((bs e rfl).symm.trans hn)))):ev C (.Tuple [a,b] _ _) (cR σ ρ)=none))
  | Subscript v i _=>
   refine(gf 40).1 λt ht=>j8 λa ha=>zN n λj σ' hj hn=>λ{r} hr=>j8 λd hd=>h _ _ (bs ht (bs ha (bs hj (bs (show iJ (.af a) (.af j)=some r from hr) (bs hd rfl))))) ?_
   cases hs:m8 i with
   | some s=>exact(JL hs).elim λq e=>bR (e▸hj:kB C (.Slice s.1 s.2.1 s.2.2 q) (cR σ ρ)=some _)
   | none=>exact congrArg (lC · OT.lf) ((Ob hs).trans (bs ht (kC (ev C i (cR σ ρ)) (λe=>bn e) λb e=>bs e (Tw ((bs e rfl).symm.trans hn)))))
  | _=>trivial
end
end
section
set_option genCtorIdx false in
inductive QO
 | bU (σ ρ:au)
 | cnt (σ ρ:au)
 | ret (d:DV) (σ ρ:au)
noncomputable def QO.out:QO→Out
 | .bU σ ρ=>.bU (cR σ ρ)
 | .cnt σ ρ=>.cnt (cR σ ρ)
 | .ret d σ ρ=>.ret d (cR σ ρ)
noncomputable def Out.qo:Out→QO
 | .bU ρ=>.bU [] ρ
 | .cnt ρ=>.cnt [] ρ
 | .ret d ρ=>.ret d [] ρ
theorem Bc (o:Out):o.qo.out=o:=by cases o<;>rfl
noncomputable def sV:List Str→List OT→au→au
 | x::xs,t::ts,σ=>sV xs ts ((x,t)::σ)
 | _,_,σ=>σ
theorem JC {ρ:au}:∀ (xs:List Str) (ts:List OT) (σ:au),fK xs ts (cR σ ρ)=cR (sV xs ts σ) ρ
 | x::xs,t::ts,σ=>JC xs ts ((x,t)::σ)
 | [],_,_=>rfl
 | _::_,[],_=>rfl
noncomputable def Ri (n:Nat) (a b:Prop):Prop:=match n with | 0=>a | 1=>b | _=>True
theorem TK {n:Nat}{a b:Prop} (h0:n=0→a) (h1:n=1→b):Ri n a b:=match n,h0,h1 with
 | 0,h,_=>h rfl
 | 1,_,h=>h rfl
 | _+2,_,_=>trivial
noncomputable def Rm {α:Type}(l:List α) (k:α→Prop):Prop:=match l with | []=>True | a::l=>(match l with | []=>k a | _::_=>True)
theorem TC {α:Type}{l:List α}{k:α→Prop}(h:∀ a,l=[a]→k a):Rm l k:=by
 cases l with
 | nil=>trivial
 | cons a l=>
  cases l with
  | nil=>exact h a rfl
  | cons _ _=>trivial
noncomputable def KW (b:Bool) (k:Prop):Prop:=match b with | true=>k | false=>True
theorem Oq {b:Bool}{k:Prop}(h:b=true→k):KW b k:=by
 cases b
 ·trivial
 ·exact h rfl
noncomputable def xU {α:Type}(o:Option α) (n:Prop) (k:α→Prop):Prop:=match o with | some a=>k a | none=>n
theorem zK {α:Type}{o:Option α}{n:Prop}{k:α→Prop} (h0:o=none→n) (h:∀ a,o=some a→k a):xU o n k:=by
 cases o with
 | none=>exact h0 rfl
 | some a=>exact h a rfl
section
variable (C:ey) (PN:List Str) (M:List (Str×Nat)) (K:Nat)
noncomputable def qT (e:Expr) (σ ρ:au) (k:DV→Bool→au→au→Prop):Prop:=∀ m:Bool,match m with
 | true=>QE C ρ 40 σ e λt=>qL t λd=>k d (bo e) σ ρ
 | false=>∀ m:Bool,(match m with
  | true=>yV C ρ 40 σ e λd σ'=>k d false σ' ρ
  | false=>∀ {r},eN C PN e (cR σ ρ)=some r→qL r.1 λd=>k d r.2.1 [] r.2.2)
noncomputable def EY:List Str→List Expr→au→au→(List OT→Prop)→Prop
 | [],[],_,_,k=>k []
 | x::xs,e::es,σ,ρ,k=>Ri (gG M x) (QE C ρ 40 σ e λt=>qL t λd=>EY xs es σ ρ λts=>k (.af d::ts))
  (QE C ρ 40 σ e λt=>qL t λd=>EY xs es σ ρ λts=>k (ownOf (bo e) d::ts))
 | _,_,_,_,_=>True
noncomputable def qA (σ ρ:au) (t e:Expr) (k:QO→Prop):Prop:=match t with
 | .Name x p=>(match gG M x with
  | 0=>qT C PN e σ ρ λd fr σ' ρ'=>k (.bU ((x,.af d)::σ') ρ')
  | 1=>(match fu e with | false=>qT C PN e σ ρ λd fr σ' ρ'=>k (.bU ((x,ownOf fr d)::σ') ρ') | true=>True)
  | _=>∀ {ρ'},mB C PN M (.Name x p) e (cR σ ρ)=some ρ'→k (.bU [] ρ'))
 | .Tuple ts i p=>(match dk ts with
  | some xs=>(match e with
   | .Tuple es _ _=>EY C M xs es σ ρ λus=>pC us.length (k (.bU (sV xs us σ) ρ))
   | e=>qT C PN e σ ρ λd fr σ' ρ'=>(match d with | .tup ds=>(∀ h:xs.length=ds.length,k (.bU (sV xs (ds.map .af) σ') ρ')) | _=>True))
  | none=>∀ {ρ'},mB C PN M (.Tuple ts i p) e (cR σ ρ)=some ρ'→k (.bU [] ρ'))
 | .Subscript v i p=>(match v with
  | .Name x _=>∀ m:Bool,(match m with
   | true=>qT C PN e σ ρ λd fr σ' ρ'=>qV ρ' σ' x λt=>(match t with
    | .own ts=>QE C ρ' 40 σ' i λq=>qL q λq=>(match q with | .int q=>(∀ {j},eI ts.length q=some j→0≤q→∀ {d₀},ts[j]?=some (.af d₀)→k (.bU ((x,.own (ts.set j (.af d)))::σ') ρ')) | _=>True)
    | _=>True)
   | false=>∀ {ρ'},mB C PN M (.Subscript v i p) e (cR σ ρ)=some ρ'→k (.bU [] ρ'))
  | v=>∀ {ρ'},mB C PN M (.Subscript v i p) e (cR σ ρ)=some ρ'→k (.bU [] ρ'))
 | t=>∀ {ρ'},mB C PN M t e (cR σ ρ)=some ρ'→k (.bU [] ρ')
noncomputable def qG (σ ρ:au) (t:Expr) (op:Operator) (e:Expr) (k:QO→Prop):Prop:=match t with
 | .Name x _=>qV ρ σ x λt=>qL t λa=>(match a with
  | .int a=>QE C ρ 40 σ e λb=>qL b λb=>(match b with | .int b=>(match op with | .Add=>k (.bU ((x,.af (.int (a+b)))::σ) ρ) | .Sub=>k (.bU ((x,.af (.int (a-b)))::σ) ρ) | _=>True) | _=>True)
  | _=>True)
 | .Subscript v i p=>(match v with
  | .Name x _=>qV ρ σ x λt=>(match t with
   | .own ts=>QE C ρ 40 σ i λq=>qL q λq=>(match q with
    | .int q=>(∀ {j},eI ts.length q=some j→0≤q→∀ {a:Int},ts[j]?=some (.af (.int a))→QE C ρ 40 σ e λb=>qL b λb=>(match b with | .int b=>(∀ {c},oB op a b=some c→k (.bU ((x,.own (ts.set j (.af (.int c))))::σ) ρ)) | _=>True))
    | _=>True)
   | _=>True)
  | v=>∀ {ρ'},yF C (.Subscript v i p) op e (cR σ ρ)=some ρ'→k (.bU [] ρ'))
 | t=>∀ {ρ'},yF C t op e (cR σ ρ)=some ρ'→k (.bU [] ρ')
noncomputable def Rh (σ ρ:au) (e:Expr) (k:QO→Prop):Prop:=∀ m:Bool,match m with
 | true=>(match e with
  | .Call g es ks p=>xU (td g) (qT C PN (.Call g es ks p) σ ρ λd fr σ' ρ'=>k (.bU σ' ρ'))
   λn=>Rm es λa=>KW ks.isEmpty (KW (decide (n.2=ae "append")) (qV ρ σ n.1 λt=>xU (rm t) True λts=>QE C ρ 40 σ a λq=>qL q λd=>(ts.length+1≤bh→k (.bU ((n.1,.own (ts++[.af d]))::σ) ρ))))
  | _=>True)
 | false=>∀ {ρ'},vn C PN e (cR σ ρ)=some ρ'→k (.bU [] ρ')
mutual
noncomputable def QX:Nat→au→au→Stmt→(QO→Prop)→Prop
 | 0,σ,ρ,s,k=>∀ {o},ex C PN M K s (cR σ ρ)=some o→k o.qo
 | n+1,σ,ρ,s,k=>match s with
  | .Assign ts e _=>(match ts with | t::ts=>(match ts with | []=>qA C PN M σ ρ t e k | _=>True) | _=>True)
  | .AugAssign t op e _=>qG C σ ρ t op e k
  | .If t b o _=>QB C ρ 40 σ t λc=>(match c with | true=>yU n σ ρ b k | false=>yU n σ ρ o k)
  | .Return e _=>(match e with | some e=>qT C PN e σ ρ λd fr σ' ρ'=>k (.ret d σ' ρ') | _=>True)
  | .Continue _=>k (.cnt σ ρ)
  | .Expr e _=>Rh C PN σ ρ e k
  | .While t b os p=>(match os with | []=>∀ {o},eT (fx C t) (λρ'=>cA C PN M K b ρ') K (cR σ ρ)=some o→k o.qo | _=>True)
  | .For t it b os p=>(match os with | []=>QI C ρ σ it λds=>∀ {yL o},fN (bp t) (λρ'=>cA C PN M K b ρ') yL (cR σ ρ)=some o→ds=yL→k o.qo | _=>True)
  | s=>∀ {o},ex C PN M K s (cR σ ρ)=some o→k o.qo
noncomputable def yU:Nat→au→au→List Stmt→(QO→Prop)→Prop
 | 0,σ,ρ,ss,k=>∀ {o},cA C PN M K ss (cR σ ρ)=some o→k o.qo
 | n+1,σ,ρ,ss,k=>match ss with
  | []=>k (.bU σ ρ)
  | s::ss=>QX n σ ρ s λo=>(match o with | .bU σ' ρ'=>yU n σ' ρ' ss k | .cnt σ' ρ'=>k (.cnt σ' ρ') | .ret d σ' ρ'=>k (.ret d σ' ρ'))
end
end
section
variable {C:ey}{PN:List Str}{M:List (Str×Nat)}{K:Nat}
theorem zF {e:Expr}{σ ρ:au}{k:DV→Bool→au→au→Prop}(h:∀ d fr σ' ρ',eN C PN e (cR σ ρ)=some (.af d,fr,cR σ' ρ')→k d fr σ' ρ'):qT C PN e σ ρ k:=by
 intro m
 cases m
 ·intro m
  cases m
  ·refine λ{r} hr=>j8 λd hd=>h d r.2.1 [] r.2.2 ?_
   rw[hr,←lh hd];rfl
  ·refine zN 40 λd σ' hd hn=>h d false σ' ρ ?_
   unfold eN
   rw[hn,hd]
 ·refine(gf 40).1 λt ht=>j8 λd hd=>h d _ σ ρ ?_
  unfold eN
  rw[ht,ao,hd]
theorem IM {σ ρ:au}:∀ {xs:List Str}{es:List Expr}{k:List OT→Prop},(∀ us,j0 C PN M xs es (cR σ ρ)=some (us,cR σ ρ)→k us)→EY C M xs es σ ρ k
 | [],[],k,h=>h [] rfl
 | [],_::_,k,h=>trivial
 | _::_,[],k,h=>trivial
 | x::xs,e::es,k,h=>by
  have step:∀ (o:OT),nL C PN (gG M x) e (cR σ ρ)=some (o,cR σ ρ)→∀ ts,j0 C PN M xs es (cR σ ρ)=some (ts,cR σ ρ)→k (o::ts):=λo ho ts kj=>h _ (bs ho (bs kj rfl))
  exact TK (λhl=>(gf 40).1 λt ht=>j8 λd hd=>IM λts kj=>step _ (hl▸bs (Ee (lh hd▸ht)) rfl) ts kj)
   λhl=>(gf 40).1 λt ht=>j8 λd hd=>IM λts kj=>step _ (hl▸bs (Ee (lh hd▸ht)) rfl) ts kj
section
variable {ρ ρ':au}{e:Expr}{d:DV}{fr:Bool}{x:Str}{p px:Pos}
theorem D7 (hl:gG M x=0) (ht:eN C PN e ρ=some (.af d,fr,ρ')):mB C PN M (.Name x p) e ρ=some (put x (.af d) ρ'):=
 (if_neg λh=>absurd (hl▸(a6 h).2) (by decide:¬ ((0:Nat) != 0)=true)).trans (bs (a:=(.af d,ρ')) (by rw[hl];exact bs ht rfl) rfl)
theorem D6 (hl:gG M x=1) (hc:fu e=false) (ht:eN C PN e ρ=some (.af d,fr,ρ')):mB C PN M (.Name x p) e ρ=some (put x (ownOf fr d) ρ'):=
 (if_neg λh=>lN (hc.symm.trans (a6 h).1)).trans (bs (a:=(ownOf fr d,ρ')) (by rw[hl];exact bs ht rfl) rfl)
theorem D1 {ts:List Expr}{xs:List Str}{es:List Expr}{k:Nat}{us:List OT}(hx:dk ts=some xs) (we:j0 C PN M xs es ρ=some (us,ρ')) (hc:us.length≤bh):tF C PN M ts (.Tuple es k p) ρ=some (fK xs us ρ'):=by
 unfold tF
 rw[hx]
 exact bs we (if_pos hc)
theorem D0 {ts:List Expr}{xs:List Str}{ds:List DV}(he:iy e=none) (hx:dk ts=some xs) (ht:eN C PN e ρ=some (.af (.tup ds),fr,ρ')) (hl:xs.length=ds.length):tF C PN M ts e ρ=some (fK xs (ds.map .af) ρ'):=by
 unfold tF
 rw[hx]
 have z:((eN C PN e ρ).bind λr=>r.1.lf.bind λd=>(match d with | .tup ds=>if xs.length=ds.length then some (fK xs (ds.map .af) r.2.2) else none | _=>none))=some (fK xs (ds.map .af) ρ'):=bs ht (if_pos hl)
 cases e<;>first | exact z | exact bR he.symm
theorem D5 {i:Expr}{ts:List OT}{q:Int}{j:Nat}{d₀:DV}(ht:eN C PN e ρ=some (.af d,fr,ρ')) (hv:ρ'.lookup x=some (.own ts)) (hq:ev C i ρ'=some (.af (.int q))) (hj:eI ts.length q=some j) (h0:0≤q) (hd:ts[j]?=some (.af d₀)):mB C PN M (.Subscript (.Name x px) i p) e ρ=some (put x (.own (ts.set j (.af d))) ρ'):=
 bs ht (bs (a:=d) rfl (bs hv (bs (bs hq rfl:rE C i ρ'=some q) (bs hj ((if_pos h0).trans (bs (bs hd rfl:(ts[j]?).bind OT.lf=some d₀) rfl))))))
theorem D3 {op:Operator}{a b c:Int}(hv:ρ.lookup x=some (.af (.int a))) (hb:ev C e ρ=some (.af (.int b))) (hc:oB op a b=some c):yF C (.Name x px) op e ρ=some (put x (.af (.int c)) ρ):=
 bs (bs hv rfl:yf ρ x=some a) (bs (bs hb rfl:rE C e ρ=some b) (bs hc rfl))
theorem D2 {op:Operator}{i:Expr}{ts:List OT}{q a b c:Int}{j:Nat}(hv:ρ.lookup x=some (.own ts)) (hq:ev C i ρ=some (.af (.int q))) (hj:eI ts.length q=some j) (h0:0≤q) (ha:ts[j]?=some (.af (.int a))) (hb:ev C e ρ=some (.af (.int b))) (hc:oB op a b=some c):yF C (.Subscript (.Name x px) i p) op e ρ=some (put x (.own (ts.set j (.af (.int c)))) ρ):=
 bs (bs hv rfl:tf ρ x=some ts) (bs (bs hq rfl:rE C i ρ=some q) (bs hj ((if_pos h0).trans (bs (bs ha rfl:Sj ts j=some a) (bs (bs hb rfl:rE C e ρ=some b) (bs hc rfl))))))
end
theorem CD {σ ρ:au}{t e:Expr}{k:QO→Prop}(h:∀ σ' ρ',mB C PN M t e (cR σ ρ)=some (cR σ' ρ')→k (.bU σ' ρ')):qA C PN M σ ρ t e k:=by
 cases t with
 | Name x p=>
  show(match gG M x with
   | 0=>qT C PN e σ ρ λd fr σ' ρ'=>k (.bU ((x,.af d)::σ') ρ')
   | 1=>(match fu e with | false=>qT C PN e σ ρ λd fr σ' ρ'=>k (.bU ((x,ownOf fr d)::σ') ρ') | true=>True)
   | _=>∀ {ρ'},mB C PN M (.Name x p) e (cR σ ρ)=some ρ'→k (.bU [] ρ'))
  cases hl:gG M x with
  | zero=>exact zF λd fr σ' ρ' ht=>h _ _ (D7 hl ht)
  | succ n=>
   cases n with
   | zero=>
    cases hc:fu e with
    | false=>exact zF λd fr σ' ρ' ht=>h _ _ (D6 hl hc ht)
    | true=>trivial
   | succ n=>exact λ{ρ'} hr=>h [] ρ' hr
 | Tuple ts i p=>
  show(match dk ts with
   | some xs=>(match (generalizing:=false) e with
    | .Tuple es _ _=>EY C M xs es σ ρ λus=>pC us.length (k (.bU (sV xs us σ) ρ))
    | e=>qT C PN e σ ρ λd fr σ' ρ'=>(match d with | .tup ds=>(∀ h:xs.length=ds.length,k (.bU (sV xs (ds.map .af) σ') ρ')) | _=>True))
   | none=>∀ {ρ'},mB C PN M (.Tuple ts i p) e (cR σ ρ)=some ρ'→k (.bU [] ρ'))
  cases hx:dk ts with
  | none=>exact λ{ρ'} hr=>h [] ρ' hr
  | some xs=>
   have g:iy e=none→qT C PN e σ ρ λd fr σ' ρ'=>(match d with | .tup ds=>(∀ h:xs.length=ds.length,k (.bU (sV xs (ds.map .af) σ') ρ')) | _=>True):=λhe=>zF λd fr σ' ρ' ht=>by
    cases d<;>first | trivial | exact λhl=>h _ _ ((D0 he hx ht hl).trans (congrArg some (JC ..)))
   cases e<;>first
    | exact g rfl
    | exact IM (PN:=PN) λus we=>Gn λhc=>h _ _ ((D1 hx we hc).trans (congrArg some (JC ..)))
 | Subscript v i p=>
  cases v<;>first
   | exact λ{ρ'} hr=>h [] ρ' hr
   | skip
  intro m
  cases m
  ·exact λ{ρ'} hr=>h [] ρ' hr
  ·refine zF λd fr σ' ρ' ht=>zG _ λt hv=>?_
   cases t with
   | af _=>trivial
   | fI _=>trivial
   | own ts=>
    refine(gf 40).1 λq hq=>j8 λq' ug=>?_
    cases q'<;>first | trivial | exact λ{j} hj h0 {d₀} hd=>h _ _ (D5 ht hv (lh ug▸hq) hj h0 hd)
 | _=>exact λ{ρ'} hr=>h [] ρ' hr
theorem CB {σ ρ:au}{t:Expr}{op:Operator}{e:Expr}{k:QO→Prop}(h:∀ σ' ρ',yF C t op e (cR σ ρ)=some (cR σ' ρ')→k (.bU σ' ρ')):qG C σ ρ t op e k:=by
 cases t with
 | Name x p=>
  refine zG _ λt hv=>j8 λa ha=>?_
  have ea:=lh ha
  subst ea
  cases a<;>first | trivial | skip
  refine(gf 40).1 λb hb=>j8 λb' qu=>?_
  cases b'<;>first | trivial | skip
  cases op<;>first | trivial | exact h _ _ (D3 hv (lh qu▸hb) rfl)
 | Subscript v i p=>
  cases v<;>first
   | exact λ{ρ'} hr=>h [] ρ' hr
   | skip
  refine zG _ λt hv=>?_
  cases t with
  | af _=>trivial
  | fI _=>trivial
  | own ts=>
   refine(gf 40).1 λq hq=>j8 λq' ug=>?_
   cases q'<;>first | trivial | skip
   refine λ{j} hj h0 {a} ha=>(gf 40).1 λb hb=>j8 λb' qu=>?_
   cases b'<;>first | trivial | exact λ{c} hc=>h _ _ (D2 hv (lh ug▸hq) hj h0 ha (lh qu▸hb) hc)
 | _=>exact λ{ρ'} hr=>h [] ρ' hr
set_option tactic.hygienic true in
set_option tactic.hygienic true in
theorem TL {σ ρ:au}{e:Expr}{k:QO→Prop}(h:∀ σ' ρ',vn C PN e (cR σ ρ)=some (cR σ' ρ')→k (.bU σ' ρ')):Rh C PN σ ρ e k:=by
 intro m
 cases m
 ·exact λ{ρ'} hr=>h [] ρ' hr
 ·cases e<;>first | trivial | skip
  rename_i g es ks p
  refine zK (λhm=>zF λd fr σ' ρ' ht=>h _ _ ?_) λn hg=>iB (Qg (x:=n.1) (f:=n.2) hg) λp1 p2 eg=>TC λa ha=>Oq λhk=>Oq λhf=>zG _ λt hv=>zK (λ_=>trivial) λts ho=>(gf 40).1 λq hq=>j8 λd hd=>λhc=>h _ _ ?_
  ·unfold vn
   dsimp only
   rw[hm]
   exact bs ht rfl
  ·rw[eg,ha,lV.mp hk]
   exact(if_pos (of_decide_eq_true hf)).trans (bs (bs hv ho:tf _ _=some ts) (bs (bs hq hd:Aj C a _=some d) (if_pos hc)))
theorem A6:∀ n:Nat,(∀ {σ ρ s k},(∀ o:QO,ex C PN M K s (cR σ ρ)=some o.out→k o)→QX C PN M K n σ ρ s k)∧(∀ {σ ρ ss k},(∀ o:QO,cA C PN M K ss (cR σ ρ)=some o.out→k o)→yU C PN M K n σ ρ ss k)
 | 0=>⟨λ{σ ρ s k} h {o} ho=>h _ (by rw[Bc];exact ho),λ{σ ρ ss k} h {o} ho=>h _ (by rw[Bc];exact ho)⟩
 | n+1=>by
  refine dJ (A6 n) λi1 i2=>?_
  refine⟨λ{σ ρ s k} h=>?_,λ{σ ρ ss k} h=>?_⟩
  ·cases s with
   | Assign ts e _=>
    cases ts with
    | nil=>trivial
    | cons t ts=>
     cases ts with
     | nil=>exact CD λσ' ρ' he=>h _ (ms he)
     | cons _ _=>trivial
   | AugAssign t op e _=>exact CB λσ' ρ' he=>h _ (ms he)
   | If t b o _=>
    refine(gf 40).2.2.1 λc hc=>?_
    cases c
    ·exact i2 λo ho=>h o (bs hc ho)
    ·exact i2 λo ho=>h o (bs hc ho)
   | Return e _=>
    cases e with
    | none=>trivial
    | some e=>exact zF λd fr σ' ρ' ht=>h (.ret d σ' ρ') (bs ht rfl)
   | Continue _=>exact h (.cnt σ ρ) rfl
   | Expr e _=>exact TL λσ' ρ' he=>h _ (ms he)
   | While t b os p=>
    cases os with
    | nil=>exact λ{o} ho=>h _ (by rw[BS,Bc];exact ho)
    | cons _ _=>trivial
   | For t it b os p=>
    cases os with
    | nil=>exact NK λds oi=>λ{yL o} ho e=>h _ (bs oi (by rw[Bc,e];exact ho))
    | cons _ _=>trivial
   | _=>exact λ{o} ho=>h _ (by rw[Bc];exact ho)
  ·cases ss with
   | nil=>exact h _ rfl
   | cons s ss=>
    refine i1 λo ho=>?_
    cases o with
    | bU σ' ρ'=>exact i2 λo' mw=>h o' (bs ho mw)
    | cnt σ' ρ'=>exact h (.cnt σ' ρ') (bs ho rfl)
    | ret d σ' ρ'=>exact h (.ret d σ' ρ') (bs ho rfl)
theorem qe {ρ:au}{e:Expr}{o:Option OT}(f:QE C ρ 40 [] e (λt=>ev C e ρ=some t)→ev C e ρ=o):ev C e ρ=o:=f ((gf 40).1 λt h=>h)
theorem qb {ρ:au}{e:Expr}{o:Option Bool}(f:QB C ρ 40 [] e (λt=>fx C e ρ=some t)→fx C e ρ=o):fx C e ρ=o:=f ((gf 40).2.2.1 λt h=>h)
theorem qx {ρ:au}{s:Stmt}{o:Option Out}(f:QX C PN M K 40 [] ρ s (λq=>ex C PN M K s ρ=some q.out)→ex C PN M K s ρ=o):ex C PN M K s ρ=o:=f ((A6 40).1 λo h=>h)
theorem gL {ρ:au}{ss:List Stmt}{o:Option Out}(f:yU C PN M K 40 [] ρ ss (λq=>cA C PN M K ss ρ=some q.out)→cA C PN M K ss ρ=o):cA C PN M K ss ρ=o:=f ((A6 40).2 λo h=>h)
theorem qi {ρ:au}{e:Expr}{o:Option (List DV)}(f:QI C ρ [] e (λt=>eJ C e ρ=some t)→eJ C e ρ=o):eJ C e ρ=o:=f (NK λt h=>h)
theorem Rg {ρ:au}{op:BoolOp}{es:List Expr}{o:Option Bool}(f:EZ C ρ 40 [] op es (λt=>iV C op es ρ=some t)→iV C op es ρ=o):iV C op es ρ=o:=f ((gf 40).2.2.2.1 λt h=>h)
theorem Rf {ρ:au}{e:Expr}{o:Option (DV×au)}(f:yV C ρ 40 [] e (λd σ=>kB C e ρ=some (d,cR σ ρ))→kB C e ρ=o):kB C e ρ=o:=f (zN 40 λd σ h Z=>h)
noncomputable def Rj (t:Expr) (d:DV) (ρ:au) (ss:List Stmt) (K:Nat) (C:ey) (PN:List Str) (M:List (Str×Nat)) (k:QO→Prop):Prop:=
 xU (lu t) (xU (wc t) True λn=>xU d.nX True λl=>xU (m6 l) True λu=>yU C PN M K 40 [(n.2,.af u.2),(n.1,.af u.1)] ρ ss k) λx=>yU C PN M K 40 [(x,.af d)] ρ ss k
theorem TJ {t:Expr}{d:DV}{ρ:au}{ss:List Stmt}{k:QO→Prop}(h:∀ q:QO,(bp t d ρ).bind (λρ'=>cA C PN M K ss ρ')=some q.out→k q):Rj t d ρ ss K C PN M k:=by
 unfold bp at h
 refine zK (λhx=>zK (λ_=>trivial) λn hn=>zK (λ_=>trivial) λl hl=>zK (λ_=>trivial) λu hu=>(A6 40).2 λo ho=>h o ?_) λx hx=>(A6 40).2 λo ho=>h o ?_
 ·rw[hx,hn,hl];show((m6 _).bind _).bind _=_;rw[hu];exact ho
 ·rw[hx];exact ho
theorem oV {t:Expr}{d:DV}{ρ:au}{ss:List Stmt}{o:Option Out}(f:Rj t d ρ ss K C PN M (λq=>(bp t d ρ).bind (λρ'=>cA C PN M K ss ρ')=some q.out)→(bp t d ρ).bind (λρ'=>cA C PN M K ss ρ')=o):(bp t d ρ).bind (λρ'=>cA C PN M K ss ρ')=o:=f (TJ λo h=>h)
theorem ct {p:Prop} [Decidable p] (h:p):some (decide p)=some true:=by rw[decide_eq_true h]
theorem cf {p:Prop} [Decidable p] (h:¬ p):some (decide p)=some false:=by rw[decide_eq_false h]
theorem nt {p:Prop} [Decidable p] (h:¬ p):some (!decide p)=some true:=by rw[decide_eq_false h];rfl
theorem nf {p:Prop} [Decidable p] (h:p):some (!decide p)=some false:=by rw[decide_eq_true h];rfl
theorem lq {x:Str}{t:OT}{ρ:au}:(put x t ρ).lookup x=some t:=by rw[vZ,if_pos rfl]
theorem ln {x y:Str}{t:OT}{o:Option OT}{ρ:au}(e:(y==x)=false) (h:ρ.lookup y=o):(put x t ρ).lookup y=o:=by
 rw[vZ,if_neg (ne_of_beq_false e)];exact h
end
end
section
noncomputable def vr:Expr:=.Tuple [] 0 default
noncomputable def kid (e:Expr) (i:Nat):Expr:=match e with
 | .BinOp l _ r _=>if i=0 then l else r
 | .BoolOp _ es _=>es.getD i vr
 | .Compare l _ rs _=>(l::rs).getD i vr
 | .Call f es _ _=>(f::es).getD i vr
 | .ListComp e gs _ _=>(e::gs.map (·.iter)).getD i vr
 | .Subscript v j _=>if i=0 then v else j
 | .List es _=>es.getD i vr
 | .Tuple es _ _=>es.getD i vr
 | _=>vr
noncomputable def jG (e:Expr):List Nat→Expr
 | []=>e
 | i::p=>jG (kid e i) p
noncomputable def Cf:Stmt→Expr
 | .Expr e _=>e
 | .For _ it _ _ _=>it
 | _=>vr
theorem i8 {l:List DV}{k:Int}{j:Nat}{d:DV}(h:eI l.length k=some j) (h':l[j]?=some d):iJ (.af (.list l)) (.af (.int k))=some (.af d):=by rw[ro,h,ao,h'];rfl
theorem NC {l:List OT}{k:Int}{j:Nat}{d:OT}(h:eI l.length k=some j) (h':l[j]?=some d):iJ (.own l) (.af (.int k))=some d:=by rw[u9,h,ao,h']
theorem iH {l:List DV}(h:l.length≤bh):bi (ae "len") [.af (.list l)]=some (.int l.length):=by
 unfold bi;rw[if_pos rfl];simp only[jI,ao];rw[if_pos h]
theorem fY {a b:Int}(h:cj a b=true):l9 .Mult (.int a) (.int b)=some (.int (a*b)):=if_pos h
theorem nH {a b:Int}(h:b≠0):l9 .FloorDiv (.int a) (.int b)=some (.int (a.fdiv b)):=if_neg h
theorem qd {a b:Int}(h:b≠0):l9 .Mod (.int a) (.int b)=some (.int (a.fmod b)):=if_neg h
theorem mH {a b:Int}(h:eC a b=true):l9 .Pow (.int a) (.int b)=some (.int (a^b.toNat)):=if_pos h
theorem zy {l:List DV}(h:l.length≤bh):bi (ae "list") [.af (.list l)]=some (.list l):=by
 unfold bi;rw[if_neg (by decide +kernel),if_neg (by decide +kernel),if_neg (by decide +kernel),if_neg (by decide +kernel),if_neg (by decide +kernel),if_neg (by decide +kernel),if_neg (by decide +kernel),if_pos rfl];simp only[pO,ao];rw[if_pos h]
theorem qU {α β:Type}{f:α→β}{l:List α}{k:Int}{o:Option Nat}(h:eI l.length k=o):eI (l.map f).length k=o:=by rw[ag];exact h
theorem sF {α β:Type}{f:α→β}{l:List α}{j:Nat}{d:α}(h:l[j]?=some d):(l.map f)[j]?=some (f d):=by rw[aU,h];rfl
theorem vO {C:ey}{PN:List Str}{M:List (Str×Nat)}{K:Nat}{t it:Expr}{b:List Stmt}{p:Pos}{ρ:au}{ds:List DV}(h:eJ C it ρ=some ds):ex C PN M K (.For t it b [] p) ρ=fN (bp t) (λρ'=>cA C PN M K b ρ') ds ρ:=by
 rw[pz,h];rfl
theorem vW {d:DV}{k:Int}{n:Nat}(h:k=(n:Int)) (h':n≤256):l9 .Mult (.list [d]) (.int k)=some (.list (ax n d)):=by
 subst h
 have e:(ax n [d]).flatten=ax n d:=by
  clear h'
  induction n with
  | zero=>rfl
  | succ n ih=>rw[eM,g9,ih,eM];rfl
 exact(if_pos ⟨by exact zr _,by exact rl 0x22b014e1821a90008801 rfl _ h',by simp;exact rl 0x6a400221a90008801 rfl _ h'⟩:_=some (DV.list (ax (n:Int).toNat [d]).flatten)).trans (by rw[du,e])
theorem Ga {a b:List DV}(h:a.length+b.length≤bh):l9 .Add (.list a) (.list b)=some (.list (a++b)):=if_pos h
end
section
noncomputable def av (i:Nat):FD:=match qy[i]? with
 | some (.FunctionDef name args body _ _ _ scope _ _ _)=>⟨args.args.map (·.arg),scope,CJ name,Rt name,body⟩
 | _=>⟨[],default,[],[],[]⟩
theorem cT {x y:String}:ae x=ae y↔x=y:=by
 constructor
 ·intro h
  rw[qB,qB] at h
  have h3:x.toList=y.toList:=by
   refine List.map_inj_right (λa b h=>?_) |>.mp (by simpa using (by injection h:(x.toList.map nE).toArray=(y.toList.map nE).toArray):x.toList.map nE=y.toList.map nE)
   exact Char.ext (UInt32.toNat_inj.mp h)
  exact String.ext h3
 ·rintro rfl;rfl
theorem gn {x y:String}{t:OT}{ρ:au}:aj (ae x) ((ae y,t)::ρ)=if x=y then some t else aj (ae x) ρ:=by
 by_cases h:x=y
 ·subst h;exact(ak (if_pos rfl))▸lookup_cons_self
 ·exact(ak (if_neg h))▸(oU λq=>h (cT.mp q))
theorem Yx {x y:String}{t u:OT}{ρ:au}:put (ae x) t ((ae y,u)::ρ)=if x=y then (ae x,t)::ρ else (ae y,u)::put (ae x) t ρ:=by
 show(if _ then _ else _)=_
 simp only[cT]
theorem Vv {x:Str}{t:OT}:put x t []=[(x,t)]:=rfl
theorem ET:T (S "gcd")=some (av 3):=by kernel_rfl
theorem E5:(av 3).params=[S "a",S "b"]:=by kernel_rfl
theorem Te:(av 3).PN=[]:=by kernel_rfl
theorem E9:(av 3).M=[]:=by kernel_rfl
noncomputable def ay (b:List Stmt):List Nat→Stmt
 | []=>.Pass default
 | [i]=>b.getD i (.Pass default)
 | i::p=>match b[i]? with
  | some (.While _ b' _ _)=>ay b' p
  | some (.For _ _ b' _ _)=>ay b' p
  | some (.If _ b' _ _)=>ay b' p
  | _=>.Pass default
noncomputable def dG:Stmt→Expr
 | .While t _ _ _=>t
 | .If t _ _ _=>t
 | _=>.Tuple [] 0 default
noncomputable def bG:Stmt→List Stmt
 | .While _ b _ _=>b
 | .For _ _ b _ _=>b
 | .If _ b _ _=>b
 | _=>[]
section
variable {C:ey}{PN:List Str}{M:List (Str×Nat)}{K:Nat}
theorem cV {s:Stmt}{ss:List Stmt}{ρ ρ':au}{o:Option Out}(h:ex C PN M K s ρ=some (.bU ρ')) (h':cA C PN M K ss ρ'=o):cA C PN M K (s::ss) ρ=o:=by
 rw[BP,h];exact h'
theorem fZ {s:Stmt}{ss:List Stmt}{ρ ρ':au}{d:DV}(h:ex C PN M K s ρ=some (.ret d ρ')):cA C PN M K (s::ss) ρ=some (.ret d ρ'):=by
 rw[BP,h];rfl
theorem m5 {ρ:au}:cA C PN M K [] ρ=some (.bU ρ):=rfl
theorem JG {α:Type}(st:α→au) (m:α→Nat) (go:α→Bool) (nx:α→α) (fin:α→α){t:Expr}{b:List Stmt}
  (ht:∀ a,fx C t (st a)=some (go a)) (hb:∀ a,go a=true→cA C PN M K b (st a)=some (.bU (st (nx a)))∧m (nx a)<m a) (hf:∀ a,go a=true→fin (nx a)=fin a) (DC:∀ a,go a=false→fin a=a) (p:Pos) :
  ∀ a,m a<K→ex C PN M K (.While t b [] p) (st a)=some (.bU (st (fin a))):=by
 have fs:∀ (n:Nat) a,m a<n→eT (fx C t) (λρ'=>cA C PN M K b ρ') n (st a)=some (.bU (st (fin a))):=by
  intro n
  induction n with
  | zero=>intro a h;lia
  | succ n ih=>
   intro a h
   rw[xx]
   refine(ak (ht a))▸?_
   cases hg:go a with
   | false=>simp only[ao,cg,if_false];rw[DC a hg]
   | true=>
    refine dJ (hb a hg) λh1 h2=>?_
    simp only[ao,if_true,h1]
    rw[ih (nx a) (by exact FG _ _ _ h h2),hf a hg]
 intro a h
 exact fs K a h
end
theorem Qe {a b:Nat}(h:a≤b):a.log2≤b.log2:=by
 by_cases ha:a=0
 ·subst ha;simp
 ·exact(MI (by exact rl 0x177a5177a5016a10102 rfl _ _ h ha)).mpr (br (wU ha) h)
theorem Zw {a r:Nat}(hr:r≠0) (h:2*r≤a):r.log2+1≤a.log2:=by
 refine(MI (by exact rl 0x5de943518120377a50102 rfl _ _ hr h)).mpr ?_
 have:=wU hr
 rw[lE]
 exact rl 0xd40b22405a8405a81604803 rfl _ _ _ h this
noncomputable def yC (q:Nat×Nat):Nat:=if q.2=0 then 0 else if q.1≤q.2 then 2*q.2.log2+3 else min q.1.log2 (q.2.log2+1)+q.2.log2+1
theorem Ub (q:Nat×Nat):yC q≤2*q.2.log2+3:=by
 unfold yC
 split
 ·exact rl 0x6b123c090901 rfl _
 ·split<;>lia
theorem Uc {a b:Nat}(hb:b≠0):yC (b,a % b)<yC (a,b):=by
 have hm:a % b<b:=Nat.mod_lt _ (by exact FF _ hb)
 unfold yC
 rw[if_neg hb]
 by_cases h0:a % b=0
 ·rw[if_pos h0];split<;>lia
 ·rw[if_neg h0,if_neg (by exact rl 0x176a1017202802 rfl _ _ hm:¬ b≤a % b)]
  by_cases rB:a≤b
  ·rw[if_pos rB];exact rl 0xe624781202c48588f95890a1016a02802 rfl _ _ (Qe (qI hm))
  ·rw[if_neg rB]
   have h2:2*(a % b)≤a:=by
    have:=Nat.div_add_mod a b
    have:b*1≤b*(a/b):=Nat.mul_le_mul_left _ ((Nat.le_div_iff_mul_le (by exact FF _ hb)).mpr (by exact rl 0x35180a0376a02802 rfl _ _ rB):1≤a/b)
    lia
   exact rl 0x1cc485880fcac48501431216205f2b121409016a1890a04d4050203 rfl _ _ _ (Qe (qI hm)) (Zw h0 h2)
theorem Wa (C:ey) (K:Nat) (a b:Int) (hK:2*b.natAbs.log2+3<K):(av 3).run C K [.af (.int a),.af (.int b)]=some (.int (cS a b),[.af (.int a),.af (.int b)]):=by
 have h0:ex C [] [] K (ay (av 3).body [0]) [(S "a",.af (.int a)),(S "b",.af (.int b))]=some (.bU [(S "a",.af (.int a.natAbs)),(S "b",.af (.int b.natAbs))]):=by
  exact qx λq=>q rfl rfl rfl rfl
 have h1:∀ q:Nat×Nat,yC q<K→ex C [] [] K (ay (av 3).body [1]) [(S "a",.af (.int q.1)),(S "b",.af (.int q.2))]=some (.bU [(S "a",.af (.int (qJ q.1 q.2:Nat))),(S "b",.af (.int (0:Nat)))]):=by
  refine JG (λq:Nat×Nat=>[(S "a",.af (.int q.1)),(S "b",.af (.int q.2))]) yC (λq=>decide (q.2≠0)) (λq=>(q.2,q.1 % q.2)) (λq=>(qJ q.1 q.2,0)) (λq=>?_) (λq hq=>⟨?_,?_⟩) (λq hq=>?_) (λq hq=>?_) _
  ·exact qb λq=>a7 (q rfl rfl) (by(congr 1;lia))
  ·have ug:q.2≠0:=by simpa using hq
   have:((q.1:Int).fmod (q.2:Int))=((q.1 % q.2:Nat):Int):=by rw[Int.fmod_eq_emod_of_nonneg _ (by exact zr _)];simp
   exact gL λq=>a7 (q rfl rfl rfl (qd (by exact A0 _ ug))) (by(simp only[QO.out,cR,sV,this];kernel_rfl))
  ·have ug:q.2≠0:=by simpa using hq
   exact Uc ug
  ·have ug:q.2≠0:=by simpa using hq
   simp only[Prod.mk.injEq,and_true]
   rw[HA q.2,←Nat.gcd_rec,HA]
  ·have ug:q.2=0:=by simpa using hq
   obtain⟨x,y⟩:=q
   subst ug
   simp
 have h2:ex C [] [] K (ay (av 3).body [2]) [(S "a",.af (.int (qJ a.natAbs b.natAbs:Nat))),(S "b",.af (.int (0:Nat)))]=some (.ret (.int (cS a b)) [(S "a",.af (.int (qJ a.natAbs b.natAbs:Nat))),(S "b",.af (.int (0:Nat)))]):=by
  exact qx λq=>q true rfl
 unfold FD.run
 refine(ak E5)▸(ak Te)▸(ak E9)▸(ak ((by rfl:(av 3).body=[ay (av 3).body [0],ay (av 3).body [1],ay (av 3).body [2]])))▸?_
 have hx:cA C [] [] K [ay (av 3).body [0],ay (av 3).body [1],ay (av 3).body [2]] ([S "a",S "b"].zip [.af (.int a),.af (.int b)])=some (.ret (.int (cS a b)) [(S "a",.af (.int (qJ a.natAbs b.natAbs:Nat))),(S "b",.af (.int (0:Nat)))]):=
  cV h0 (cV (h1 (a.natAbs,b.natAbs) (ck (Ub _) hK)) (fZ h2))
 rw[hx]
 kernel_rfl
end
section
noncomputable def qv (q:Rat):DV:=.tup [.int q.num,.int q.den]
noncomputable def iv (i:Int):OT:=.af (.int i)
theorem A4 {K n:Nat}{f:Str}{fd:FD}{ts:List OT}(h:T f=some fd):aw T K (n+1) f ts=fd.run (λg us=>aw T K n g us) K ts:=by
 simp only[XE,h,ao]
theorem eR {K m i:Nat}{f:Str}{ps:List Str}{M:List (Str×Nat)}{ts:List OT}{d:DV}(hT:T f=some (av i)) (hP:(av i).params=ps) (hN:(av i).PN=[]) (hM:(av i).M=M) (hl:ts.length=ps.length) (hf:(jn ts).isSome=true)
  (hx:∃ ρ,cA (λg us=>aw T K m g us) [] M K (av i).body (ps.zip ts)=some (.ret d ρ)):aw T K (m+1) f ts=some (d,ts):=by
 refine gF hx λρ hx=>?_
 rw[A4 hT]
 unfold FD.run
 have kT:(av i).fits ts=true:=by
  unfold FD.fits
  refine(ak hN)▸?_
  cases ts<;>exact hf
 rw[if_pos ⟨by rw[hP];exact hl,kT⟩,hP,hN,hM,hx]
 simp only[ao,FD.fin,hN]
theorem W4 {K m i:Nat}{f:Str}{ps:List Str}{M:List (Str×Nat)}{ts:List OT}(hT:T f=some (av i)) (hP:(av i).params=ps) (hN:(av i).PN=[]) (hM:(av i).M=M) (hl:ts.length=ps.length) (hf:(jn ts).isSome=true)
  (hx:∃ ρ,cA (λg us=>aw T K m g us) [] M K (av i).body (ps.zip ts)=some (.bU ρ)):aw T K (m+1) f ts=some (.none,ts):=by
 refine gF hx λρ hx=>?_
 rw[A4 hT]
 unfold FD.run
 have kT:(av i).fits ts=true:=by
  unfold FD.fits
  refine(ak hN)▸?_
  cases ts<;>exact hf
 rw[if_pos ⟨by rw[hP];exact hl,kT⟩,hP,hN,hM,hx]
 simp only[ao,FD.fin,hN]
theorem IJ {K n:Nat}{a b:Int}(hn:1≤n) (hK:2*b.natAbs.log2+3<K):aw T K n (S "gcd") [.af (.int a),.af (.int b)]=some (.int (cS a b),[.af (.int a),.af (.int b)]):=by
 apply nS hn;intro m hn
 rw[A4 ET]
 exact Wa _ K a b hK
theorem Nz:T (S "rat")=some (av 11):=by kernel_rfl
theorem Ny:(av 11).params=[S "top",S "bottom"]:=by kernel_rfl
theorem NV:(av 11).PN=[]:=by kernel_rfl
theorem NA:(av 11).M=[]:=by kernel_rfl
theorem VA {a b:Int}(hb:b≠0):a.fdiv (if b>0 then (cS a b:Int) else 0-(cS a b:Int))=(aI a b).num∧b.fdiv (if b>0 then (cS a b:Int) else 0-(cS a b:Int))=((aI a b).den:Int):=by
 have hg:cS a b≠0:=λh=>hb (tQ.mp h).2
 rw[Ao,Ap,if_neg hb,HF b a]
 obtain⟨a',ha⟩:(cS a b:Int) ∣ a:=wX ..
 obtain⟨b',qu⟩:(cS a b:Int) ∣ b:=Int.gcd_dvd_right ..
 generalize cS a b=g at *
 have He:(g:Int)≠0:=A0 _ hg
 have yB:(0:Int)<g:=rl 0x9410bbbd2801 rfl _ hg
 subst ha qu
 have DN:b'≠0:=λh=>hb (by refine(ak h)▸?_;simp)
 by_cases tw:(g:Int)*b'>0
 ·have hbp:0<b':=by
   rcases uu DN with h | h
   ·have:=oI yB h;exact rl 0x24a0ae4b5494b20 rfl _ _ tw this
   ·exact h
  refine(ak (if_pos tw))▸(ak (Int.sign_eq_one_of_pos tw))▸?_
  refine⟨?_,?_⟩
  ·rw[eQ _ He,MK,o8 _ He]
  ·refine(ak (eQ _ He))▸?_
   have:((g:Int)*b').natAbs=g*b'.natAbs:=by rw[fJ];simp
   rw[this,iL _ (by exact FF _ hg)]
   exact rl 0x9c3aa5494b10 rfl _ hbp
 ·have hbn:b'<0:=by
   rcases uu DN with h | h
   ·exact h
   ·have:=Int.mul_pos yB h;exact rl 0x496a0c94bbc94b20 rfl _ _ tw this
  refine(ak (if_neg tw))▸(ak (Int.sign_eq_neg_one_of_neg (oI yB hbn:(g:Int)*b'<0)))▸?_
  have e1:∀ x:Int,((g:Int)*x).fdiv (0-(g:Int))=-x:=λx=>by
   have:(g:Int)*x=(0-(g:Int))*(-x):=by grind
   rw[this,eQ _ (by exact rl 0x5e6bac10bbbd2801 rfl _ hg)]
  refine⟨?_,?_⟩
  ·rw[e1]
   have:-1*((g:Int)*a')=(g:Int)*(-a'):=by grind
   exact(ak this)▸(ak (o8 _ He))▸rfl
  ·rw[e1]
   have:((g:Int)*b').natAbs=g*b'.natAbs:=by rw[fJ];simp
   rw[this,iL _ (by exact FF _ hg)]
   lia
theorem qW {K n:Nat}{a b:Int}(hn:2≤n) (hb:b≠0) (hK:2*b.natAbs.log2+3<K):aw T K n (S "rat") [.af (.int a),.af (.int b)]=some (qv (aI a b),[.af (.int a),.af (.int b)]):=by
 apply nS hn;intro m hn
 have hg:=@IJ K m a b (by exact vN _ hn) hK
 have RK:cS a b≠0:=λh=>hb (tQ.mp h).2
 refine dJ (@VA a b hb) λr1 r2=>?_
 have Ad:(if b>0 then (cS a b:Int) else 0-(cS a b:Int))≠0:=by split<;>lia
 by_cases hp:0<b
 ·rw[if_pos hp] at r1 r2 Ad
  refine eR Nz Ny NV NA rfl rfl ⟨put (ae "g") (.af (.int (cS a b))) [(S "top",.af (.int a)),(S "bottom",.af (.int b))],?_⟩
  exact gL λq=>a7 (q rfl (cf hb) true rfl (ct hp) rfl rfl hg true rfl (nH Ad) rfl (nH Ad)) (by simp[QO.out,cR,r1,r2,qv])
 ·rw[if_neg hp] at r1 r2 Ad
  refine eR Nz Ny NV NA rfl rfl ⟨put (ae "g") (.af (.int (0-(cS a b:Int)))) [(S "top",.af (.int a)),(S "bottom",.af (.int b))],?_⟩
  exact gL λq=>a7 (q rfl (cf hb) true rfl (cf hp) rfl rfl hg true rfl (nH Ad) rfl (nH Ad)) (by(simp only[QO.out,cR,r1,r2];kernel_rfl))
end
section
noncomputable def b6 (B:Nat) (x:Int):Prop:=x.natAbs<2^B
noncomputable def sz (B:Nat) (q:Rat):Prop:=b6 B q.num∧q.den<2^B
noncomputable def dB (K:Nat):Prop:=1099511627776≤K
theorem log2_lt {x B:Nat}(h:x<2^B):x.log2≤B-1:=by
 by_cases h0:x=0
 ·subst h0;simp
 ·have:=(Nat.log2_lt h0).mpr h
  exact rl 0x36c90a0287202802 rfl _ _ this
theorem dB.g {K B x:Nat}(hK:dB K) (hB:B≤134217000) (h:x<2^B):2*x.log2+3<K:=by
 have:=log2_lt h
 unfold dB at hK
 exact rl 0x3902624781202db2428405a90148639ce73a1a81240000000000000000203 rfl _ _ _ hK hB this
theorem gT {A B:Nat}{x y:Int}(hx:b6 A x) (hy:b6 B y) (h:A+B≤134217000):cj x y=true:=by
 have h1:=log2_lt hx
 have h2:=log2_lt hy
 unfold cj
 rw[Sm]
 exact rl 0x1a90148639ce73b10243520290c739ce7620281b6c90a028136c90a06804 rfl _ _ _ _ h1 h2 h
theorem jP {A B:Nat}{x y:Int}(hx:b6 A x) (hy:b6 B y):b6 (A+B) (x*y):=by
 unfold b6 at *
 rw[fJ,MG]
 exact Nat.mul_lt_mul'' hx hy
theorem UM {A:Nat}{x y:Int}(hx:b6 A x) (hy:b6 A y):b6 (A+1) (x+y):=by
 unfold b6 at *
 rw[lE]
 exact ck (vF x y) (MH _▸Au hx hy)
theorem UN {A:Nat}{x y:Int}(hx:b6 A x) (hy:b6 A y):b6 (A+1) (x-y):=by
 unfold b6 at *
 rw[lE]
 exact ck (Int.natAbs_sub_le x y) (MH _▸Au hx hy)
theorem i9 {A B:Nat}{x:Int}(h:A≤B) (hx:b6 A x):b6 B x:=kJ hx (cO (by decide) h)
theorem kz {A B:Nat}{q:Rat}(h:A≤B) (hq:sz A q):sz B q:=⟨i9 h hq.1,kJ hq.2 (cO (by decide) h)⟩
theorem j7 {A:Nat}{q:Rat}(hq:sz A q):b6 A (q.den:Int):=by unfold b6;simpa using hq.2
theorem xw {A:Nat}{x y:Int}(hy:y≠0) (h1:b6 A x) (h2:b6 A y):sz A (aI x y):=by
 refine⟨?_,?_⟩
 ·unfold b6 at *
  rw[Ao,Int.natAbs_ediv_of_dvd,fJ,Int.natAbs_sign_of_ne_zero hy,Nat.one_mul]
  ·exact ck (yZ _ _) h1
  ·exact Int.dvd_mul_of_dvd_right (HF y x▸wX ..)
 ·rw[Ap,if_neg hy]
  exact ck (yZ _ _) h2
theorem IA:eI 2 0=some 0:=by decide +kernel
theorem Di:eI 2 1=some 1:=by decide +kernel
theorem iC (q:Rat):(q.den:Int)≠0:=by exact A0 _ q.den_nz
theorem SQ:T (S "radd")=some (av 12):=by kernel_rfl
theorem Sv:(av 12).params=[S "a",S "b"]:=by kernel_rfl
theorem U8:(av 12).PN=[]:=by kernel_rfl
theorem S2:(av 12).M=[]:=by kernel_rfl
theorem Bq {K n A B:Nat}{p q:Rat}(hn:3≤n) (hK:dB K) (hp:sz A p) (hq:sz B q) (h:A+B≤134217000):aw T K n (S "radd") [.af (qv p),.af (qv q)]=some (qv (p+q),[.af (qv p),.af (qv q)]):=by
 apply nS hn;intro m hn
 have hr:=@qW K m (p.num*q.den+q.num*p.den) (p.den*q.den) (by exact vM _ hn) (aG (iC p) (iC q):((p.den:Int)*(q.den:Int))≠0) (hK.g h (jP (j7 hp) (j7 hq)):2*(((p.den:Int)*(q.den:Int))).natAbs.log2+3<K)
 have e:aI (p.num*q.den+q.num*p.den) (p.den*q.den)=p+q:=by
  rw[←rJ _ _ (iC p) (iC q),bq,bq]
 rw[e] at hr
 have m1:=gT hp.1 (j7 hq) h
 have m2:=gT hq.1 (j7 hp) (by exact HV _ _ h)
 refine eR SQ Sv U8 S2 rfl rfl ⟨[(S "a",.af (qv p)),(S "b",.af (qv q))],?_⟩
 exact gL λq=>q true rfl (i8 rfl rfl) rfl (i8 rfl rfl) (fY m1) rfl (i8 rfl rfl) rfl (i8 rfl rfl) (fY m2) rfl (i8 rfl rfl) rfl (i8 rfl rfl) (fY (gT (j7 hp) (j7 hq) h)) hr
end
section
theorem Tj:T (S "rsub")=some (av 13):=by kernel_rfl
theorem SA:(av 13).params=[S "a",S "b"]:=by kernel_rfl
theorem Vc:(av 13).PN=[]:=by kernel_rfl
theorem S7:(av 13).M=[]:=by kernel_rfl
theorem VT {K n A B:Nat}{p q:Rat}(hK:dB K) (hp:sz A p) (hq:sz B q) (h:A+B≤134217000) (hn:3≤n):aw T K n (S "rsub") [.af (qv p),.af (qv q)]=some (qv (p-q),[.af (qv p),.af (qv q)]):=by
 apply nS hn;intro m hn
 have hr:=@qW K m (p.num*q.den-q.num*p.den) (p.den*q.den) (by exact vM _ hn) (aG (iC p) (iC q):((p.den:Int)*(q.den:Int))≠0) (hK.g h (jP (j7 hp) (j7 hq)):2*(((p.den:Int)*(q.den:Int))).natAbs.log2+3<K)
 have e:aI (p.num*q.den-q.num*p.den) (p.den*q.den)=p-q:=by
  rw[←Rat.divInt_sub_divInt _ _ (iC p) (iC q),bq,bq]
 rw[e] at hr
 have m1:=gT hp.1 (j7 hq) h
 have m2:=gT hq.1 (j7 hp) (by exact HV _ _ h)
 refine eR Tj SA Vc S7 rfl rfl ⟨[(S "a",.af (qv p)),(S "b",.af (qv q))],?_⟩
 exact gL λq=>q true rfl (i8 rfl rfl) rfl (i8 rfl rfl) (fY m1) rfl (i8 rfl rfl) rfl (i8 rfl rfl) (fY m2) rfl (i8 rfl rfl) rfl (i8 rfl rfl) (fY (gT (j7 hp) (j7 hq) h)) hr
theorem SV:T (S "rmul")=some (av 14):=by kernel_rfl
theorem Sy:(av 14).params=[S "a",S "b"]:=by kernel_rfl
theorem Va:(av 14).PN=[]:=by kernel_rfl
theorem S5:(av 14).M=[]:=by kernel_rfl
theorem zS {K n A B:Nat}{p q:Rat}(hK:dB K) (hp:sz A p) (hq:sz B q) (h:A+B≤134217000) (hn:3≤n):aw T K n (S "rmul") [.af (qv p),.af (qv q)]=some (qv (p*q),[.af (qv p),.af (qv q)]):=by
 apply nS hn;intro m hn
 have hr:=@qW K m (p.num*q.num) (p.den*q.den) (by exact vM _ hn) (aG (iC p) (iC q):((p.den:Int)*(q.den:Int))≠0) (hK.g h (jP (j7 hp) (j7 hq)):2*(((p.den:Int)*(q.den:Int))).natAbs.log2+3<K)
 have e:aI (p.num*q.num) (p.den*q.den)=p*q:=by
  rw[←jz,bq,bq]
 rw[e] at hr
 refine eR SV Sy Va S5 rfl rfl ⟨[(S "a",.af (qv p)),(S "b",.af (qv q))],?_⟩
 exact gL λq=>q true rfl (i8 rfl rfl) rfl (i8 rfl rfl) (fY (gT hp.1 hq.1 h)) rfl (i8 rfl rfl) rfl (i8 rfl rfl) (fY (gT (j7 hp) (j7 hq) h)) hr
theorem SR:T (S "rdiv")=some (av 15):=by kernel_rfl
theorem Sw:(av 15).params=[S "a",S "b"]:=by kernel_rfl
theorem U9:(av 15).PN=[]:=by kernel_rfl
theorem S3:(av 15).M=[]:=by kernel_rfl
theorem I' {K n A B:Nat}{p q:Rat}(hK:dB K) (hp:sz A p) (hq:sz B q) (h:A+B≤134217000) (h0:q≠0) (hn:3≤n):aw T K n (S "rdiv") [.af (qv p),.af (qv q)]=some (qv (p/q),[.af (qv p),.af (qv q)]):=by
 apply nS hn;intro m hn
 have hr:=@qW K m (p.num*q.den) (p.den*q.num) (by exact vM _ hn) (aG (iC p) (λz=>h0 (jr.mp z):q.num≠0):((p.den:Int)*q.num)≠0) (hK.g h (jP (j7 hp) hq.1):2*(((p.den:Int)*q.num)).natAbs.log2+3<K)
 have e:aI (p.num*q.den) (p.den*q.num)=p/q:=by
  rw[←jz,bq,←nM,bq,MD]
 rw[e] at hr
 have m1:=gT hp.1 (j7 hq) h
 have m3:=gT (j7 hp) hq.1 h
 refine eR SR Sw U9 S3 rfl rfl ⟨[(S "a",.af (qv p)),(S "b",.af (qv q))],?_⟩
 exact gL λq=>q true rfl (i8 rfl rfl) rfl (i8 rfl rfl) (fY m1) rfl (i8 rfl rfl) rfl (i8 rfl rfl) (fY m3) hr
theorem Ti:T (S "rneg")=some (av 16):=by kernel_rfl
theorem Sz:(av 16).params=[S "a"]:=by kernel_rfl
theorem Vb:(av 16).PN=[]:=by kernel_rfl
theorem S6:(av 16).M=[]:=by kernel_rfl
theorem Ja {K n A B:Nat}{p:Rat}(hn:1≤n):aw T K n (S "rneg") [.af (qv p)]=some (qv (-p),[.af (qv p)]):=by
 apply nS hn;intro m hn
 have e1:(-p).num=0-p.num:=by rw[MA];exact rl 0x27552f8a10 rfl _
 have e2:(-p).den=p.den:=Rat.neg_den ..
 refine eR Ti Sz Vb S6 rfl rfl ⟨[(S "a",.af (qv p))],?_⟩
 exact gL λq=>a7 (q true rfl (i8 rfl rfl) rfl (i8 rfl rfl)) (by simp[QO.out,cR,qv])
theorem SU:T (S "rinv")=some (av 17):=by kernel_rfl
theorem Sx:(av 17).params=[S "a"]:=by kernel_rfl
theorem U':(av 17).PN=[]:=by kernel_rfl
theorem S4:(av 17).M=[]:=by kernel_rfl
theorem OL {K n A B:Nat}{p:Rat}(hK:dB K) (hp:sz A p) (h:A≤134217000) (h0:p≠0) (hn:3≤n):aw T K n (S "rinv") [.af (qv p)]=some (qv (p⁻¹),[.af (qv p)]):=by
 apply nS hn;intro m hn
 have hr:=@qW K m (p.den) (p.num) (by exact vM _ hn) (λz=>h0 (jr.mp z):p.num≠0) (hK.g h hp.1)
 have e:aI (p.den) (p.num)=p⁻¹:=by
  rw[←nM,bq]
 rw[e] at hr
 refine eR SU Sx U' S4 rfl rfl ⟨[(S "a",.af (qv p))],?_⟩
 exact gL λq=>q true rfl (i8 rfl rfl) rfl (i8 rfl rfl) hr
end
section
noncomputable def ql (l:List Rat):DV:=.list (l.map qv)
noncomputable def il (l:List Int):DV:=.list (l.map .int)
theorem xu {α:Type}(inj:α→DV) (f:α→DV){k:DV→Option (List DV)}:∀ {l:List α},(∀ a∈l,k (inj a)=some [f a])→gV k (l.map inj)=some (l.map f)
 | [],_=>rfl
 | a::l,h=>by
  rw[a8,a8,Bs,h a (.head _),xu inj f (l:=l) λb hb=>h b (.tail _ hb)]
  rfl
theorem SN:T (S "qneg")=some (av 37):=by kernel_rfl
theorem Ss:(av 37).params=[S "p"]:=by kernel_rfl
theorem U6:(av 37).PN=[]:=by kernel_rfl
theorem S0:(av 37).M=[]:=by kernel_rfl
theorem VS {K n:Nat}{l:List Rat}(hn:2≤n) (hl:l.length≤bh):aw T K n (S "qneg") [.af (ql l)]=some (ql (l.map λq=>-q),[.af (ql l)]):=by
 apply nS hn;intro m hn
 have h0:ex (λg us=>aw T K m g us) [] [] K (ay (av 37).body [0]) [(S "p",.af (ql l))]=some (.ret (ql (l.map λq=>-q)) [(S "p",.af (ql l))]):=by
  show ex _ [] [] K (.Return (some (.ListComp _ (⟨_,_,_,_⟩::_) _ _)) _) _=_
  have hr:=λq:Rat=>@Ja K m 0 0 q (by exact vN _ hn)
  simp only[S] at hr
  simp only[uI,rF,j',uA,nv,ny,vo,gn,S,if_true,ao,vp,ql,cW,iS,seen]
  rw[xu qv (λq=>qv (-q)) (l:=l)]
  ·simp[cy,hl]
  ·intro q _
   simp[jl,mf,cy,ao,aD,cT,pS,eK,fy,gR,gA,gN,a5,hr]
 refine eR SN Ss U6 S0 rfl rfl ?_
 exact(ak ((by rfl:(av 37).body=[ay (av 37).body [0]])))▸(⟨_,fZ (ss:=[]) h0⟩)
end
section
theorem kM {n j:Nat}(hn:n≤bh) (h:j<n):eI n (j:Int)=some j:=by
 unfold eI
 rw[if_pos hn,if_pos (by exact zr _),if_pos (by exact vL _ _ h)]
 kernel_rfl
noncomputable def gX {α:Type}(z:α→Bool) (l:List α):Nat→Nat
 | 0=>0
 | n+1=>match l[n]? with
  | some a=>if z a then gX z l n else n+1
  | none=>n+1
theorem xo {α:Type}{z:α→Bool}{l:List α}:∀ n,gX z l (n+1)=(match l[n]? with
  | some a=>if z a then gX z l n else n+1
  | none=>n+1):=λ_=>rfl
noncomputable def fS {α:Type}(z:α→Bool) (l:List α):List α:=l.take (gX z l l.length)
theorem zR {α:Type}(z:α→Bool) (l:List α):∀ n,gX z l n≤n
 | 0=>aL _
 | n+1=>by
  rw[xo]
  split
  ·split
   ·exact Nat.le_succ_of_le (zR z l n)
   ·exact aL _
  ·exact aL _
theorem Gk {n:Nat}:kms_lo none n=0:=rfl
theorem Bu {s n:Nat}(h:s≤n):kms_hi (some (s:Int)) n=s:=by
 simp only[kms_hi]
 rw[if_neg (by exact rl 0x1792e0801 rfl _)];simp;exact rl 0x7a03f2a1016a10102 rfl _ _ h
theorem OM:T (S "qtrim")=some (av 35):=by kernel_rfl
theorem Us:(av 35).params=[S "row"]:=by kernel_rfl
theorem Pn:(av 35).PN=[]:=by kernel_rfl
theorem UZ:(av 35).M=[]:=by kernel_rfl
theorem Ju {K n:Nat}{l:List Rat}(hn:1≤n) (hl:l.length≤bh) (hK:l.length<K):aw T K n (S "qtrim") [.af (ql l)]=some (ql (fS (λq=>decide (q=0)) l),[.af (ql l)]):=by
 apply nS hn;intro m hn
 have h0:ex (λg us=>aw T K m g us) [] [] K (ay (av 35).body [0]) [(S "row",.af (ql l))]=some (.bU [(S "row",.af (ql l)),(S "size",.af (.int l.length))]):=by
  exact qx λq=>a7 (q true rfl (iH (by(simp;exact qR _ hl)))) (by(simp only[QO.out,cR,ag];kernel_rfl))
 have h1:∀ s:Nat,s≤l.length→s<K→ex (λg us=>aw T K m g us) [] [] K (ay (av 35).body [1]) [(S "row",.af (ql l)),(S "size",.af (.int s))]=some (.bU [(S "row",.af (ql l)),(S "size",.af (.int (gX (λq:Rat=>decide (q=0)) l s:Nat)))]):=by
  have step:∀ a:{ s:Nat // s≤l.length },(decide (0<a.1)&&match l[a.1-1]? with | some q=>decide (q=0) | none=>false)=true→0<a.1:=λa h=>by
   simp only[aY,decide_eq_true_eq] at h;exact h.1
  intro s hs Lv
  refine JG (α:={ s:Nat // s≤l.length }) (λa=>[(S "row",.af (ql l)),(S "size",.af (.int a.1))]) (λa=>a.1) (λa=>decide (0<a.1)&&match l[a.1-1]? with | some q=>decide (q=0) | none=>false)
   (λa=>⟨a.1-1,by exact rl 0x3516485016a10102 rfl _ _ a.2⟩) (λa=>⟨gX (λq:Rat=>decide (q=0)) l a.1,br (zR ..) a.2⟩) (λa=>?_) (λa ha=>⟨?_,?_⟩) (λa ha=>?_) (λa ha=>?_) _ ⟨s,hs⟩ Lv
  ·obtain⟨a,h⟩:=a
   cases a with
   | zero=>exact qb λq=>q rfl (cf (by lia))
   | succ j=>
    have hj:j<l.length:=h
    have gj:(l.map qv)[j]?=some (qv l[j]):=by rw[aU,aB hj];rfl
    have yI:=qU (f:=qv) (kM hl hj)
    have e1:((j+1:Nat):Int)-1=(j:Int):=HU _
    rw[←e1] at yI
    have yu:(decide (0<j+1)&&match l[j+1-1]? with | some q=>decide (q=0) | none=>false)=decide (l[j]=0):=by
     show(true&&match l[j]? with | some q=>decide (q=0) | none=>false)=_
     refine(ak (aB hj))▸?_;rfl
    refine(ak yu)▸?_
    by_cases hz:l[j]=0
    ·rw[decide_eq_true hz]
     exact qb λq=>q rfl (ct (by lia)) rfl rfl (i8 yI gj) (i8 rfl rfl) (ct (by(simp;lia)))
    ·rw[decide_eq_false hz]
     exact qb λq=>q rfl (ct (by lia)) rfl rfl (i8 yI gj) (i8 rfl rfl) (cf (by(simp;lia)))
  ·have:=step a ha
   obtain⟨a,h⟩:=a
   have e:((a-1:Nat):Int)=(a:Int)-1:=rl 0x27558608859214390901 rfl _ this
   exact gL λq=>a7 (q rfl) (by(simp only[QO.out,cR,e];kernel_rfl))
  ·have:=step a ha
   exact xf _ this
  ·have h0:=step a ha
   obtain⟨a,h⟩:=a
   cases a with
   | zero=>simp at h0
   | succ j=>
    simp only[aY,decide_eq_true_eq] at ha
    simp only[dh,aB (h:j<l.length)] at ha
    apply kW
    show gX _ l j=gX _ l (j+1)
    rw[xo,aB (h:j<l.length)]
    simp[ha.2]
  ·obtain⟨a,h⟩:=a
   cases a with
   | zero=>rfl
   | succ j=>
    have hj:j<l.length:=h
    simp only[dh,aB hj,wN,decide_true,ij] at ha
    apply kW
    show gX _ l (j+1)=j+1
    rw[xo,aB hj]
    simp[ha]
 have h2:∀ s:Nat,s≤l.length→ex (λg us=>aw T K m g us) [] [] K (ay (av 35).body [2]) [(S "row",.af (ql l)),(S "size",.af (.int s))]=some (.ret (ql (l.take s)) [(S "row",.af (ql l)),(S "size",.af (.int s))]):=by
  intro s hs
  have lt:((l.take s).map qv).length≤bh:=by rw[ag,cn];exact br (wQ _ _) hl
  exact qx λq=>q true true rfl rfl (by simp[nZ,Gk,(Bu hs),eP,hl]:m7 (l.map qv) none (some (s:Int)) none=some ((l.take s).map qv)) (zy lt)
 have yw:gX (λq:Rat=>decide (q=0)) l l.length≤l.length:=zR ..
 refine eR OM Us Pn UZ rfl rfl ?_
 exact(ak ((by rfl:(av 35).body=[ay (av 35).body [0],ay (av 35).body [1],ay (av 35).body [2]])))▸(⟨_,cV h0 (cV (h1 l.length (aL _) hK) (fZ (ss:=[]) (h2 _ yw)))⟩)
end
section
theorem Uw:T (S "ztrim")=some (av 21):=by kernel_rfl
theorem Uu:(av 21).params=[S "row"]:=by kernel_rfl
theorem Xj:(av 21).PN=[]:=by kernel_rfl
theorem U2:(av 21).M=[]:=by kernel_rfl
theorem PD {K n:Nat}{l:List Int}(hn:1≤n) (hl:l.length≤bh) (hK:l.length<K):aw T K n (S "ztrim") [.af (il l)]=some (il (fS (λq=>decide (q=0)) l),[.af (il l)]):=by
 apply nS hn;intro m hn
 have h0:ex (λg us=>aw T K m g us) [] [] K (ay (av 21).body [0]) [(S "row",.af (il l))]=some (.bU [(S "row",.af (il l)),(S "size",.af (.int l.length))]):=by
  exact qx λq=>a7 (q true rfl (iH (by(simp;exact qR _ hl)))) (by(simp only[QO.out,cR,ag];kernel_rfl))
 have h1:∀ s:Nat,s≤l.length→s<K→ex (λg us=>aw T K m g us) [] [] K (ay (av 21).body [1]) [(S "row",.af (il l)),(S "size",.af (.int s))]=some (.bU [(S "row",.af (il l)),(S "size",.af (.int (gX (λq:Int=>decide (q=0)) l s:Nat)))]):=by
  have step:∀ a:{ s:Nat // s≤l.length },(decide (0<a.1)&&match l[a.1-1]? with | some q=>decide (q=0) | none=>false)=true→0<a.1:=λa h=>by
   simp only[aY,decide_eq_true_eq] at h;exact h.1
  intro s hs Lv
  refine JG (α:={ s:Nat // s≤l.length }) (λa=>[(S "row",.af (il l)),(S "size",.af (.int a.1))]) (λa=>a.1) (λa=>decide (0<a.1)&&match l[a.1-1]? with | some q=>decide (q=0) | none=>false)
   (λa=>⟨a.1-1,by exact rl 0x3516485016a10102 rfl _ _ a.2⟩) (λa=>⟨gX (λq:Int=>decide (q=0)) l a.1,br (zR ..) a.2⟩) (λa=>?_) (λa ha=>⟨?_,?_⟩) (λa ha=>?_) (λa ha=>?_) _ ⟨s,hs⟩ Lv
  ·obtain⟨a,h⟩:=a
   cases a with
   | zero=>exact qb λq=>q rfl (cf (by lia))
   | succ j=>
    have hj:j<l.length:=h
    have gj:(l.map DV.int)[j]?=some (DV.int l[j]):=by rw[aU,aB hj];rfl
    have yI:=qU (f:=DV.int) (kM hl hj)
    have e1:((j+1:Nat):Int)-1=(j:Int):=HU _
    rw[←e1] at yI
    have yu:(decide (0<j+1)&&match l[j+1-1]? with | some q=>decide (q=0) | none=>false)=decide (l[j]=0):=by
     show(true&&match l[j]? with | some q=>decide (q=0) | none=>false)=_
     refine(ak (aB hj))▸?_;rfl
    refine(ak yu)▸?_
    by_cases hz:l[j]=0
    ·rw[decide_eq_true hz]
     exact qb λq=>q rfl (ct (by lia)) rfl rfl (i8 yI gj) (ct (by exact FE _ hz))
    ·rw[decide_eq_false hz]
     exact qb λq=>q rfl (ct (by lia)) rfl rfl (i8 yI gj) (cf hz)
  ·have:=step a ha
   obtain⟨a,h⟩:=a
   have e:((a-1:Nat):Int)=(a:Int)-1:=rl 0x27558608859214390901 rfl _ this
   exact gL λq=>a7 (q rfl) (by(simp only[QO.out,cR,e];kernel_rfl))
  ·have:=step a ha
   exact xf _ this
  ·have h0:=step a ha
   obtain⟨a,h⟩:=a
   cases a with
   | zero=>simp at h0
   | succ j=>
    simp only[aY,decide_eq_true_eq] at ha
    simp only[dh,aB (h:j<l.length)] at ha
    apply kW
    show gX _ l j=gX _ l (j+1)
    rw[xo,aB (h:j<l.length)]
    simp[ha.2]
  ·obtain⟨a,h⟩:=a
   cases a with
   | zero=>rfl
   | succ j=>
    have hj:j<l.length:=h
    simp only[dh,aB hj,wN,decide_true,ij] at ha
    apply kW
    show gX _ l (j+1)=j+1
    rw[xo,aB hj]
    simp[ha]
 have h2:∀ s:Nat,s≤l.length→ex (λg us=>aw T K m g us) [] [] K (ay (av 21).body [2]) [(S "row",.af (il l)),(S "size",.af (.int s))]=some (.ret (il (l.take s)) [(S "row",.af (il l)),(S "size",.af (.int s))]):=by
  intro s hs
  have lt:((l.take s).map DV.int).length≤bh:=by rw[ag,cn];exact br (wQ _ _) hl
  exact qx λq=>q true true rfl rfl (by simp[nZ,Gk,(Bu hs),eP,hl]:m7 (l.map DV.int) none (some (s:Int)) none=some ((l.take s).map DV.int)) (zy lt)
 have yw:gX (λq:Int=>decide (q=0)) l l.length≤l.length:=zR ..
 refine eR Uw Uu Xj U2 rfl rfl ?_
 exact(ak ((by rfl:(av 21).body=[ay (av 21).body [0],ay (av 21).body [1],ay (av 21).body [2]])))▸(⟨_,cV h0 (cV (h1 l.length (aL _) hK) (fZ (ss:=[]) (h2 _ yw)))⟩)
end
section
theorem xK (n:Nat):ke 0 (n:Int)=(az n).map λ(i:Nat)=>DV.int (i:Int):=by
 unfold ke
 simp
noncomputable def co (l:List Rat) (i:Nat):Rat:=(l[i]?).getD 0
theorem mc {l:List Rat}{i:Nat}(h:i<l.length):co l i=l[i]:=by simp[co,h]
theorem mJ {l:List Rat}{i:Nat}(h:¬ i<l.length):co l i=0:=by simp[co,fQ (by exact zp _ _ h:l.length≤i)]
noncomputable def iA (a b:List Rat):List Rat:=fS (λq=>decide (q=0)) ((az (max a.length b.length)).map λi=>co a i+co b i)
noncomputable def b8:Stmt→Expr
 | .Return (some e) _=>e
 | .Assign _ e _=>e
 | _=>.Tuple [] 0 default
noncomputable def fB:Expr→Nat→Expr
 | .Call _ es _ _,i=>es.getD i (.Tuple [] 0 default)
 | .Tuple es _ _,i=>es.getD i (.Tuple [] 0 default)
 | _,_=>.Tuple [] 0 default
theorem SK:T (S "qadd")=some (av 36):=by kernel_rfl
theorem Sp:(av 36).params=[S "a",S "b"]:=by kernel_rfl
theorem U4:(av 36).PN=[]:=by kernel_rfl
theorem SX:(av 36).M=[]:=by kernel_rfl
noncomputable def dn (A:Nat) (l:List Rat):Prop:=∀ q∈l,sz A q
theorem rV (A:Nat):sz (A+1) 0:=⟨by show(0:Int).natAbs<2^(A+1);simp[js],by show 1<2^(A+1);exact kG (by exact rl 0x5de96242801 rfl _)⟩
theorem xt {A:Nat}{l:List Rat}(h:dn (A+1) l) (i:Nat):sz (A+1) (co l i):=by
 unfold co
 cases q:l[i]? with
 | none=>exact rV A
 | some x=>exact h x (bt q)
theorem VQ {K n A B:Nat}{a b:List Rat}(hn:4≤n) (hK:dB K) (ha:dn (A+1) a) (hb:dn (B+1) b) (h:A+1+(B+1)≤134217000) (la:a.length≤bh) (lb:b.length≤bh) :
  aw T K n (S "qadd") [.af (ql a),.af (ql b)]=some (ql (iA a b),[.af (ql a),.af (ql b)]):=by
 apply nS hn;intro m hn
 have nu:max a.length b.length≤bh:=nO.mpr ⟨la,lb⟩
 have h0:ex (λg us=>aw T K m g us) [] [] K (ay (av 36).body [0]) [(S "a",.af (ql a)),(S "b",.af (ql b))]=some (.bU [(S "a",.af (ql a)),(S "b",.af (ql b)),(S "size",.af (.int (max a.length b.length:Nat)))]):=by
  show ex _ [] [] K (.Assign [_] _ _) _=_
  simp[md,BQ,Lq,z7,rF,gR,j',eK,fy,gG,gn,Yx,Vv,S,a5,cT,jo,tL,jI,cy,ql,la,lb]
  all_goals (split<;>lia)
 have h1:ex (λg us=>aw T K m g us) [] [] K (ay (av 36).body [1]) [(S "a",.af (ql a)),(S "b",.af (ql b)),(S "size",.af (.int (max a.length b.length:Nat)))]=some (.ret (ql (iA a b)) [(S "a",.af (ql a)),(S "b",.af (ql b)),(S "size",.af (.int (max a.length b.length:Nat)))]):=by
  show ex _ [] [] K (.Return (some (.Call _ [.ListComp _ (⟨_,_,_,_⟩::_) _ _] _ _)) _) _=_
  have hq:=@Ju K m ((az (max a.length b.length)).map λi=>co a i+co b i) (by exact oN _ hn) (by simpa using nu) (by
   have:bh<2^21:=by decide
   unfold dB at hK;simp;exact rl 0x7205f220286a4000000027c880a1a81240000000000000000203 rfl _ _ _ hK nu)
  have hr:=λi:Nat=>@Bq K m (A+1) (B+1) (co a i) (co b i) (by exact pd _ hn) hK (xt ha i) (xt hb i) h
  have DI:-(bh:Int)≤((max a.length b.length:Nat):Int)∧((max a.length b.length:Nat):Int)≤bh:=rl 0x3f1580000000487c880a230f91014716000000011a9000000009f2202802 rfl _ _ nu
  generalize hM:max a.length b.length=Mx at *
  simp only[S] at hq hr
  have hc:ev (λg us=>aw T K m g us) (fB (b8 (ay (av 36).body [1])) 0) [(ae "a",.af (ql a)),(ae "b",.af (ql b)),(ae "size",.af (.int Mx))]=some (.af (ql ((az Mx).map λi=>co a i+co b i))):=by
   show ev _ (.ListComp _ (⟨.Name _ _,.Call (.Name _ _) [_] [] _,_,_⟩::[]) _ _) _=_
   simp only[gR,j',uA,nv,ny,yJ,Dj,gn,String.reduceEq,if_true,if_false,ao,DI,and_self,xK]
   rw[xu (λi:Nat=>DV.int (i:Int)) (λi=>qv (co a i+co b i)) (l:=az Mx)]
   ·simp[gn,nu,ql]
   ·intro i hi
    have uf:=hr i
    have hel:ev (λg us=>aw T K m g us) (jG (fB (b8 (ay (av 36).body [1])) 0) [0]) [(ae "at",.af (.int i)),(ae "a",.af (ql a)),(ae "b",.af (ql b))]=some (.af (qv (co a i+co b i))):=by
     by_cases h1:i<a.length<;>by_cases h2:i<b.length<;>(first | rw[mc h1] at uf ⊢ | rw[mJ h1] at uf ⊢)<;>(first | rw[mc h2] at uf ⊢ | rw[mJ h2] at uf ⊢)<;>(try have i1:=kM la h1)<;>(try have i2:=kM lb h2)<;>(try have g1:=aB h1)<;>(try have g2:=aB h2) <;>
      (first
       | exact qe λq=>q rfl rfl (iH (by(simp;exact qR _ la))) (ct (by(rw[ag];exact vL _ _ h1))) rfl rfl (i8 (qU i1) (sF g1)) rfl rfl (iH (by(simp;exact qR _ lb))) (ct (by(rw[ag];exact vL _ _ h2))) rfl rfl (i8 (qU i2) (sF g2)) uf
       | exact qe λq=>q rfl rfl (iH (by(simp;exact qR _ la))) (ct (by(rw[ag];exact vL _ _ h1))) rfl rfl (i8 (qU i1) (sF g1)) rfl rfl (iH (by(simp;exact qR _ lb))) (cf (by(rw[ag];exact AZ _ _ h2))) rfl uf
       | exact qe λq=>q rfl rfl (iH (by(simp;exact qR _ la))) (cf (by(rw[ag];exact AZ _ _ h1))) rfl rfl rfl (iH (by(simp;exact qR _ lb))) (ct (by(rw[ag];exact vL _ _ h2))) rfl rfl (i8 (qU i2) (sF g2)) uf
       | (exfalso;exact rl 0x3e3bb903406ee40901721017a3e440d0204 rfl _ _ _ _ hM (bY.mp hi:i<Mx) h1 h2))
    exact a7 (b:=(ev (λg us=>aw T K m g us) (jG (fB (b8 (ay (av 36).body [1])) 0) [0]) [(ae "at",.af (.int i)),(ae "a",.af (ql a)),(ae "b",.af (ql b))]).bind λt=>t.lf.bind λd=>some [d]) (by kernel_rfl) (by rw[hel];rfl)
  show ex _ [] [] K (.Return (some (.Call _ [fB (b8 (ay (av 36).body [1])) 0] [] _)) _) _=_
  simp only[uI,rF,j',eK,fy,S,hc]
  simp[cT,a5,gA,gN,cy,hq,iA,hM]
 refine eR SK Sp U4 SX rfl rfl ?_
 exact(ak ((by rfl:(av 36).body=[ay (av 36).body [0],ay (av 36).body [1]])))▸(⟨_,cV h0 (fZ (ss:=[]) h1)⟩)
end
section
theorem xl {A:Nat}{q:Rat}(h:sz A q):sz A (-q):=⟨by unfold b6;rw[MA,Ax];exact h.1,h.2⟩
theorem Jp {A:Nat}{l:List Rat}(h:dn A l):dn A (l.map λq=>-q):=λq hq=>by
 obtain⟨x,hx,rfl⟩:=aE.mp hq
 exact xl (h x hx)
theorem SP:T (S "qsub")=some (av 38):=by kernel_rfl
theorem Su:(av 38).params=[S "a",S "b"]:=by kernel_rfl
theorem U7:(av 38).PN=[]:=by kernel_rfl
theorem S1:(av 38).M=[]:=by kernel_rfl
theorem OK {K n A B:Nat}{a b:List Rat}(hn:5≤n) (hK:dB K) (ha:dn (A+1) a) (hb:dn (B+1) b) (h:A+1+(B+1)≤134217000) (la:a.length≤bh) (lb:b.length≤bh) :
  aw T K n (S "qsub") [.af (ql a),.af (ql b)]=some (ql (iA a (b.map λq=>-q)),[.af (ql a),.af (ql b)]):=by
 apply nS hn;intro m hn
 have hr:=@VQ K m A B a (b.map λq=>-q) (by exact AY _ hn) hK ha (Jp hb) h la (by simpa using lb)
 have hg:=@VS K m b (by exact HT _ hn) lb
 have LV:(av 38).body=[ay (av 38).body [0]]:=by rfl
 have h0:ex (λg us=>aw T K m g us) [] [] K (ay (av 38).body [0]) [(S "a",.af (ql a)),(S "b",.af (ql b))]=some (.ret (ql (iA a (b.map λq=>-q))) [(S "a",.af (ql a)),(S "b",.af (ql b))]):=by
  exact qx λq=>q true rfl rfl hg hr
 refine eR SP Su U7 S1 rfl rfl ?_
 rw[LV]
 exact⟨_,fZ (ss:=[]) h0⟩
end
section
noncomputable def b9 (l:List Rat) (r:Rat):List Rat:=if r=0 then [] else l.map λq=>q*r
noncomputable def Lp:Expr→Expr
 | .IfExp _ b _ _=>b
 | _=>.Tuple [] 0 default
theorem Xw:T (S "qscale")=some (av 39):=by kernel_rfl
theorem Xn:(av 39).params=[S "p",S "r"]:=by kernel_rfl
theorem YK:(av 39).PN=[]:=by kernel_rfl
theorem Xe:(av 39).M=[]:=by kernel_rfl
theorem JT {K n A B:Nat}{l:List Rat}{r:Rat}(hn:4≤n) (hK:dB K) (ha:dn A l) (hr:sz B r) (h:A+B≤134217000) (la:l.length≤bh) :
  aw T K n (S "qscale") [.af (ql l),.af (qv r)]=some (ql (b9 l r),[.af (ql l),.af (qv r)]):=by
 apply nS hn;intro m hn
 have hc:ev (λg us=>aw T K m g us) (Lp (b8 (ay (av 39).body [0]))) [(ae "p",.af (ql l)),(ae "r",.af (qv r))]=some (.af (ql (l.map λq=>q*r))):=by
  show ev _ (.ListComp _ (⟨.Name _ _,.Name _ _,_,_⟩::[]) _ _) _=_
  simp only[j',uA,nv,ny,vo,gn,String.reduceEq,if_true,if_false,ao,vp,ql]
  rw[xu qv (λq=>qv (q*r)) (l:=l)]
  ·simp[gn,la]
  ·intro q hq
   have uf:=(λq (hq:sz A q)=>@zS K m A B q r hK hq hr h (by exact pd _ hn)) q (ha q hq)
   simp only[S] at uf
   simp[cW,iS,seen,jD,jl,mf,cy,ao,aD,aS,bj,gn,cT,pS,eK,fy,gR,gA,gN,a5,uf]
 have h0:ex (λg us=>aw T K m g us) [] [] K (ay (av 39).body [0]) [(S "p",.af (ql l)),(S "r",.af (qv r))]=some (.ret (ql (b9 l r)) [(S "p",.af (ql l)),(S "r",.af (qv r))]):=by
  show ex _ [] [] K (.Return (some (.IfExp _ (Lp (b8 (ay (av 39).body [0]))) _ _)) _) _=_
  simp only[uI,rF,xg,pZ,S,hc]
  by_cases hz:r=0
  ·simp[zC,eK,oP,gR,NO,gn,cy,pF,qv,IA,yP,Ej,hz,b9,gA,ql]
  ·simp[zC,eK,oP,gR,NO,gn,cy,pF,qv,IA,yP,Ej,hz,b9,gA,ql]
 refine eR Xw Xn YK Xe rfl rfl ?_
 exact(ak ((by rfl:(av 39).body=[ay (av 39).body [0]])))▸(⟨_,fZ (ss:=[]) h0⟩)
end
section
noncomputable def eS (l:List Rat) (k:Nat):List Rat:=if l=[] then [] else ax k 0++l
theorem Xv:T (S "qraise")=some (av 40):=by kernel_rfl
theorem Xm:(av 40).params=[S "p",S "many"]:=by kernel_rfl
theorem YJ:(av 40).PN=[]:=by kernel_rfl
theorem Xd:(av 40).M=[]:=by kernel_rfl
theorem YW {K n:Nat}{l:List Rat}{k:Nat}(hn:1≤n) (hk:k≤256) (la:l.length≤1000) :
  aw T K n (S "qraise") [.af (ql l),.af (.int k)]=some (ql (eS l k),[.af (ql l),.af (.int k)]):=by
 apply nS hn;intro m hn
 have h0:ex (λg us=>aw T K m g us) [] [] K (ay (av 40).body [0]) [(S "p",.af (ql l)),(S "many",.af (.int k))]=some (.ret (ql (eS l k)) [(S "p",.af (ql l)),(S "many",.af (.int k))]):=by
  cases l with
  | nil=>exact qx λq=>q true rfl (iH (by decide)) (cf (by decide))
  | cons x l=>
   have c1:(l.length+1:Nat)≤bh:=by simp only[aF] at la;exact rl 0x352000000011890a1a9014e16242801 rfl _ la
   have c2:k+(l.length+1)≤bh:=by simp only[aF] at la;exact rl 0xd4800000004631214050d480a70b121405a90008802 rfl _ _ hk la
   have c3:(k:Int)≤1000:=rl 0x22b014e1821a90008801 rfl _ hk
   have c4:(1:Nat)≤bh:=by decide
   exact qx λq=>a7 (q true rfl (iH (by(simp;exact Nq _ c1))) (ct (by simp)) rfl rfl (vW rfl hk) rfl (zy (by(simp;exact Nq _ c1))) (Ga (by(simp;exact rl 0x6a40000000231890a0286a40000000231890a02802 rfl _ _ c2)))) (by simp[QO.out,cR,eS,ql,qv])
 refine eR Xv Xm YJ Xd rfl rfl ?_
 rw[(by rfl:(av 40).body=[ay (av 40).body [0]])]
 exact⟨_,fZ (ss:=[]) h0⟩
end
section
theorem EU:T (S "cut")=some (av 46):=by kernel_rfl
theorem E6:(av 46).params=[S "a",S "order"]:=by kernel_rfl
theorem Td:(av 46).PN=[]:=by kernel_rfl
theorem Fb:(av 46).M=[]:=by kernel_rfl
theorem TZ {K n:Nat}{l:List Rat}(hn:1≤n) (la:l.length≤bh) :
  aw T K n (S "cut") [.af (ql l),.af (.int l.length)]=some (ql l,[.af (ql l),.af (.int l.length)]):=by
 apply nS hn;intro m hn
 have LV:(av 46).body=[ay (av 46).body [0]]:=by rfl
 have h0:ex (λg us=>aw T K m g us) [] [] K (ay (av 46).body [0]) [(S "a",.af (ql l)),(S "order",.af (.int l.length))]=some (.ret (ql l) [(S "a",.af (ql l)),(S "order",.af (.int l.length))]):=by
  have e1:=Bu (aL l.length)
  have e2:Sn l.length (l.map qv)=l.map qv:=cX (by simp)
  have c4:(1:Nat)≤bh:=by decide
  have es:m7 (l.map qv) none (some (l.length:Int)) none=some (l.map qv):=by simp[nZ,Gk,e1,e2,la]
  have bz:=vW (d:=.tup [.int 0,.int 1]) (k:=(l.length:Int)-((l.map qv).length:Int)) (n:=0) (by simp) (by decide)
  exact qx λq=>a7 (q true true rfl rfl es (zy (by(simp;exact qR _ la))) rfl rfl rfl (iH (by(simp;exact qR _ la))) bz (Ga (by(simp;exact qR _ la)))) (by simp only[QO.out,cR,ql,ax,bS])
 refine eR EU E6 Td Fb rfl rfl ?_
 rw[LV]
 exact⟨_,fZ (ss:=[]) h0⟩
end
section
theorem y8C:T (S "rcompare")=some (av 18):=by kernel_rfl
theorem y8G:(av 18).params=[S "a",S "b"]:=by kernel_rfl
theorem y7m:(av 18).PN=[]:=by kernel_rfl
theorem y8Q:(av 18).M=[]:=by kernel_rfl
noncomputable def sS (p q:Rat):Int:=if p.num*q.den-q.num*p.den>0 then 1 else if p.num*q.den-q.num*p.den<0 then -1 else 0
theorem QM {K n A B:Nat}{p q:Rat}(hn:1≤n) (hp:sz A p) (hq:sz B q) (h:A+B≤134217000):aw T K n (S "rcompare") [.af (qv p),.af (qv q)]=some (.int (sS p q),[.af (qv p),.af (qv q)]):=by
 apply nS hn;intro m hn
 have m1:=gT hp.1 (j7 hq) h
 have m2:=gT hq.1 (j7 hp) (by exact HV _ _ h)
 have h0:ex (λg us=>aw T K m g us) [] [] K (ay (av 18).body [0]) [(S "a",.af (qv p)),(S "b",.af (qv q))]=some (.bU [(S "a",.af (qv p)),(S "b",.af (qv q)),(S "off",.af (.int (p.num*q.den-q.num*p.den)))]):=by
  exact qx λq=>q true rfl rfl rfl rfl (fY m1) rfl rfl rfl rfl (fY m2)
 have h1:∀ x:Int,ex (λg us=>aw T K m g us) [] [] K (ay (av 18).body [1]) [(S "a",.af (qv p)),(S "b",.af (qv q)),(S "off",.af (.int x))]=some (.ret (.int (if x>0 then 1 else if x<0 then -1 else 0)) [(S "a",.af (qv p)),(S "b",.af (qv q)),(S "off",.af (.int x))]):=by
  intro x
  rcases vG x 0 with h | h | h
  ·have:¬ (0<x):=by exact rl 0x5e4a5c96a10 rfl _ h
   exact qx λq=>a7 (q true rfl (cf this) rfl (ct h) rfl) (by simp[QO.out,cR,b2i,h,this])
  ·subst h
   exact qx λq=>q true rfl (cf (by decide)) rfl (cf (by decide)) rfl
  ·have:¬ (x<0):=by exact rl 0x5e4b5494b10 rfl _ h
   exact qx λq=>a7 (q true rfl (ct h) rfl (cf this) rfl) (by simp[QO.out,cR,b2i,h])
 refine eR y8C y8G y7m y8Q rfl rfl ?_
 exact(ak ((by rfl:(av 18).body=[ay (av 18).body [0],ay (av 18).body [1]])))▸(⟨_,cV h0 (fZ (ss:=[]) (h1 _))⟩)
end
section
theorem jO:(∀ {α β:Type}(a:α) (f:α→Option β),(some a).bind f=f a)∧(∀ {α β:Type}(a:α) (f:α→β),(some a).map f=some (f a))∧(∀ {α β:Type}(f:α→Option β),(none:Option α).bind f=none)∧(∀ {α β:Type}(f:α→β),(none:Option α).map f=none) ∧
  (∀ {α:Type}{h:Decidable True}(t e:α),@ite α True h t e=t)∧(∀ {α:Type}{h:Decidable False}(t e:α),@ite α False h t e=e)∧(∀ {α:Type}{a b:α}{l:List α},(a∈b::l)=(a=b∨a∈l))∧(∀ {α:Type}{a:α},(a∈([]:List α))=False) ∧
  (∀ p:Prop,(p∨p)=p)∧(∀ p:Prop,(p∨False)=p)∧(∀ p:Prop,(False∨p)=p)∧(∀ p:Prop,(p∨True)=True)∧(∀ p:Prop,(True∨p)=True)∧(∀ p:Prop,(p∧p)=p)∧(∀ p:Prop,(p∧True)=p)∧(∀ p:Prop,(True∧p)=p)∧((¬ True)=False)∧((¬ False)=True) ∧
  (∀ b:Bool,(false&&b)=false)∧(∀ b:Bool,(b&&false)=false)∧(∀ b:Bool,(true&&b)=b)∧(∀ b:Bool,(b&&true)=b)∧((false=true)=False)∧(∀ a:Nat,(a != a)=false)∧(∀ {α:Type}(a:α),(none:Option α).getD a=a)∧(∀ {α:Type}(a b:α),(some a).getD b=a) ∧
  (∀ {α β:Type}(f:α→β) (a:α) (l:List α),(a::l).map f=f a::l.map f)∧(∀ {α β:Type}(f:α→β),([]:List α).map f=[])∧(∀ {β:Type}(x:Str),aj x ([]:List (Str×β))=none):=by
 refine⟨λZ Z=>rfl,λZ Z=>rfl,λZ=>rfl,λZ=>rfl,λZ Z=>if_pos trivial,λZ Z=>if_neg id,propext aC,propext ⟨(λh=>by cases h),False.elim⟩,λZ=>or_self _,λZ=>or_false _,λZ=>false_or _,λZ=>or_true _,λZ=>true_or _,λZ=>and_self _,λZ=>and_true _,λZ=>true_and _,not_true_eq_false,not_false_eq_true,
  λZ=>rfl,λb=>y' b,λb=>ij b,λb=>AD b,cg,λa=>by simp,λZ=>rfl,λZ Z=>rfl,λZ Z Z=>rfl,λZ=>rfl,λZ=>rfl⟩
theorem rn {x y:String}{t:Nat}{ρ:List (Str×Nat)}:aj (ae x) ((ae y,t)::ρ)=if x=y then some t else aj (ae x) ρ:=by
 by_cases h:x=y
 ·subst h;rw[if_pos rfl,aQ];simp
 ·rw[if_neg h,aQ]
  have:(ae x==ae y)=false:=beq_eq_false_iff_ne.mpr λq=>h (cT.mp q)
  exact(ak this)▸rfl
theorem II (a b:Int):jy .Lt (.int a) (.int b)=some (decide (a<b)):=rfl
theorem IG (a b:Int):jy .Gt (.int a) (.int b)=some (decide (b<a)):=rfl
theorem TV (a b:Int):jy .GtE (.int a) (.int b)=some (decide (b≤a)):=rfl
theorem UP (a b:Int):jy .Eq (.int a) (.int b)=some (decide (a=b)):=rfl
theorem I8 (a b:Int):jy .NotEq (.int a) (.int b)=some (!decide (a=b)):=rfl
noncomputable abbrev lk (ρ:au) (x:String):Option OT:=aj (ae x) ρ
theorem fF {x y:String}{t:OT}{ρ:au}:aj (ae y) (put (ae x) t ρ)=if y=x then some t else aj (ae y) ρ:=by
 rw[vZ]
 simp only[cT]
theorem sI {bd:DV→au→Option au}{b:au→Option Out}(R:Nat→au→Prop):∀ (l:List DV) (i:Nat) (ρ:au),R i ρ →
  (∀ j (h:j<l.length) ρ,R (i+j) ρ→∃ ρ',R (i+j+1) ρ'∧((bd l[j] ρ).bind b=some (.bU ρ')∨(bd l[j] ρ).bind b=some (.cnt ρ'))) →
  ∃ ρ',R (i+l.length) ρ'∧fN bd b l ρ=some (.bU ρ')
 | [],i,ρ,h0,_=>⟨ρ,h0,rfl⟩
 | d::ds,i,ρ,h0,hs=>by
  refine aT (hs 0 (by simp) ρ h0) λρ₁ h1 h2=>?_
  have ih:=sI R ds (i+1) ρ₁ h1 λj h ρ' r=>by
   have:=hs (j+1) (by simpa using h) ρ' (by exact(ak (show i+(j+1)=i+1+j by exact HR _ _))▸r)
   exact((show i+(j+1)+1=i+1+j+1 by exact rl 0xf6242c405890a1890b1890a02802 rfl _ _)▸this)
  refine aT ih λρ' h3 h4=>?_;clear ih
  refine⟨ρ',by rw[aF,show i+(ds.length+1)=i+1+ds.length by exact HR _ _];exact h3,?_⟩
  rw[zT]
  change (bd d ρ).bind b=_∨(bd d ρ).bind b=_ at h2
  cases hb:bd d ρ with
  | none=>rw[hb] at h2;rcases h2 with q | q<;>cases q
  | some ρ₂=>
   rw[hb] at h2
   simp only[ao] at h2 ⊢
   refine h2.elim (λq=>?_) λq=>?_<;>refine(ak q)▸?_<;>exact h4
theorem Zx {α σ:Type}(inj:α→DV) (R:σ→au→Prop) (step:σ→α→σ){bd:DV→au→Option au}{b:au→Option Out} :
  ∀ (l:List α) (s:σ) (ρ:au),R s ρ→(∀ s a ρ,a∈l→R s ρ→∃ ρ',R (step s a) ρ'∧((bd (inj a) ρ).bind b=some (.bU ρ')∨(bd (inj a) ρ).bind b=some (.cnt ρ'))) →
  ∃ ρ',R (l.foldl step s) ρ'∧fN bd b (l.map inj) ρ=some (.bU ρ')
 | [],s,ρ,h0,_=>⟨ρ,h0,rfl⟩
 | a::l,s,ρ,h0,hs=>by
  refine aT (hs s a ρ (.head _) h0) λρ₁ h1 h2=>?_
  refine aT (Zx inj R step l (step s a) ρ₁ h1 λs' a' ρ' h'=>hs s' a' ρ' (.tail _ h')) λρ' h3 h4=>?_
  refine⟨ρ',h3,?_⟩
  rw[a8,zT]
  cases hb:bd (inj a) ρ with
  | none=>rw[hb] at h2;rcases h2 with q | q<;>cases q
  | some ρ₂=>
   rw[hb] at h2
   simp only[ao] at h2 ⊢
   refine h2.elim (λq=>?_) λq=>?_<;>refine(ak q)▸?_<;>exact h4
theorem Zy {α:Type}(R:α→au→Prop) (m:α→Nat) (go:α→Bool) (nx:α→α){t:au→Option Bool}{b:au→Option Out}
  (ht:∀ a ρ,R a ρ→t ρ=some (go a)) (hb:∀ a ρ,R a ρ→go a=true→∃ ρ',b ρ=some (.bU ρ')∧R (nx a) ρ'∧m (nx a)<m a) :
  ∀ (n:Nat) a ρ,R a ρ→m a<n→∃ a' ρ',R a' ρ'∧go a'=false∧eT t b n ρ=some (.bU ρ')
 | 0,a,ρ,_,h=>by lia
 | n+1,a,ρ,r,h=>by
  rw[xx]
  refine(ak (ht a ρ r))▸?_
  cases hg:go a with
  | false=>exact⟨a,ρ,r,hg,by simp⟩
  | true=>
   refine iw (hb a ρ r hg) λρ₁ h1 h2 h3=>?_
   simp only[ao,if_true,h1]
   exact Zy R m go nx ht hb n (nx a) ρ₁ h2 (by exact FG _ _ _ h h3)
theorem Zz {α:Type}(R:α→au→Prop){t:au→Option Bool}{b:au→Option Out}(go:α→Bool) (nx:α→Option α) (P:α→Prop)
  (ht:∀ a ρ,P a→R a ρ→t ρ=some (go a)) (hb:∀ a ρ a',P a→R a ρ→go a=true→nx a=some a'→P a'∧∃ ρ',b ρ=some (.bU ρ')∧R a' ρ') :
  ∀ (F:Nat) (n:Nat) (a z:α) (ρ:au),F≤n→P a→R a ρ→(Nat.rec (motive:=λZ=>α→Option α) (λZ=>none) (λZ ih a=>if go a then (nx a).bind ih else some a) F) a=some z→∃ ρ',P z∧R z ρ'∧go z=false∧eT t b n ρ=some (.bU ρ')
 | 0,n,a,z,ρ,_,_,_,h=>by cases h
 | F+1,0,a,z,ρ,hF,_,_,h=>by lia
 | F+1,n+1,a,z,ρ,hF,p,r,h=>by
  rw[xx]
  refine(ak (ht a ρ p r))▸?_
  dsimp only at h
  cases hg:go a with
  | false=>have h:=hg▸h;cases h;exact⟨ρ,p,r,hg,by simp⟩
  | true=>
   have h:=(if_pos rfl)▸hg▸h
   cases hn:nx a with
   | none=>have h:=hn▸h;cases h
   | some a'=>
    have h:=hn▸h
    refine nG (hb a ρ a' p r hg hn) λp' ρ₁ h1 h2=>?_
    simp only[ao,if_true,h1]
    exact Zz R go nx P ht hb F n a' z ρ₁ (by exact AX _ _ hF) p' h2 h
noncomputable def qh (l:List Rat) (r:Rat):Rat:=l.reverse.foldl (λf q=>f*r+q) 0
noncomputable def dH:Stmt→Expr
 | .For t _ _ _ _=>t
 | _=>.Tuple [] 0 default
end
section
theorem rR {A B:Nat}{p q:Rat}(hp:sz A p) (hq:sz B q):sz (A+B+1) (p+q):=by
 have e:aI (p.num*q.den+q.num*p.den) (p.den*q.den)=p+q:=by
  rw[←rJ _ _ (iC p) (iC q),bq,bq]
 rw[←e]
 refine xw (aG (iC p) (iC q)) (UM (jP hp.1 (j7 hq)) ?_) (i9 (by exact rl 0x6b121620286202802 rfl _ _) (jP (j7 hp) (j7 hq)))
 rw[Nat.add_comm]
 exact jP hq.1 (j7 hp)
theorem Un {A B:Nat}{p q:Rat}(hp:sz A p) (hq:sz B q):sz (A+B+1) (p-q):=by
 rw[Rat.sub_eq_add_neg]
 exact rR hp (xl hq)
theorem qc {A B:Nat}{p q:Rat}(hp:sz A p) (hq:sz B q):sz (A+B) (p*q):=by
 have e:aI (p.num*q.num) (p.den*q.den)=p*q:=by
  rw[←jz,bq,bq]
 rw[←e]
 exact xw (aG (iC p) (iC q)) (jP hp.1 hq.1) (jP (j7 hp) (j7 hq))
theorem I2 {A:Nat}{p:Rat}(hp:sz A p) (h0:p≠0):sz A p⁻¹:=by
 have e:aI p.den p.num=p⁻¹:=by
  rw[←nM,bq]
 exact e▸(xw (λh=>h0 (jr.mp h):p.num≠0) (j7 hp) hp.1)
theorem Bh {A B:Nat}{p q:Rat}(hp:sz A p) (hq:sz B q) (h0:q≠0):sz (A+B) (p/q):=by
 rw[MD]
 exact qc hp (I2 hq h0)
theorem uE (A:Nat):sz (A+1) 1:=⟨by show(1:Int).natAbs<2^(A+1);exact kG (by exact rl 0x5de96242801 rfl _),by show 1<2^(A+1);exact kG (by exact rl 0x5de96242801 rfl _)⟩
theorem lY {A B:Nat}{l:List Rat}(h:A≤B) (hl:dn A l):dn B l:=λq hq=>kz h (hl q hq)
theorem ER:T (S "qat")=some (av 43):=by kernel_rfl
theorem E3:(av 43).params=[S "p",S "r"]:=by kernel_rfl
theorem Tg:(av 43).PN=[]:=by kernel_rfl
theorem E7:(av 43).M=[]:=by kernel_rfl
theorem N' {K n D:Nat}{l:List Rat}(hn:4≤n) (hK:dB K) (hl:dn D l) (h:l.length*(D+2)+2*D+4≤134217000) (la:l.length≤bh) :
  aw T K n (S "qat") [.af (ql l),.af (qv 1)]=some (qv (qh l 1),[.af (ql l),.af (qv 1)]):=by
 apply nS hn;intro m hn
 refine eR ER E3 Tg E7 rfl rfl ?_
 have L:=sI (bd:=bp (dH (ay (av 43).body [1]))) (b:=λρ'=>cA (λg us=>aw T K m g us) [] [] K (bG (ay (av 43).body [1])) ρ')
  (λi ρ=>lk ρ "r"=some (.af (qv 1))∧lk ρ "found"=some (.af (qv ((l.reverse.take i).foldl (λf q=>f*1+q) 0)))∧sz ((i+1)*(D+2)) ((l.reverse.take i).foldl (λf q=>f*1+q) 0))
  (l.reverse.map qv) 0 (put (ae "found") (.af (qv 0)) [(S "p",.af (ql l)),(S "r",.af (qv 1))])
  ⟨by exact(ln rfl rfl),by exact lq,kz (by exact rl 0xdc05891212101 rfl _) (rV 0)⟩ (by
   intro j hj ρ ⟨h2,h3,h4⟩
   rw[aX] at h3 h4 ⊢
   have kE:j<l.reverse.length:=by simpa using hj
   have e:(l.reverse.take (j+1)).foldl (λf q=>f*1+q) 0=(l.reverse.take j).foldl (λf q=>f*1+q) 0*1+l.reverse[j]:=by
    rw[List.take_succ_eq_append_getElem kE,cQ];rfl
   refine(ak e)▸?_
   have hq:sz D l.reverse[j]:=hl _ (vB.mp (vD kE))
   generalize (l.reverse.take j).foldl (λf q=>f*1+q) 0=f at *
   have h1:=@zS K m ((j+1)*(D+2)) 1 f 1 hK h4 (uE 0) (by exact rl 0xd480a431ce739d890a04d405026a405218e739cec491981210103 rfl _ _ _ h (aZ _ (by simpa using kE:j<l.length):(j+1)*(D+2)≤l.length*(D+2))) (by exact pd _ hn)
   have Ah:=@Bq K m ((j+1)*(D+2)) D (f*1) l.reverse[j] (by exact pd _ hn) hK (by rw[MB];exact h4) hq (by exact rl 0x6a405218e739cec409016a1016a405218e739cec491981204803 rfl _ _ _ h (aZ _ (by simpa using kE:j<l.length):(j+1)*(D+2)≤l.length*(D+2)))
   rw[bF]
   generalize l.reverse[j]=q at *
   refine⟨put (ae "found") (.af (qv (f*1+q))) (put (ae "number") (.af (qv q)) ρ),⟨by simpa [lk,fF] using h2,by exact lq,by have b3:=(λa b=>eG a b:∀ a b:Nat,(a+1)*b=a*b+b) (j+1) (D+2);have b4:sz ((j+1)*(D+2)) (f*1):=by { rw[MB];exact h4 };exact kz (by lia) (rR b4 hq)⟩,.inl ?_⟩
   simp only[S,lk] at h1 Ah h2 h3
   exact oV λq=>q true h3 h2 h1 Ah)
 obtain⟨ρ',⟨h2,h3,h4⟩,h5⟩:=L
 refine⟨ρ',cV (ρ':=put (ae "found") (.af (qv 0)) [(S "p",.af (ql l)),(S "r",.af (qv 1))]) ?_ (cV (ρ':=ρ') ?_ (fZ ?_))⟩
 ·exact qx λq=>q true rfl
 ·exact h5▸(vO (qi λq=>a7 (q (ln rfl rfl) (by(simp;exact qR _ la))) (by simp only[eE])))
 ·have e:Sn (0+(List.map qv l.reverse).length) l.reverse=l.reverse:=cX (by simp)
  rw[e] at h3
  simp only[lk] at h3
  exact qx λq=>q true h3
end
section
theorem Cu (n:Nat) (e:Int) (h:e=(n:Int)+1):ke 1 e=(az n).map λ(i:Nat)=>DV.int (1+(i:Int)):=by
 subst h
 unfold ke
 exact(ak (show((n:Int)+1-1).toNat=n by exact rl 0x3d1eaac345860801 rfl _))▸rfl
theorem lX {A:Nat}{l:List Rat}(h:dn A l){i:Nat}(hi:i<l.length):sz A (co l i):=by
 exact(ak (mc hi))▸(h _ (vD hi))
theorem Ba {l:List Rat}{i:Nat}{k:Int}(hl:l.length≤bh) (hi:i<l.length) (hk:k=(i:Int)):iJ (.af (ql l)) (.af (.int k))=some (.af (qv (co l i))):=by
 subst hk
 simp only[ro,ql,ag,kM hl hi,ao,aU,aB hi,aD,mc hi]
noncomputable def tH (row:List Rat) (n:Nat) (p:List Rat):Nat→Rat
 | 0=>co row n
 | j+1=>tH row n p j+co p (j+1)*co row (n-(j+1))
theorem Eo {row:List Rat}{n:Nat}{p:List Rat}:tH row n p 0=(co row n):=rfl
theorem En {row:List Rat}{n:Nat}{p:List Rat}:∀ j,tH row n p (j+1)=(tH row n p j+co p (j+1)*co row (n-(j+1))):=λ_=>rfl
theorem IU {A R n:Nat}{row p:List Rat}(hr:dn R row) (hp:dn A p) (hn:n<row.length):∀ j,j≤min n (p.length-1)→sz (R+j*(A+R+1)) (tH row n p j)
 | 0,_=>by simpa [Eo] using lX hr hn
 | j+1,h=>by
  rw[eG]
  exact kz (by exact rl 0xd631890b108120286242c621026202803 rfl _ _ _) (rR (IU hr hp hn j (by exact rl 0xdf96c90a0480a1bf2d921409016242803 rfl _ _ _ h)) (qc (lX hp (i:=j+1) (by exact rl 0x1c813121405bf2d9214090c4850103 rfl _ _ _ h)) (lX hr (i:=n-(j+1)) (by exact FC _ _ _ hn))))
theorem y5v:T (S "discrepancy")=some (av 55):=by kernel_rfl
theorem y5z:(av 55).params=[S "row",S "n",S "polynomial"]:=by kernel_rfl
theorem y4q:(av 55).PN=[]:=by kernel_rfl
theorem y5G:(av 55).M=[]:=by kernel_rfl
theorem y4f {K n A R j:Nat}{row p:List Rat}(hn:4≤n) (hK:dB K) (hr:dn R row) (hp:dn A p) (hj:j<row.length) (h:R+j*(A+R+1)+A+R≤134217000) (lr:row.length≤bh) (lp:p.length≤bh) (p0:0<p.length) :
  aw T K n (S "discrepancy") [.af (ql row),.af (.int j),.af (ql p)]=some (qv (tH row j p (min j (p.length-1))),[.af (ql row),.af (.int j),.af (ql p)]):=by
 apply nS hn;intro m hn
 refine eR y5v y5z y4q y5G rfl rfl ?_
 have L:=sI (bd:=bp (dH (ay (av 55).body [1]))) (b:=λρ'=>cA (λg us=>aw T K m g us) [] [] K (bG (ay (av 55).body [1])) ρ')
  (λi ρ=>lk ρ "row"=some (.af (ql row))∧lk ρ "n"=some (.af (.int j))∧lk ρ "polynomial"=some (.af (ql p))∧lk ρ "found"=some (.af (qv (tH row j p i))))
  ((az (min j (p.length-1))).map λ(i:Nat)=>DV.int (1+(i:Int))) 0 (put (ae "found") (.af (qv (co row j))) [(S "row",.af (ql row)),(S "n",.af (.int j)),(S "polynomial",.af (ql p))])
  ⟨by exact(ln rfl rfl),by exact(ln rfl rfl),by exact(ln rfl rfl),by exact lq⟩ (by
   intro i hi ρ ⟨h1,h2,h3,h4⟩
   simp only[ag,cC] at hi
   rw[aX] at h4 ⊢
   have c1:=@zS K m _ _ _ _ hK (lX hp (i:=i+1) (by exact HQ _ _ _ hi)) (lX hr (i:=j-(i+1)) (by exact FC _ _ _ hj)) (by exact rl 0xd480a431ce739d880a04d480a431ce739d880b1026210103 rfl _ _ _ h) (by exact pd _ hn)
   have c2:=@Bq K m _ _ _ _ (by exact pd _ hn) hK (IU hr hp hj i (by exact rl 0x1bf2d9214090143be5b24281202803 (by kernel_rfl) _ _ _ hi)) (qc (lX hp (i:=i+1) (by exact HQ _ _ _ hi)) (lX hr (i:=j-(i+1)) (by exact FC _ _ _ hj))) (by exact rl 0xd480a431ce739d8c4202c4090d40d026a405218e739cec431016206804 rfl _ _ _ _ h (aZ _ (by exact rl 0x6a0480bbe5b24284090103 rfl _ _ _ hi):i*(A+R+1)≤j*(A+R+1)))
   refine⟨put (ae "found") (.af (qv (tH row j p (i+1)))) (put (ae "back") (.af (.int (1+(i:Int)))) ρ),⟨by simpa [lk,fF] using h1,by simpa [lk,fF] using h2,by simpa [lk,fF] using h3,by exact lq⟩,.inl ?_⟩
   rw[bF,dN]
   simp only[S,lk] at h1 h2 h3 h4 c1 c2
   exact oV λq=>q true h4 h3 (@Ba p (i+1) (1+(i:Int)) lp (by exact HQ _ _ _ hi) (by exact rl 0x4e0c485148216101 rfl _)) h1 h2 (@Ba row (j-(i+1)) ((j:Int)-(1+(i:Int))) lr (by exact FC _ _ _ hj) (by exact rl 0x4e166242812035a4102586080bbe5b24284050203 rfl _ _ _ hi)) c1 c2)
 obtain⟨ρ',⟨h1,h2,h3,h4⟩,h5⟩:=L
 refine⟨ρ',cV (ρ':=put (ae "found") (.af (qv (co row j))) [(S "row",.af (ql row)),(S "n",.af (.int j)),(S "polynomial",.af (ql p))]) ?_ (cV (ρ':=ρ') ?_ (fZ ?_))⟩
 ·have z:cm [S "row",S "n",S "polynomial"] [OT.af (ql row),.af (.int j),.af (ql p)]=[((ae "row"),.af (ql row)),((ae "n"),.af (.int j)),((ae "polynomial"),.af (ql p))]:=rfl
  exact(ak z)▸(qx λq=>q true rfl rfl (@Ba row j (j:Int) lr hj rfl))
 ·refine h5▸?_
  have e1:(if (p.length:Int)-1<(j:Int) then (p.length:Int)-1 else (j:Int))+1=((min j (p.length-1):Nat):Int)+1:=by split<;>lia
  exact vO (qi λq=>a7 (q (ln rfl rfl) (ln rfl rfl) (iH (by(simp;exact qR _ lp))) rfl (by lia)) (by simp only[ag,(Cu (min j (p.length-1)) _ e1),ag]))
 ·have e:0+((az (min j (p.length-1))).map λ(i:Nat)=>DV.int (1+(i:Int))).length=min j (p.length-1):=by simp
  rw[e] at h4
  simp only[lk] at h4
  exact qx λq=>q true h4
end
section
noncomputable def ow (l:List Rat):OT:=.own (l.map λq=>.af (qv q))
theorem Gh (l:List Rat):mA (l.map λq=>OT.af (qv q))=l.map qv:=by
 induction l with
 | nil=>rfl
 | cons a l ih=>exact congrArg (qv a::·) ih
theorem GF (l:List Rat):gM (l.map λq=>OT.af (qv q))=true:=by
 induction l with
 | nil=>rfl
 | cons a l ih=>exact ih
theorem xp:∀ (l:List DV) (i j:Nat) (h:j<(eh i l).length) (h':j<l.length),(eh i l)[j]=.tup [.int ((i+j:Nat):Int),l[j]]
 | d::l,i,0,_,_=>rfl
 | d::l,i,j+1,h,h'=>by
  simp only[Gf,List.getElem_cons_succ]
  refine(ak (xp l (i+1) j (qE h) (qE h')))▸?_
  exact(ak (show i+1+j=i+(j+1) by exact rl 0x3d8c48501431016242802 rfl _ _))▸rfl
theorem FV {l:List Rat}{i j:Nat}{x:Rat}(hi:i<l.length):co (l.set i x) j=if j=i then x else co l j:=by
 unfold co
 rw[g8]
 by_cases h:i=j
 ·subst h;simp[hi]
 ·rw[if_neg h,if_neg (λq=>h q.symm)]
theorem Cv (q:Rat):∀ n:Nat,(ax n [qv q]).flatten=(ax n q).map qv
 | 0=>rfl
 | n+1=>by refine(ak eM)▸(ak g9)▸(ak (Cv q n))▸?_;rfl
noncomputable def jb (gap:Nat) (x:Rat) (B l:List Rat):Nat→List Rat
 | 0=>l
 | j+1=>(jb gap x B l j).set (j+gap) (co (jb gap x B l j) (j+gap)-x*co B j)
theorem CT {gap:Nat}{x:Rat}{B l:List Rat}:jb gap x B l 0=(l):=rfl
theorem FR {gap:Nat}{x:Rat}{B l:List Rat}:∀ j,jb gap x B l (j+1)=((jb gap x B l j).set (j+gap) (co (jb gap x B l j) (j+gap)-x*co B j)):=λ_=>rfl
theorem xA (gap:Nat) (x:Rat) (B l:List Rat):∀ j,(jb gap x B l j).length=l.length
 | 0=>rfl
 | j+1=>by simp only[FR,bM,xA gap x B l j]
theorem xi (gap:Nat) (x:Rat) (B l:List Rat):∀ j,j+gap≤l.length→∀ i,co (jb gap x B l j) i=if gap≤i∧i<j+gap then co l i-x*co B (i-gap) else co l i
 | 0,_,i=>by rw[if_neg (by exact rl 0xbfdcc425016a02802 rfl _ _)];rfl
 | j+1,h,i=>by
  rw[FR,FV (by rw[xA];exact rl 0xe40588121a80b1026242803 rfl _ _ _ h)]
  by_cases e:i=j+gap
  ·subst e
   rw[if_pos rfl,if_pos (by exact rl 0x7dcc4312140588405ac4202802 rfl _ _),(xi gap x B l j (by exact rl 0xd40588121a80b1026242803 rfl _ _ _ h)),if_neg (by exact HP _ _),dh]
  ·rw[if_neg e,(xi gap x B l j (by exact rl 0xd40588121a80b1026242803 rfl _ _ _ h))]
   by_cases c:gap≤i∧i<j+gap
   ·rw[if_pos c,if_pos (by exact rl 0x1f7310262428405a80a05f731024202d4050203 rfl _ _ _ c)]
   ·rw[if_neg c,if_neg (by exact rl 0x5fee6204c485080b50140aff731024202d40502bbd881210103 rfl _ _ _ e c)]
theorem OA {A X B':Nat}{gap:Nat}{x:Rat}{B l:List Rat}(hx:sz X x) (hB:dn B' B) (hl:dn A l){j:Nat}(h:j+gap≤l.length) (hj:j≤B.length):dn (A+X+B'+1) (jb gap x B l j):=by
 intro q hq
 obtain⟨i,hi,rfl⟩:=j4 hq
 have e:=mc hi
 rw[xi gap x B l j h] at e
 refine e▸?_
 rw[xA] at hi
 split
 ·rename_i c
  exact kz (by exact rl 0xd6242c409880a1890b1881202803 rfl _ _ _) (Un (lX hl hi) (qc hx (lX hB (by exact rl 0xe4590340bee620680a04d409036a10104 rfl _ _ _ _ hj c))))
 ·exact kz (by exact rl 0x6b1216204c4050803 rfl _ _ _) (lX hl hi)
noncomputable def hZ (p:List Rat) (x:Rat) (B:List Rat) (gap:Nat):List Rat:=jb gap x B (p++ax (max p.length (B.length+gap)-p.length) 0) B.length
theorem Xs:T (S "mended")=some (av 56):=by kernel_rfl
theorem Xk:(av 56).params=[S "polynomial",S "number",S "former",S "gap"]:=by kernel_rfl
theorem YH:(av 56).PN=[]:=by kernel_rfl
theorem Xb:(av 56).M=[(S "found",1)]:=by kernel_rfl
theorem P7 {K n A X B' gap:Nat}{p B:List Rat}{x:Rat}(hn:4≤n) (hK:dB K) (hp:dn (A+1) p) (hx:sz X x) (hB:dn B' B) (h:A+1+X+B'≤134217000) (lp:p.length≤100) (lB:B.length≤100) (lg:gap≤100) :
  aw T K n (S "mended") [.af (ql p),.af (qv x),.af (ql B),.af (.int gap)]=some (ql (hZ p x B gap),[.af (ql p),.af (qv x),.af (ql B),.af (.int gap)]):=by
 apply nS hn;intro m hn
 refine eR Xs Xk YH Xb rfl rfl ?_
 generalize hs:max p.length (B.length+gap)-p.length=sx
 generalize hl:p++ax sx 0=l
 have ll:l.length=p.length+sx:=by refine hl▸?_;simp
 have lx:dn (A+1) l:=by
  intro q hq
  rw[←hl] at hq
  rcases aP.mp hq with h | h
  ·exact hp q h
  ·exact(ak (cM h))▸(rV A)
 have L:=sI (bd:=bp (dH (ay (av 56).body [2]))) (b:=λρ'=>cA (λg us=>aw T K m g us) [] [(S "found",1)] K (bG (ay (av 56).body [2])) ρ')
  (λi ρ=>lk ρ "number"=some (.af (qv x))∧lk ρ "gap"=some (.af (.int gap))∧lk ρ "found"=some (ow (jb gap x B l i)))
  (eh 0 (B.map qv)) 0 (put (ae "found") (ow l) (put (ae "size") (.af (.int (max p.length (B.length+gap):Nat))) [(S "polynomial",.af (ql p)),(S "number",.af (qv x)),(S "former",.af (ql B)),(S "gap",.af (.int gap))]))
  ⟨by exact(ln rfl (ln rfl rfl)),by exact(ln rfl (ln rfl rfl)),by exact lq⟩ (by
   intro i hi ρ ⟨h1,h2,h3⟩
   have jc:i<(B.map qv).length:=by rw[qX] at hi;exact hi
   rw[aX] at h3 ⊢
   rw[xp _ _ _ _ jc,bF,aX]
   rw[ag] at jc
   rw[((mc jc).symm:B[i]=co B i)]
   have dx:=xA gap x B l i
   have rA:i+gap<(jb gap x B l i).length:=rl 0x390c411017a048720a80bd881a0c813d03b20df231044150607 (by kernel_rfl) _ _ _ _ _ _ _ hs ll jc dx
   have s1:=lX hB jc
   have s2:sz (A+1) (co (jb gap x B l i) (i+gap)):=by
    rw[xi gap x B l i (by exact rl 0x3502620680b90c40d017a04804 rfl _ _ _ _ dx rA),if_neg (by exact HP _ _)]
    exact lX lx (by exact rl 0x3902620680b90c40d017a04804 rfl _ _ _ _ dx rA)
   have c1:=@zS K m _ _ _ _ hK hx s1 (by exact rl 0xd480a431ce739d881202d480a431ce739d88131016242803 rfl _ _ _ h) (by exact pd _ hn)
   have c2:=@VT K m _ _ _ _ hK s2 (qc hx s1) (by exact rl 0x1a90148639ce73b1881202c4850d480a431ce739d88131016242803 rfl _ _ _ h) (by exact pd _ hn)
   have i1:eI (jb gap x B l i).length ((i:Int)+(gap:Int))=some (i+gap):=by
    have:=@kM (jb gap x B l i).length (i+gap) (by exact rl 0x1a900000000887a0287b102415017a056417e462068220ad4908140da921028235242050506 (by kernel_rfl) _ _ _ _ _ _ lp lB lg hs ll dx) rA
    rwa [mT] at this
   refine⟨put (ae "found") (ow (jb gap x B l (i+1))) (put (ae "one") (.af (qv (co B i))) (put (ae "at") (.af (.int i)) ρ)),⟨by simpa [lk,fF] using h1,by simpa [lk,fF] using h2,by exact lq⟩,.inl ?_⟩
   show(bp (.Tuple [_,_] _ _) _ _).bind (λρ'=>cA _ [] _ K (.Assign [_] _ _::[]) ρ')=_
   simp only[S,lk] at h1 h2 h3 c1 c2
   simp only[ow] at h3
   exact oV λq=>a7 (q true true h3 h2 (NC (qU i1) (sF (by rw[aB rA,mc rA]:(jb gap x B l i)[i+gap]?=some (co (jb gap x B l i) (i+gap))))) h1 c1 c2 h3 h2 (qU i1) (rl 0x8d2080c10b02 rfl _ _:(0:Int)≤(i:Int)+(gap:Int)) (sF (by rw[aB rA,mc rA]:(jb gap x B l i)[i+gap]?=some (co (jb gap x B l i) (i+gap))))) (by simp only[QO.out,cR,ow,FR,cL]))
 obtain⟨ρ',⟨h1,h2,h3⟩,h5⟩:=L
 have em:((max p.length (B.length+gap):Nat):Int)-(p.length:Int)=(sx:Int):=rl 0x4e08ac10287c8c40d01409e8b205f231034050204 (by kernel_rfl) _ _ _ _ hs
 have e1:(if (p.length:Int)<(B.length:Int)+(gap:Int) then (B.length:Int)+(gap:Int) else (p.length:Int))=((max p.length (B.length+gap):Nat):Int):=by split<;>lia
 have La:(p.map qv).length≤bh:=by rw[ag];exact j6 _ lp
 have ud:(B.map qv).length≤bh:=by rw[ag];exact j6 _ lB
 have bm':bi (ae "max") [.af (.int ((p.map qv).length:Int)),.af (.int (((B.map qv).length:Int)+(gap:Int)))]=some (.int ((max p.length (B.length+gap):Nat):Int)):=by
  rw[ag,ag];simp only[tL,e1]
 have n2:sx≤256:=rl 0x1a9000887a2c80fc8c40d02405a9210281b5242050204 rfl _ _ _ _ lB lg hs
 have ek:((max p.length (B.length+gap):Nat):Int)-((p.map qv).length:Int)=(sx:Int):=by rw[ag];exact em
 have el:ow l=.own ((p.map qv++ax sx (DV.tup [.int 0,.int 1])).map .af):=by refine hl▸?_;simp only[ow,bL,dK,aN];rfl
 have LP:(p.map qv).length+(ax sx (DV.tup [.int 0,.int 1])).length≤bh:=by
  rw[ag,aH];exact br (Nat.add_le_add lp n2) (by decide)
 have e:0+(eh 0 (B.map qv)).length=B.length:=by rw[qX];simp
 rw[e] at h3
 simp only[lk,ow] at h3
 have hf:=@zZ [] (ae "found") ρ'
 rw[h3] at hf
 simp only[aD,mr,GF,hG,cZ,kZ,cg,if_false,mx,Gh] at hf
 have fs:eN (λg us=>aw T K m g us) [] (b8 (ay (av 56).body [3])) ρ'=some (.af (ql (hZ p x B gap)),bo (b8 (ay (av 56).body [3])),bX [] ρ'):=by
  unfold eN
  show(match (ev _ (.Name _ _) _).bind OT.lf with | some d=>_ | none=>_)=_
  simp only[hZ,hs,hl,gR,h3,jO]
  show((ev _ (.Name _ _) (bX [] ρ')).bind OT.lf).map _=_
  simp only[gR,hf,cy,jO,ql]
 rw[el] at h5
 refine⟨bX [] ρ',?_⟩
 exact gL λq=>q true rfl (iH La) rfl (iH ud) rfl bm' true rfl (zy La) rfl rfl (iH La) (vW ek n2) (Ga LP) rfl ud h5 rfl false false fs
end
section
theorem FU (p q:Rat):jy .Eq (qv p) (qv q)=some (decide (p=q)):=by
 have:iW [.int p.num,.int p.den] [.int q.num,.int q.den]=decide (p=q):=by
  simp only[Ep,Er,Me,List.isEmpty_nil,AD]
  rw[←Bool.decide_and]
  congr 1
  refine propext ⟨λh=>Rat.ext h.1 (by exact rl 0x3d0147e70406089a82a22 rfl _ _ _ _ h),?_⟩
  rintro rfl;exact⟨rfl,rfl⟩
 simp only[EB,Mc,qv,this]
 rfl
structure ux where
 now:List Rat
 dc:List Rat
 size:Nat
 gap:Nat
 last:Rat
noncomputable def fj (row:List Rat) (s:ux) (n:Nat):Rat:=tH row n s.now (min n (s.now.length-1))
noncomputable def fA (row:List Rat) (s:ux) (n:Nat):ux:=
 if fj row s n=0 then { s with gap:=s.gap+1 }
 else if 2*s.size≤n then ⟨hZ s.now (fj row s n/s.last) s.dc s.gap,s.now,n+1-s.size,1,fj row s n⟩
 else { s with now:=hZ s.now (fj row s n/s.last) s.dc s.gap,gap:=s.gap+1 }
noncomputable def bm (row:List Rat):Nat→ux
 | 0=>⟨[1],[1],0,1,1⟩
 | n+1=>fA row (bm row n) n
theorem yQ {row:List Rat}:bm row 0=(⟨[1],[1],0,1,1⟩):=rfl
noncomputable def kK:Nat→Nat
 | 0=>21
 | n+1=>(4+2*n)*kK n
theorem NW:∀ n,n<6→3*kK n+21+n*(kK n+21)≤kK (n+1)∧2*kK (n+1)≤134217000∧21≤kK n:=by decide
structure vI (row:List Rat) (n:Nat) (s:ux):Prop where
 zn:dn (kK n) s.now
 zf:dn (kK n) s.dc
 zl:sz (kK n) s.last
 l0:s.last≠0
 n0:0<s.now.length
 nl:s.now.length≤n+1
 fl:s.dc.length+s.gap≤n+2
 si:s.size≤n
theorem Jy (p:List Rat) (x:Rat) (B:List Rat) (gap:Nat):(hZ p x B gap).length=max p.length (B.length+gap):=by
 unfold hZ;rw[xA,aR,aH];exact rl 0xff9188120286591f231024050803 rfl _ _ _
theorem Wz {A X B':Nat}{gap:Nat}{x:Rat}{B p:List Rat}(hx:sz X x) (hB:dn B' B) (hp:dn (A+1) p):dn (A+1+X+B'+1) (hZ p x B gap):=by
 unfold hZ
 refine OA hx hB (λq hq=>?_) (by exact(ak aR)▸(ak aH)▸(rl 0x3596407e462048405016204803 rfl _ _ _)) (aL _)
 rcases aP.mp hq with h | h
 ·exact hp q h
 ·exact(ak (cM h))▸(rV A)
theorem JQ {row:List Rat}{n:Nat}{s:ux}(hr:dn 20 row) (hn:n<row.length) (o:vI row n s):sz (20+n*(kK n+21)) (fj row s n):=by
 refine kz ?_ (IU hr o.zn hn (min n (s.now.length-1)) (aL _))
 have:min n (s.now.length-1)*(kK n+21)≤n*(kK n+21):=aZ _ (by exact rl 0x3501f96c90a10102 rfl _ _)
 change 20+min n (s.now.length-1)*(kK n+21)≤_
 exact rl 0x6b1014904c424826a02802 rfl _ _ this
theorem Zf {row:List Rat}{n:Nat}{s:ux}(hr:dn 20 row) (hn:n<row.length) (h6:n<6) (o:vI row n s):vI row (n+1) (fA row s n):=by
 refine fL (NW n h6) λa1 a2 a3=>?_
 have qq:kK n≤kK (n+1):=rl 0x1a81202d40988624a2c0d0103 rfl _ _ _ a1
 have fl:=o.fl
 have nl:=o.nl
 unfold fA
 by_cases h0:fj row s n=0
 ·rw[if_pos h0]
  exact⟨lY qq o.zn,lY qq o.zf,kz qq o.zl,o.l0,o.n0,by dsimp only;exact rl 0xd6242c48501435890a02802 rfl _ _ nl,by dsimp only;exact Np _ _ _ fl,by dsimp only;exact rl 0x35890a0286a02802 rfl _ _ o.si⟩
 ·rw[if_neg h0]
  have e:kK n=kK n-1+1:=rl 0x1ec486c90a10d424a201 rfl _ a3
  have zm:dn (kK (n+1)) (hZ s.now (fj row s n/s.last) s.dc s.gap):=by
   have:=Wz (gap:=s.gap) (Bh (JQ hr hn o) o.zl o.l0) o.zf (A:=kK n-1) (by exact e▸o.zn)
   exact lY (by exact rl 0x1a80b1216204c6204c4248262436485027b121b24281204d40588624a2c0d0203 rfl _ _ _ a1 e) this
  have ml:=Jy s.now (fj row s n/s.last) s.dc s.gap
  by_cases h2:2*s.size≤n
  ·rw[if_pos h2]
   exact⟨zm,lY qq o.zn,kz (by exact rl 0xd405884904d40588624a2c0d0203 rfl _ _ _ a1) (JQ hr hn o),h0,by rw[ml];exact rl 0x1df23102420297202903 rfl _ _ _ o.n0,by rw[ml];exact Nn _ _ _ _ fl nl,by dsimp only;exact rl 0x6b122624280b121435890a02802 rfl _ _ nl,by dsimp only;exact rl 0x6b121459016242802 rfl _ _⟩
  ·rw[if_neg h2]
   exact⟨zm,lY qq o.zf,kz qq o.zl,o.l0,by dsimp only;rw[ml];exact rl 0x1df23102420297202903 rfl _ _ _ o.n0,by dsimp only;rw[ml];exact Nn _ _ _ _ fl nl,by dsimp only;exact Np _ _ _ fl,by dsimp only;exact rl 0x35890a0286a02802 rfl _ _ o.si⟩
theorem FP {row:List Rat}(hr:dn 20 row) (h6:row.length≤6):∀ n,n≤row.length→vI row n (bm row n)
 | 0,_=>⟨λq hq=>by rw[aK.mp hq];exact uE _,λq hq=>by rw[aK.mp hq];exact uE _,uE _,(by decide:(1:Rat)≠0),Nat.one_pos,aL 1,aL 2,aL 0⟩
 | n+1,h=>Zf hr (by exact xe _ _ h) (by exact rl 0x724c80b50c485016a4c802 rfl _ _ h6 h) (FP hr h6 n (by exact rP _ _ h))
noncomputable def kQ (row:List Rat):List Rat:=(az (bm row row.length).size).map λi=>- co (bm row row.length).now (i+1)
theorem y2t:T (S "least_recurrence")=some (av 57):=by kernel_rfl
theorem y2u:(av 57).params=[S "row"]:=by kernel_rfl
theorem y26:(av 57).PN=[]:=by kernel_rfl
theorem y2v:(av 57).M=[]:=by kernel_rfl
noncomputable def Ht (row:List Rat) (n:Nat) (ρ:au):Prop:=
 lk ρ "row"=some (.af (ql row))∧lk ρ "now"=some (.af (ql (bm row n).now))∧lk ρ "former"=some (.af (ql (bm row n).dc))∧lk ρ "size"=some (.af (.int (bm row n).size))∧lk ρ "gap"=some (.af (.int (bm row n).gap))∧lk ρ "last"=some (.af (qv (bm row n).last))∧lk ρ "R0"=none
theorem UL {K m n:Nat}{row:List Rat}{ρ:au}(hm:5≤m) (hK:dB K) (hr:dn 20 row) (h6:row.length≤6) (hn:n<row.length) (hρ:Ht row n ρ) :
  ∃ ρ',Ht row (n+1) ρ'∧((bp (dH (ay (av 57).body [1])) (.int (n:Int)) ρ).bind (λρ'=>cA (λg us=>aw T K m g us) [] [] K (bG (ay (av 57).body [1])) ρ')=some (.bU ρ')∨(bp (dH (ay (av 57).body [1])) (.int (n:Int)) ρ).bind (λρ'=>cA (λg us=>aw T K m g us) [] [] K (bG (ay (av 57).body [1])) ρ')=some (.cnt ρ')):=by
 have o:=FP hr h6 n (by exact FA _ _ hn)
 refine fL (NW n (by exact rl 0xe49901721016a4c802 rfl _ _ h6 hn)) λa1 a2 a3=>?_
 have so:=JQ hr hn o
 refine Jz hρ λr1 r2 r3 r4 r5 r6 r7=>?_;clear hρ
 have c1:=@y4f K m (kK n) 20 n row (bm row n).now (by exact zk _ hm) hK hr o.zn hn (by show 20+n*(kK n+21)+kK n+20≤_;exact rl 0x3520290c739ce7624826202c4092413520290c739ce7c090d43102624a2c0d0103 rfl _ _ _ a1 a2) (by exact HO _ h6) (by exact rl 0x352000000011026b12140502721016a4c803 rfl _ _ _ h6 hn o.nl) o.n0
 have c1:=(show tH row n (bm row n).now (min n ((bm row n).now.length-1))=fj row (bm row n) n from rfl)▸c1
 have e1:Ht row (n+1)=λρ=>lk ρ "row"=some (.af (ql row))∧lk ρ "now"=some (.af (ql (fA row (bm row n) n).now))∧lk ρ "former"=some (.af (ql (fA row (bm row n) n).dc))∧lk ρ "size"=some (.af (.int (fA row (bm row n) n).size))∧lk ρ "gap"=some (.af (.int (fA row (bm row n) n).gap))∧lk ρ "last"=some (.af (qv (fA row (bm row n) n).last))∧lk ρ "R0"=none:=rfl
 refine(ak e1)▸?_
 generalize hs:bm row n=s at *
 generalize ho:fj row s n=off at *
 simp only[S,lk] at r1 r2 r3 r4 r5 r6 r7 c1 ⊢
 by_cases h0:off=0
 ·have cz:=FU off 0
  rw[decide_eq_true h0] at cz
  refine⟨put (ae "gap") (.af (.int (s.gap+1))) (put (ae "off") (.af (qv off)) (put (ae "n") (.af (.int n)) ρ)),?_,.inr ?_⟩
  ·unfold fA
   rw[ho,if_pos h0]
   exact⟨(ln rfl (ln rfl (ln rfl r1))),(ln rfl (ln rfl (ln rfl r2))),(ln rfl (ln rfl (ln rfl r3))),(ln rfl (ln rfl (ln rfl r4))),lq,(ln rfl (ln rfl (ln rfl r6))),(ln rfl (ln rfl (ln rfl r7)))⟩
   try rfl
  ·exact oV λq=>q true r1 r2 c1 r7 cz r5
 ·have cz:=FU off 0
  have cz:=(decide_eq_false h0)▸cz
  have e:kK n=kK n-1+1:=rl 0x1ec486c90a10d424a201 rfl _ a3
  by_cases h2:2*s.size≤n
  ·have Ah:(2:Int)*(s.size:Int)≤(n:Int):=by exact rl 0x23040742821a80e04802 rfl _ _ h2
   refine⟨put (ae "gap") (.af (.int 1)) (put (ae "now") (.af (ql (hZ s.now (off/s.last) s.dc s.gap))) (put (ae "gap") (.af (.int 0)) (put (ae "size") (.af (.int ((n:Int)+1-s.size))) (put (ae "last") (.af (qv off)) (put (ae "former") (.af (ql s.now)) (put (ae "later") (.af (ql (hZ s.now (off/s.last) s.dc s.gap))) (put (ae "off") (.af (qv off)) (put (ae "n") (.af (.int n)) ρ)))))))),?_,.inl ?_⟩
   ·unfold fA
    rw[ho,if_neg h0,if_pos h2]
    simp only[fF,jO,↓reduceIte,String.reduceEq,r1,r7]
    rw[show(n:Int)+1-(s.size:Int)=((n+1-s.size:Nat):Int) by exact rl 0x270b202c4851582034586086a10102 rfl _ _ o.si]
    exact⟨rfl,rfl⟩
   ·exact oV λq=>q true r1 r2 c1 r7 cz true r2 r6 (@I' K m _ _ off s.last hK so o.zl (by exact Nm _ _ _ a1 a2) o.l0 (by exact Fz _ hm)) r3 r5 (@P7 K m (kK n-1) _ _ s.gap s.now s.dc (off/s.last) (by exact zk _ hm) hK (by exact e▸o.zn) (Bh so o.zl o.l0) o.zf (by exact Nl _ _ _ a1 a2) (by exact Nk _ _ _ h6 hn o.nl) (by exact Nj _ _ _ _ h6 hn o.fl) (by exact Ni _ _ _ _ h6 hn o.fl)) r4 (fY (gT (A:=2) (B:=20) (by unfold b6;decide) (by unfold b6;simp;exact Nh _ _ _ h6 hn o.si) (by exact Fy):cj 2 (s.size:Int)=true)) (ct Ah) r2 r4 true
  ·have Ah:¬ (2:Int)*(s.size:Int)≤(n:Int):=by exact rl 0xbc6080e85045da80e04802 rfl _ _ h2
   refine⟨put (ae "gap") (.af (.int (s.gap+1))) (put (ae "now") (.af (ql (hZ s.now (off/s.last) s.dc s.gap))) (put (ae "later") (.af (ql (hZ s.now (off/s.last) s.dc s.gap))) (put (ae "off") (.af (qv off)) (put (ae "n") (.af (.int n)) ρ)))),?_,.inl ?_⟩
   ·unfold fA
    rw[ho,if_neg h0,if_neg h2]
    exact⟨(ln rfl (ln rfl (ln rfl (ln rfl (ln rfl r1))))),(ln rfl lq),(ln rfl (ln rfl (ln rfl (ln rfl (ln rfl r3))))),(ln rfl (ln rfl (ln rfl (ln rfl (ln rfl r4))))),lq,(ln rfl (ln rfl (ln rfl (ln rfl (ln rfl r6))))),(ln rfl (ln rfl (ln rfl (ln rfl (ln rfl r7)))))⟩
    try rfl
   ·exact oV λq=>q true r1 r2 c1 r7 cz true r2 r6 (@I' K m _ _ off s.last hK so o.zl (by exact Nm _ _ _ a1 a2) o.l0 (by exact Fz _ hm)) r3 r5 (@P7 K m (kK n-1) _ _ s.gap s.now s.dc (off/s.last) (by exact zk _ hm) hK (by exact e▸o.zn) (Bh so o.zl o.l0) o.zf (by exact Nl _ _ _ a1 a2) (by exact Nk _ _ _ h6 hn o.nl) (by exact Nj _ _ _ _ h6 hn o.fl) (by exact Ni _ _ _ _ h6 hn o.fl)) r4 (fY (gT (A:=2) (B:=20) (by unfold b6;decide) (by unfold b6;simp;exact Nh _ _ _ h6 hn o.si) (by exact Fy):cj 2 (s.size:Int)=true)) (cf Ah) true r5
end
section
section
variable {C:ey}{PN:List Str}{M:List (Str×Nat)}{K:Nat}
theorem uC {e:Expr}{ρ:au}{d:DV}(h:ev C e ρ=some (.af d)):eN C PN e ρ=some (.af d,bo e,ρ):=by
 unfold eN
 refine(ak h)▸?_
 rfl
theorem uF {e:Expr}{ρ:au}{d:DV} (h1:(ev C e ρ).bind OT.lf=none) (h2:kB C e ρ=none) (h3:ev C e (bX PN ρ)=some (.af d)):eN C PN e ρ=some (.af d,bo e,bX PN ρ):=by
 unfold eN
 refine(ak h1)▸(ak h2)▸(ak h3)▸?_
 rfl
theorem pg {x:String}{ρ:au}{t:OT}(h:aj (ae x) ρ=some t) (hd:t.gz=true):aj (ae x) (bX [] ρ)=some (.af t.rD):=by
 rw[zZ,h]
 simp only[aD,hd,hG,cZ,kZ,cg,if_false]
theorem jQ {e:Expr}{ρ:au}{d:DV}{p:Pos}(h:ev C e ρ=some (.af d)):ex C PN M K (.Return (some e) p) ρ=some (.ret d ρ):=by
 simp only[uI,uC h,ao,cy]
theorem lH {e:Expr}{x:Str}{ρ:au}{d:DV}{p q:Pos}(hM:gG M x=0) (h:ev C e ρ=some (.af d)):ex C PN M K (.Assign [.Name x p] e q) ρ=some (.bU (put x (.af d) ρ)):=by
 simp only[md,BQ,hM,bne_self_eq_false,y',cg,if_false,z7,uC h,ao,cy,aD]
theorem kL {t:Expr}{b o:List Stmt}{ρ:au}{p:Pos}{c:Bool}{r:Option Out}(h:fx C t ρ=some c) (h':(if c then cA C PN M K b ρ else cA C PN M K o ρ)=r):ex C PN M K (.If t b o p) ρ=r:=by
 simp only[J',h,ao,h']
theorem mI {α:Type}(inj:α→DV) (f:α→DV){elt t it:Expr}{sc:Scope}{p:Pos}{ia:Nat}{ρ:au}{l:List α}(hs:(sc.names.all λp=>p.2 != .free||(ρ.lookup p.1).isSome)=true)
  (nK:eJ C it ρ=some (l.map inj)) (hc:l.length≤bh) (hb:∀ a∈l,∃ ρ',cW t (inj a) (seen sc ρ)=some ρ'∧ev C elt ρ'=some (.af (f a))) :
  ev C (.ListComp elt [⟨t,it,[],ia⟩] sc p) ρ=some (.af (.list (l.map f))):=by
 simp only[uA,hs,if_true,nv,ny,nK,ao]
 rw[xu inj f (l:=l)]
 ·simp only[ao,ag,hc,if_true]
 ·intro a ha
  refine aT (hb a ha) λρ' h1 h2=>?_
  simp only[h1,h2,pS,ao,cy]
  rfl
theorem t4 {f:Str}{e:Expr}{p q:Pos}{ρ:au}{n:Nat}(hf:f=(ae "range")) (h:ev C e ρ=some (.af (.int n))) (hc:n≤bh):eJ C (.Call (.Name f q) [e] [] p) ρ=some ((az n).map λ(i:Nat)=>DV.int (i:Int)):=by
 subst hf
 have:-(bh:Int)≤(n:Int)∧(n:Int)≤bh:=rl 0x3f15800000004822304716000000011a9000000008801 rfl _ hc
 simp only[yJ,Dj,h,ao,if_true,this,and_self,xK]
theorem GQ {f:Str}{a b:Expr}{p q:Pos}{ρ:au}{u v:Int}(hf:f=(ae "range")) (ha:ev C a ρ=some (.af (.int u))) (hb:ev C b ρ=some (.af (.int v))) (hc:(-(bh:Int)≤u∧u≤bh)∧-(bh:Int)≤v∧v≤bh):eJ C (.Call (.Name f q) [a,b] [] p) ρ=some (ke u v):=by
 subst hf
 simp only[Mb,ha,hb,ao,if_true]
 exact if_pos hc
end
end
section
theorem Ct (n:Nat):ke 1 ((n:Int)+1)=(az n).map λ(i:Nat)=>DV.int (1+(i:Int)):=Cu n _ rfl
theorem y23 {K n:Nat}{row:List Rat}(hn:6≤n) (hK:dB K) (hr:dn 20 row) (h6:row.length≤6) :
  aw T K n (S "least_recurrence") [.af (ql row)]=some (ql (kQ row),[.af (ql row)]):=by
 apply nS hn;intro m hn
 refine eR y2t y2u y26 y2v rfl rfl ?_
 generalize dz:put (ae "last") (.af (qv 1)) (put (ae "gap") (.af (.int 1)) (put (ae "size") (.af (.int 0)) (put (ae "former") (.af (ql [1])) (put (ae "now") (.af (ql [1])) [(S "row",.af (ql row))]))))=ρ0
 have L:=sI (bd:=bp (dH (ay (av 57).body [1]))) (b:=λρ'=>cA (λg us=>aw T K m g us) [] [] K (bG (ay (av 57).body [1])) ρ')
  (Ht row) ((az row.length).map λ(i:Nat)=>DV.int (i:Int)) 0 ρ0 (by
   subst dz
   refine⟨?_,?_,?_,?_,?_,?_,?_⟩<;>(first | exact(ln rfl (ln rfl (ln rfl (ln rfl (ln rfl rfl))))) | exact(ln rfl (ln rfl (ln rfl (ln rfl lq)))) | exact(ln rfl (ln rfl (ln rfl lq))) | exact(ln rfl (ln rfl lq)) | exact(ln rfl lq) | exact lq)<;>rfl) (by
   intro i hi ρ h
   simp only[ag,cC] at hi
   rw[aX] at h ⊢
   rw[bF,dN]
   exact UL (by exact Fx _ hn) hK hr h6 hi h)
 refine aT L λρ' hR h5=>?_;clear L
 have hR:=(show 0+((az row.length).map λ(i:Nat)=>DV.int (i:Int)).length=row.length by simp)▸hR
 refine Jz hR λr1 r2 r3 r4 r5 r6 r7=>?_;clear hR
 refine⟨ρ',cV (ρ':=ρ0) ?_ (cV (ρ':=ρ') ?_ (fZ (jQ ?_)))⟩
 ·refine dz▸?_
  exact(ak ((rfl:cm [S "row"] [OT.af (ql row)]=[((ae "row"),.af (ql row))])))▸(qx λq=>q rfl rfl rfl)
 ·refine h5▸?_
  have l1:lk ρ0 "row"=some (.af (ql row)):=by subst dz;exact(ln rfl (ln rfl (ln rfl (ln rfl (ln rfl rfl)))))
  simp only[lk] at l1
  exact vO (qi λq=>a7 (q l1 (iH (by(simp;exact HO _ h6))) (by(simp;exact HO _ h6))) (by simp only[ag,xK,ag]))
 ·have nl:=(FP hr h6 row.length (aL _)).nl
  have si:=(FP hr h6 row.length (aL _)).si
  unfold kQ
  generalize bm row row.length=s at *
  simp only[lk] at r1 r2 r3 r4 r5 r6 r7
  rw[show ql ((az s.size).map λi=>- co s.now (i+1))=.list ((az s.size).map λi=>qv (- co s.now (i+1))) by rw[ql,aN];rfl]
  refine(@mI (λg us=>aw T K m g us) Nat (λi:Nat=>DV.int (1+(i:Int))) (λi=>qv (- co s.now (i+1)))) ?_ ?_ (by simp;exact rl 0x352000000011016a1016a4c802 rfl _ _ h6 si) ?_
  ·simp only[cb,cD,r2,bI];rfl
  ·rw[←Ct]
   refine GQ rfl ?_ ?_ (rl 0x1ffc560000000128b0c1018d1618203c5800000004fc56000000011618ac3c58000000046a1016a4c802 rfl _ _ h6 si:(-(bh:Int)≤1∧(1:Int)≤bh)∧-(bh:Int)≤(s.size:Int)+1∧(s.size:Int)+1≤bh)
   ·rfl
   ·exact qe λq=>q r4
  ·intro i hi
   have hg:=λq:Rat=>@Ja K m 0 0 q (by exact rl 0x35090b5890a12601 rfl _ hn)
   simp only[S] at hg
   refine⟨[((ae "at"),.af (.int (1+(i:Int)))),((ae "now"),.af (ql s.now))],?_,?_⟩
   ·simp only[cW,iS,seen,jD,jl,mf,cy,ao,aD,aS,bj,r2,gn,jO,↓reduceIte,String.reduceEq,bB]
   ·have b1:jn [OT.af (ql s.now)]=some [ql s.now]:=rfl
    by_cases hl:i+1<s.now.length
    ·have i1:=@Ba s.now (i+1) (1+(i:Int)) (by exact HN _ _ h6 nl) hl (by exact rl 0x4e0c485148216101 rfl _)
     have lx:(1:Int)+(i:Int)<(s.now.length:Int):=rl 0x94101a410b0b9016242802 rfl _ _ hl
     simp only[gR,xg,j',Iz,eK,fy,Iu,gn,cT,a5,jo,jI,ql,ag,show s.now.length≤bh by exact HN _ _ h6 nl,cy,II,lx,decide_true,jO,↓reduceIte,String.reduceEq] at i1 ⊢
     simp only[i1,gA,gN,cy,hg,jO]
    ·have lx:¬ (1:Int)+(i:Int)<(s.now.length:Int):=by exact rl 0x2f28203482161bb9016242802 rfl _ _ hl
     exact(ak (mJ hl))▸(qe λq=>q rfl rfl (iH (by(simp;exact HN _ _ h6 nl))) (cf (by(rw[ag];exact rl 0x2f28203482161bb9016242802 rfl _ _ hl))) rfl)
end
section
noncomputable def jW (A B l:List Rat):Nat→List Rat
 | 0=>l
 | i+1=>jb i (-(co A i)) B (jW A B l i) B.length
theorem TA {A B l:List Rat}:jW A B l 0=(l):=rfl
theorem Oj {A B l:List Rat}:∀ i,jW A B l (i+1)=(jb i (-(co A i)) B (jW A B l i) B.length):=λ_=>rfl
theorem By (A B l:List Rat):∀ i,(jW A B l i).length=l.length
 | 0=>rfl
 | i+1=>by rw[Oj,xA,By A B l i]
noncomputable def iz (A B:List Rat):List Rat:=if A.length=0∨B.length=0 then [] else jW A B (ax (A.length+B.length-1) 0) A.length
theorem GA (A n:Nat):dn (A+1) (ax n 0):=λq hq=>by exact(ak (cM hq))▸(rV A)
theorem Jo {a b:Nat}{A B:List Rat}(hA:dn a A) (hB:dn b B):∀ i,i≤A.length→dn (1+i*(a+b+1)) (jW A B (ax (A.length+B.length-1) 0) i)
 | 0,_=>by simpa [TA] using GA 0 (A.length+B.length-1)
 | i+1,h=>by
  have l1:=By A B (ax (A.length+B.length-1) 0) i
  rw[aH] at l1
  have:=OA (gap:=i) (xl (lX hA (i:=i) (by exact xe _ _ h))) hB (Jo hA hB i (by exact rP _ _ h)) (j:=B.length) (by exact rl 0xd409880a06fb242c40d081350c4850104 rfl _ _ _ _ h l1) (aL _)
  refine lY ?_ this
  rw[eG];exact rl 0x358c6242c409014242c48588131016212103 rfl _ _ _
theorem Ph {a b:Nat}{A B:List Rat}(hA:dn a A) (hB:dn b B):dn (1+A.length*(a+b+1)) (iz A B):=by
 unfold iz
 split
 ·exact λq hq=>nomatch hq
 ·exact Jo hA hB _ (aL _)
theorem SM:T (S "qmul")=some (av 41):=by kernel_rfl
theorem Sr:(av 41).params=[S "a",S "b"]:=by kernel_rfl
theorem U5:(av 41).PN=[]:=by kernel_rfl
theorem SY:(av 41).M=[(S "found",1)]:=by kernel_rfl
theorem Vy {K m a b i:Nat}{A B l:List Rat}{ρ:au}(hm:3≤m) (hK:dB K) (hA:dn a A) (hB:dn b B) (hl:dn (1+i*(a+b+1)) l) (hi:i<A.length) (ll:l.length=A.length+B.length-1) (lA:A.length≤100) (lB:B.length≤100) (h:1+A.length*(a+b+1)≤134217000)
  (r2:lk ρ "b"=some (.af (ql B))) (r3:lk ρ "found"=some (ow l)) (r1:lk ρ "a"=some (.af (ql A))) :
  ∃ ρ',(lk ρ' "a"=some (.af (ql A))∧lk ρ' "b"=some (.af (ql B))∧lk ρ' "found"=some (ow (jb i (-(co A i)) B l B.length))) ∧
   (bp (dH (ay (av 41).body [2])) (.tup [.int (i:Int),qv (co A i)]) ρ).bind (λρ'=>cA (λg us=>aw T K m g us) [] [(S "found",1)] K (bG (ay (av 41).body [2])) ρ')=some (.bU ρ'):=by
 have L:=sI (bd:=bp (dH (ay (av 41).body [2,0]))) (b:=λρ'=>cA (λg us=>aw T K m g us) [] [(S "found",1)] K (bG (ay (av 41).body [2,0])) ρ')
  (λj ρ=>lk ρ "a"=some (.af (ql A))∧lk ρ "b"=some (.af (ql B))∧lk ρ "one"=some (.af (.int i))∧lk ρ "left"=some (.af (qv (co A i)))∧lk ρ "found"=some (ow (jb i (-(co A i)) B l j)))
  (eh 0 (B.map qv)) 0 (put (ae "left") (.af (qv (co A i))) (put (ae "one") (.af (.int i)) ρ))
  ⟨by simpa [lk,fF] using r1,by simpa [lk,fF] using r2,by exact(ln rfl lq),by exact lq,by simpa [lk,fF,CT] using r3⟩ (by
   intro j hj ρ ⟨h1,h2,h3,h4,h5⟩
   have kE:j<(B.map qv).length:=by rw[qX] at hj;exact hj
   rw[aX] at h5 ⊢
   rw[xp _ _ _ _ kE,bF,aX]
   rw[ag] at kE
   refine(ak (((mc kE).symm:B[j]=co B j)))▸?_
   have dx:=xA i (-(co A i)) B l j
   have rA:j+i<(jb i (-(co A i)) B l j).length:=HM _ _ _ _ _ _ hi ll kE dx
   have s1:=lX hB kE
   have s2:sz (1+i*(a+b+1)) (co (jb i (-(co A i)) B l j) (j+i)):=by
    rw[xi i _ B l j (by exact rl 0x3502620680b90c40d017a04804 rfl _ _ _ _ dx rA),if_neg (by exact HP _ _)]
    exact lX hl (by exact rl 0x3902620680b90c40d017a04804 rfl _ _ _ _ dx rA)
   have qq:(i+1)*(a+b+1)≤A.length*(a+b+1):=aZ _ hi
   rw[eG] at qq
   have c1:=@zS K m _ _ _ _ hK (lX hA hi) s1 (by exact rl 0x6a405218e739cec40d026a18c485881a0480b520290c739ce76212104 rfl _ _ _ _ h qq) (by exact rl 0x6a1236a12301 rfl _ hm)
   have c2:=@Bq K m _ _ _ _ (by exact rl 0x6a1236a12301 rfl _ hm) hK s2 (qc (lX hA hi) s1) (by exact rl 0x1a90148639ce73b1881a04c405216a18c485881a0480b520290c739ce76212104 rfl _ _ _ _ h qq)
   have i1:eI (jb i (-(co A i)) B l j).length ((i:Int)+(j:Int))=some (j+i):=by
    have:=@kM (jb i (-(co A i)) B l j).length (j+i) (by exact Ng _ _ _ _ ll lA lB dx) rA
    rwa [mT,HG] at this
   have i2:(jb i (-(co A i)) B l j)[j+i]?=some (co (jb i (-(co A i)) B l j) (j+i)):=by exact(ak (aB rA))▸(ak (mc rA))▸rfl
   refine⟨put (ae "found") (ow (jb i (-(co A i)) B l (j+1))) (put (ae "right") (.af (qv (co B j))) (put (ae "other") (.af (.int j)) ρ)),⟨by simpa [lk,fF] using h1,by simpa [lk,fF] using h2,by simpa [lk,fF] using h3,by simpa [lk,fF] using h4,by exact lq⟩,.inl ?_⟩
   rw[FR,(by grind:co (jb i (-(co A i)) B l j) (j+i) - -(co A i)*co B j=co (jb i (-(co A i)) B l j) (j+i)+co A i*co B j)]
   generalize jb i (-(co A i)) B l j=l' at *
   simp only[S,lk] at h1 h2 h3 h4 h5 c1 c2
   simp only[ow] at h5
   exact oV λq=>a7 (q true true h5 h3 (NC (qU i1) (sF i2)) h4 c1 c2 h5 h3 (qU i1) (rl 0x8d2080c10b02 rfl _ _:(0:Int)≤(i:Int)+(j:Int)) (sF i2)) (by simp only[QO.out,cR,ow,cL]))
 obtain⟨ρ',⟨h1,h2,h3,h4,h5⟩,h6⟩:=L
 refine⟨ρ',⟨h1,h2,?_⟩,?_⟩
 ·rw[h5,aX,qX,ag]
 ·simp only[bp]
  refine cV ?_ m5
  rw[←h6]
  simp only[lk] at r2
  simp only[pz,yJ,ki,gR,fF,cT,r2,ql,jO,↓reduceIte,String.reduceEq,ag,show B.length≤bh by exact j6 _ lB]
  rfl
theorem VR {K n a b:Nat}{A B:List Rat}(hn:4≤n) (hK:dB K) (hA:dn a A) (hB:dn b B) (h:1+A.length*(a+b+1)≤134217000) (lA:A.length≤100) (lB:B.length≤100) :
  aw T K n (S "qmul") [.af (ql A),.af (ql B)]=some (ql (iz A B),[.af (ql A),.af (ql B)]):=by
 apply nS hn;intro m hn
 refine eR SM Sr U5 SY rfl rfl ?_
 refine(ak ((rfl:cm [S "a",S "b"] [OT.af (ql A),.af (ql B)]=[((ae "a"),.af (ql A)),((ae "b"),.af (ql B))])))▸?_
 have th:(A.map qv).length≤bh:=by rw[ag];exact j6 _ lA
 have ud:(B.map qv).length≤bh:=by rw[ag];exact j6 _ lB
 refine(bA (A.length=0∨B.length=0)).elim (λh0=>?_) λh0=>?_
 ·refine⟨[((ae "a"),.af (ql A)),((ae "b"),.af (ql B))],?_⟩
  rw[iz,if_pos h0]
  by_cases yA:A.length=0
  ·have z1:(((A.map qv).length:Int))=0:=by rw[ag,yA];rfl
   exact gL λq=>q rfl (iH th) (ct (by exact AW _ z1)) true
  ·have z1:¬ ((((A.map qv).length:Int))=0):=by rw[ag];exact A0 _ yA
   have z2:(((B.map qv).length:Int))=0:=by rw[ag,h0.resolve_left yA];rfl
   exact gL λq=>q rfl (iH th) (cf z1) rfl (iH ud) (ct (by exact AW _ z2)) true
 ·have e1:((A.length:Int)+(B.length:Int)-1)=((A.length+B.length-1:Nat):Int):=by exact Nf _ _ h0
  have L:=sI (bd:=bp (dH (ay (av 41).body [2]))) (b:=λρ'=>cA (λg us=>aw T K m g us) [] [(S "found",1)] K (bG (ay (av 41).body [2])) ρ')
   (λi ρ=>lk ρ "a"=some (.af (ql A))∧lk ρ "b"=some (.af (ql B))∧lk ρ "found"=some (ow (jW A B (ax (A.length+B.length-1) 0) i)))
   (eh 0 (A.map qv)) 0 (put (ae "found") (ow (ax (A.length+B.length-1) 0)) [((ae "a"),.af (ql A)),((ae "b"),.af (ql B))])
   ⟨by exact(ln rfl rfl),by exact(ln rfl rfl),by exact lq⟩ (by
    intro i hi ρ ⟨h1,h2,h3⟩
    have jc:i<(A.map qv).length:=by rw[qX] at hi;exact hi
    rw[aX] at h3 ⊢
    rw[xp _ _ _ _ jc,bF,aX]
    rw[ag] at jc
    refine(ak (((mc jc).symm:A[i]=co A i)))▸?_
    have l1:=By A B (ax (A.length+B.length-1) 0) i
    rw[aH] at l1
    refine aT (Vy (m:=m) (by exact pd _ hn) hK hA hB (Jo hA hB i (by exact FA _ _ jc)) jc l1 lA lB h h2 h3 h1) λρ' q1 q2=>?_
    exact⟨ρ',q1,.inl q2⟩)
  obtain⟨ρ',⟨h1,h2,h3⟩,h5⟩:=L
  rw[aX,qX,ag] at h3
  simp only[lk,ow] at h3
  have hf:=@zZ [] (ae "found") ρ'
  rw[h3] at hf
  simp only[aD,mr,GF,hG,cZ,kZ,cg,if_false,mx,Gh] at hf
  rw[iz,if_neg h0]
  have z1:¬ ((((A.map qv).length:Int))=0):=by rw[ag];exact rl 0xbcd70406ff0bd287a50102 rfl _ _ h0
  have z2:¬ ((((B.map qv).length:Int))=0):=by rw[ag];exact rl 0xbcd70406ff0bd280bd2802 rfl _ _ h0
  have e0:ow (ax (A.length+B.length-1) 0)=.own ((ax (A.length+B.length-1) (DV.tup [.int 0,.int 1]:DV)).map .af):=by simp only[ow,dK];rfl
  have h5:=e0▸h5
  have ek:((A.map qv).length:Int)+((B.map qv).length:Int)-1=((A.length+B.length-1:Nat):Int):=by rw[ag,ag];exact e1
  refine⟨bX [] ρ',?_⟩
  exact gL λq=>q rfl (iH th) (cf z1) rfl (iH ud) (cf z2) true rfl rfl (iH th) rfl (iH ud) (vW ek (Nd _ _ lA lB:A.length+B.length-1≤256)) rfl th h5 rfl false false (uF (by show(ev _ (.Name _ _) _).bind _=_;simp only[gR,h3,kS,ao]) rfl (qe λq=>q hf):eN (λg us=>aw T K m g us) [] (b8 (ay (av 41).body [3])) ρ'=some (.af (ql (_)),bo (b8 (ay (av 41).body [3])),bX [] ρ'))
end
section
noncomputable def kO {σ:Type}(go:σ→Bool) (nx:σ→σ):Nat→σ→σ
 | 0,s=>s
 | n+1,s=>if go s then kO go nx n (nx s) else s
theorem I3 {σ:Type}{go:σ→Bool}{nx:σ→σ}:∀ n s,kO go nx (n+1) s=(if go s then kO go nx n (nx s) else s):=λ_ _=>rfl
theorem JI {σ:Type}(R:σ→au→Prop) (P:σ→Prop) (m:σ→Nat) (go:σ→Bool) (nx:σ→σ){t:au→Option Bool}{b:au→Option Out}
  (ht:∀ s ρ,P s→R s ρ→t ρ=some (go s)) (hb:∀ s ρ,P s→R s ρ→go s=true→P (nx s)∧m (nx s)<m s∧∃ ρ',b ρ=some (.bU ρ')∧R (nx s) ρ') :
  ∀ (n' n:Nat) (s:σ) (ρ:au),m s<n'→n'≤n→P s→R s ρ→∃ ρ',R (kO go nx n' s) ρ'∧P (kO go nx n' s)∧go (kO go nx n' s)=false∧eT t b n ρ=some (.bU ρ')
 | 0,n,s,ρ,h,_,_,_=>by lia
 | n'+1,0,s,ρ,_,h,_,_=>by lia
 | n'+1,n+1,s,ρ,h,h',p,r=>by
  rw[xx,I3]
  refine(ak (ht s ρ p r))▸?_
  cases hg:go s with
  | false=>exact⟨ρ,by simpa using r,by simpa using p,by simpa using hg,by simp⟩
  | true=>
   refine IY (hb s ρ p r hg) λp' h2 ρ₁ h3 h4=>?_
   simp only[ao,if_true,h3]
   exact JI R P m go nx ht hb n' n (nx s) ρ₁ (by exact FG _ _ _ h h2) (by exact AX _ _ h') p' h4
theorem BA {σ:Type}{go:σ→Bool}{nx:σ→σ}(P:σ→Prop) (hb:∀ s,P s→go s=true→P (nx s)):∀ (n:Nat) (s:σ),P s→P (kO go nx n s)
 | 0,s,p=>p
 | n+1,s,p=>by
  rw[I3]
  cases hg:go s with
  | false=>simpa using p
  | true=>simpa using BA P hb n (nx s) (hb s p hg)
section
variable {C:ey}{PN:List Str}{M:List (Str×Nat)}{K:Nat}
theorem PG {t:Expr}{b:List Stmt}{p:Pos}{ρ ρ':au}(h:eT (fx C t) (λρ'=>cA C PN M K b ρ') K ρ=some (.bU ρ')):ex C PN M K (.While t b [] p) ρ=some (.bU ρ'):=by
 simp only[BS,h]
end
theorem O3 {K n i:Nat}{f:Str}{ts us:List OT}(hT:T f=some (av i)) (hN:(av i).PN=[]):aw T K n f (.own ts::us)=none:=by
 cases n with
 | zero=>rfl
 | succ n=>
  rw[A4 hT]
  unfold FD.run
  rw[if_neg]
  rintro⟨_,h⟩
  unfold FD.fits at h
  rw[hN] at h
  simp[gN,kS] at h
theorem Ys {a b:List Rat}{q:Rat}(h:q∈iA a b):∃ i,q=co a i+co b i:=by
 unfold iA fS at h
 have:=cN h
 obtain⟨i,_,rfl⟩:=aE.mp this
 exact⟨i,rfl⟩
theorem Pg {A B:Nat}{a b:List Rat}(ha:dn (A+1) a) (hb:dn (B+1) b):dn (A+1+(B+1)+1) (iA a b):=by
 intro q hq
 obtain⟨i,rfl⟩:=Ys hq
 exact rR (xt ha i) (xt hb i)
theorem t8 {α:Type}(z:α→Bool) (l:List α):(fS z l).length≤l.length:=by
 unfold fS;rw[cn];exact rl 0x6a03f2a02802 rfl _ _
theorem Bz (a b:List Rat):(iA a b).length≤max a.length b.length:=by
 unfold iA
 have:=t8 (λq:Rat=>decide (q=0)) ((az (max a.length b.length)).map λi=>co a i+co b i)
 simpa using this
theorem OI (l:List Rat):∀ n,n≤l.length→∀ i,gX (λq:Rat=>decide (q=0)) l n≤i→i<n→co l i=0
 | 0,_,i,_,h=>by lia
 | n+1,hn,i,h1,h2=>by
  rw[xo] at h1
  have hl:n<l.length:=xe _ _ hn
  rw[aB hl] at h1
  dsimp only at h1
  by_cases hz:l[n]=0
  ·rw[if_pos (by simpa using hz)] at h1
   by_cases e:i=n
   ·subst e;exact(ak (mc hl))▸(ak hz)▸rfl
   ·exact OI l n (by exact rP _ _ hn) i h1 (by exact rl 0x72028bbd01439890a02802 rfl _ _ h2 e)
  ·rw[if_neg (by simpa using hz)] at h1
   lia
theorem OF (l:List Rat) (n i:Nat):co (l.take n) i=if i<n then co l i else 0:=by
 unfold co
 rw[List.getElem?_take]
 split<;>rfl
theorem Bp (l:List Rat) (i:Nat):co (fS (λq:Rat=>decide (q=0)) l) i=co l i:=by
 unfold fS
 rw[OF]
 split
 ·rfl
 ·rename_i h
  by_cases hi:i<l.length
  ·exact(OI l l.length (aL _) i (by exact zp _ _ h) hi).symm
  ·exact(ak (mJ hi))▸rfl
theorem OE (a b:List Rat) (i:Nat):co (iA a b) i=co a i+co b i:=by
 unfold iA
 rw[Bp]
 by_cases h:i<max a.length b.length
 ·rw[mc (by simpa using h)];simp
 ·rw[mJ (by simpa using h),mJ (by exact rl 0x2ee4051777c881202803 rfl _ _ _ h),mJ (by exact rl 0x2ee4051777c880a04803 rfl _ _ _ h)];decide +kernel
theorem P6 (l:List Rat):∀ n,n≤l.length→gX (λq:Rat=>decide (q=0)) l n=0∨co l (gX (λq:Rat=>decide (q=0)) l n-1)≠0
 | 0,_=>.inl rfl
 | n+1,hn=>by
  have hl:n<l.length:=xe _ _ hn
  rw[xo]
  rw[aB hl]
  dsimp only
  by_cases hz:l[n]=0
  ·rw[if_pos (by simpa using hz)]
   exact P6 l n (by exact rP _ _ hn)
  ·rw[if_neg (by simpa using hz)]
   right
   rw[dh,mc hl];exact hz
noncomputable def jM (l:List Rat):Prop:=l.length=0∨co l (l.length-1)≠0
theorem JH (l:List Rat):jM (fS (λq:Rat=>decide (q=0)) l):=by
 unfold jM
 rw[Bp]
 unfold fS
 exact(ak cn)▸(ak (yY (zR (λq:Rat=>decide (q=0)) l l.length)))▸(P6 l l.length (aL _))
theorem Qd (a b:List Rat):jM (iA a b):=JH _
theorem QK (l:List Rat) (i:Nat):co l.dropLast i=if i<l.length-1 then co l i else 0:=by
 rw[qK,OF]
theorem Qt (l:List Rat) (i:Nat):co (l.map λq=>-q) i=- co l i:=by
 unfold co
 refine(ak (aU))▸?_
 cases l[i]? with
 | none=>decide +kernel
 | some x=>rfl
theorem JR (l:List Rat) (r:Rat) (i:Nat):co (b9 l r) i=co l i*r:=by
 unfold b9
 split
 ·rename_i h;subst h;rw[jd];rfl
 ·unfold co
  refine(ak (aU))▸?_
  cases l[i]? with
  | none=>simp
  | some x=>rfl
theorem YQ (l:List Rat) (k i:Nat):co (eS l k) i=if i<k then 0 else co l (i-k):=by
 unfold eS
 split
 ·rename_i h;subst h;simp[co]
 ·unfold co
  by_cases h:i<k
  ·rw[if_pos h,eH (by simpa using h),iF,if_pos h];rfl
  ·rw[if_neg h,nC (by simpa using h),aH]
theorem JX (l:List Rat) (k:Nat):(eS l k).length=if l.length=0 then 0 else k+l.length:=by
 unfold eS
 cases l<;>simp
theorem Ir {x y p q r:Nat} (h1:p≤max (x-1) q) (h2:q=if r=0 then 0 else x-y+r) (h3:r≤y-1) (h4:y≤x) (h5:0<y):q≤x-1∧p<x:=
 have g:q≤x-1:=(mV (r=0)).elim (λh=>br (jf (h2.trans (if_pos h))) (fh _)) λh=>br (jf (h2.trans (if_neg h))) (rl 0xdb24280b11640901720496a028136c90a04803 rfl _ _ _ h3 h4 h5)
 have f:x-1<x:=Nat.sub_one_lt_of_lt (kJ h5 h4)
 ⟨g,ck h1 (Nat.max_lt.mpr ⟨f,ck g f⟩)⟩
theorem Rr (a b:Nat):(if (0:Int)<(a:Int)-(b:Int)+1 then (a:Int)-(b:Int)+1 else 0)=((a+1-b:Nat):Int):=
 (mV _).elim (λh=>(if_pos h).trans (rl 0x138590162428a2c358203044a8b0d6080c10b02 rfl _ _ h)) λh=>(if_neg h).trans (rl 0x270b21890a02bbca8b0d6088202b02 rfl _ _ h)
theorem BC (l:List Rat) (r:Rat):(b9 l r).length≤l.length:=by
 unfold b9
 split<;>simp
theorem Qn {A B:Nat}{l:List Rat}{r:Rat}(hl:dn A l) (hr:sz B r):dn (A+B) (b9 l r):=by
 unfold b9
 split
 ·exact λq hq=>nomatch hq
 ·intro q hq
  obtain⟨x,hx,rfl⟩:=aE.mp hq
  exact qc (hl x hx) hr
theorem Qm {A k:Nat}{l:List Rat}(hl:dn (A+1) l):dn (A+1) (eS l k):=by
 unfold eS
 split
 ·exact λq hq=>nomatch hq
 ·intro q hq
  rcases aP.mp hq with h | h
  ·rw[cM h];exact rV A
  ·exact hl q h
theorem BH {A:Nat}{l:List Rat}(hl:dn A l):dn A l.dropLast:=λq hq=>hl q (List.dropLast_subset l hq)
theorem WA {A:Nat}{l:List Rat}{i:Nat}{x:Rat}(hl:dn A l) (hx:sz A x):dn A (l.set i x):=λq hq=>by
 refine(List.mem_or_eq_of_mem_set hq).elim (λh=>?_) λh=>?_
 ·exact hl q h
 ·exact(ak h)▸hx
theorem Pz {A:Nat}{l:List Rat}{z:Rat→Bool}(hl:dn A l):dn A (fS z l):=λq hq=>hl q (cN hq)
theorem PY {l:List Rat}(hl:l.length≤bh) (h0:0<l.length):m7 (l.map qv) none (some (-1)) none=some (l.dropLast.map qv):=by
 have e0:kms_lo none l.length=0:=rfl
 simp only[nZ,ag,hl,if_true,(by simp[kms_hi]:kms_hi (some (-1)) l.length=l.length-1),e0,jL,lD,qK,eP]
theorem PI {l:List Rat}(hl:l.length≤bh) (h0:0<l.length):iJ (.af (ql l)) (.af (.int (-1)))=some (.af (qv (co l (l.length-1)))):=by
 have e:eI l.length (-1)=some (l.length-1):=by
  unfold eI
  rw[if_pos hl,if_neg (by decide),if_pos (by exact rl 0x4690471615b90901 rfl _ h0)]
  congr 1;exact rl 0x7d92147a904716101 rfl _
 simp only[ro,ql,ag,e,ao,aU,aB (show l.length-1<l.length by exact xf _ h0),aD,mc (show l.length-1<l.length by exact xf _ h0)]
end
section
noncomputable def dW (b:List Rat) (s:List Rat×List Rat):Rat:=co s.1 (s.1.length-1)/co b (b.length-1)
noncomputable def dy (b:List Rat) (s:List Rat×List Rat):List Rat×List Rat:=
 (iA s.1.dropLast ((eS (b9 b.dropLast (dW b s)) (s.1.length-b.length)).map λq=>-q),s.2.set (s.1.length-b.length) (dW b s))
noncomputable def j1 (b:List Rat) (s:List Rat×List Rat):Bool:=decide (b.length≤s.1.length)
noncomputable def gd (a b:List Rat):List Rat×List Rat:=kO (j1 b) (dy b) (a.length+1) (a,ax (a.length+1-b.length) 0)
noncomputable def iR (a b:List Rat):List Rat×List Rat:=(fS (λq:Rat=>decide (q=0)) (gd a b).2,(gd a b).1)
noncomputable def yK (a b:List Rat) (R B:Nat) (s:List Rat×List Rat):Prop:=
 s.2.length=a.length+1-b.length∧∃ i,i+s.1.length≤a.length∧dn (2^i*(R+2*B+1)-(2*B+1)) s.1∧dn (2^i*(R+2*B+1)/2+1) s.2∧(i≤a.length+1-b.length)
theorem JS {a b:List Rat}{R B:Nat}{s:List Rat×List Rat}(hR:1≤R) (hb:dn B b) (b0:0<b.length) (bl:co b (b.length-1)≠0) (hB:1≤B) (p:yK a b R B s) (g:j1 b s=true):yK a b R B (dy b s)∧(dy b s).1.length<s.1.length:=by
 refine Jj p λp1 i p2 p3 p4 p5=>?_;clear p
 have hg:b.length≤s.1.length:=by simpa [j1] using g
 have yo:0<2^i:=js i
 have hw:R+2*B+1≤2^i*(R+2*B+1):=jg _ yo
 have Aa:2^(i+1)*(R+2*B+1)=2*(2^i*(R+2*B+1)):=by rw[lE];grind
 generalize hP:2^i*(R+2*B+1)=P at *
 have sl:=lX p3 (i:=s.1.length-1) (by exact rl 0x1c8b24286a1017202902 rfl _ _ b0 hg)
 have sb:=lX hb (i:=b.length-1) (by exact xf _ b0)
 have sn:sz (P-(2*B+1)+B) (dW b s):=Bh sl sb bl
 have s3:=Qn (BH hb) sn
 have e3:B+(P-(2*B+1)+B)=(P-2)+1:=Nc _ _ _ hR hw
 rw[e3] at s3
 have s4:=Jp (Qm (k:=s.1.length-b.length) s3)
 have e5:P-(2*B+1)=P-(2*B+1)-1+1:=(gS (rZ (Nb _ _ _ hw hR))).symm
 have s5:=BH p3
 rw[e5] at s5
 have s6:=Pg s5 s4
 have l1:=Bz s.1.dropLast ((eS (b9 b.dropLast (dW b s)) (s.1.length-b.length)).map λq=>-q)
 have l2:=JX (b9 b.dropLast (dW b s)) (s.1.length-b.length)
 have l3:=BC b.dropLast (dW b s)
 rw[ag] at l1
 rw[ez] at l1 l3
 have dx:(dy b s).1.length<s.1.length:=by
  exact(Ir l1 l2 l3 hg b0).2
 refine⟨⟨by simp only[dy,bM,p1],i+1,by exact rl 0x1a80b10362428720481b5016204804 (by kernel_rfl) _ _ _ _ p2 dx,?_,?_,by exact rl 0xdb204c4850c485036a0281350c4050304 rfl _ _ _ _ p2 hg⟩,dx⟩
 ·rw[Aa]
  exact lY (rl 0xdb3121c0901c09026242c624364890262436486cc48702405026a1216a04c485981202803 (by kernel_rfl) _ _ _ hw hR) s6
 ·rw[Aa]
  exact WA (lY (sa (Nat.div_le_div_right (jg _ (by decide))) 1) p4) (kz (by rw[iL P (by decide)];exact rl 0xd624286205662438120486a1890b3024090103 rfl _ _ _ hw) sn)
theorem XB {a b:List Rat}{R B:Nat}(hR:1≤R) (ha:dn R a) (hb:dn B b) (b0:0<b.length) (bl:co b (b.length-1)≠0) (hB:1≤B):yK a b R B (gd a b):=
 BA (yK a b R B) (λs p g=>(JS hR hb b0 bl hB p g).1) _ _ ⟨by simp,0,by dsimp only;exact rl 0xd4310901 rfl _,by rw[show 2^0*(R+2*B+1)-(2*B+1)=R by exact Io _ _];exact ha,lY (by exact AV _) (GA 0 _),by exact Im _ _⟩
theorem Y6:T (S "qdivmod")=some (av 42):=by kernel_rfl
theorem Y0:(av 42).params=[S "a",S "b"]:=by kernel_rfl
theorem y8L:(av 42).PN=[]:=by kernel_rfl
theorem YD:(av 42).M=[(S "found",1)]:=by kernel_rfl
noncomputable def Md (b:List Rat) (s:List Rat×List Rat) (ρ:au):Prop:=
 lk ρ "b"=some (.af (ql b))∧lk ρ "rest"=some (.af (ql s.1))∧lk ρ "found"=some (ow s.2)
theorem Vn {K m:Nat}{a b:List Rat}{R B:Nat}{s:List Rat×List Rat}{ρ:au}(hm:5≤m) (hK:dB K) (hR:1≤R) (hb:dn B b) (b0:0<b.length) (bl:co b (b.length-1)≠0) (hB:1≤B) (la:a.length≤100) (lb:b.length≤100)
  (hs:2^(a.length+1-b.length)*(R+2*B+1)≤67108000) (p:yK a b R B s) (r:Md b s ρ) (g:j1 b s=true) :
  ∃ ρ',cA (λg us=>aw T K m g us) [] [(S "found",1)] K (bG (ay (av 42).body [2])) ρ=some (.bU ρ')∧Md b (dy b s) ρ':=by
 refine Jj p λp1 i p2 p3 p4 p5=>?_;clear p
 have hg:b.length≤s.1.length:=by simpa [j1] using g
 have ED:bh=1048576:=rfl
 have yo:0<2^i:=js i
 have hw:R+2*B+1≤2^i*(R+2*B+1):=jg _ yo
 have Aa:2^i*(R+2*B+1)≤2^(a.length+1-b.length)*(R+2*B+1):=aZ _ (cO (by decide) p5)
 generalize hP:2^i*(R+2*B+1)=P at *
 have sl:=lX p3 (i:=s.1.length-1) (by exact rl 0x1c8b24286a1017202902 rfl _ _ b0 hg)
 have sb:=lX hb (i:=b.length-1) (by exact xf _ b0)
 have sn:sz (P-(2*B+1)+B) (dW b s):=Bh sl sb bl
 have s3:=Qn (BH hb) sn
 have e3:B+(P-(2*B+1)+B)=(P-2)+1:=Nc _ _ _ hR hw
 rw[e3] at s3
 have s4:=Qm (k:=s.1.length-b.length) s3
 have e5:P-(2*B+1)=P-(2*B+1)-1+1:=(gS (rZ (Nb _ _ _ hw hR))).symm
 have s5:=BH p3
 rw[e5] at s5
 have l1:=Bz s.1.dropLast ((eS (b9 b.dropLast (dW b s)) (s.1.length-b.length)).map λq=>-q)
 have l2:=JX (b9 b.dropLast (dW b s)) (s.1.length-b.length)
 have l3:=BC b.dropLast (dW b s)
 rw[ag] at l1
 rw[ez] at l1 l3
 have l4:(eS (b9 b.dropLast (dW b s)) (s.1.length-b.length)).length≤200:=rl 0xd48023409a9210286a1016d9214050203 rfl _ _ _ (Ir l1 l2 l3 hg b0).1 (br (Nat.le_add_left _ _) p2) la
 have c1:=@I' K m _ _ _ _ hK sl sb (rl 0xd480a431ce739d88159890e0481206d40d890b302409016a404118e739c686a10304 rfl _ _ _ _ Aa hs hw) bl (by exact Fz _ hm)
 rw[show co s.1 (s.1.length-1)/co b (b.length-1)=dW b s from rfl] at c1
 have c2:=@JT K m _ _ b.dropLast _ (by exact zk _ hm) hK (BH hb) sn (rl 0x6a405218e739cec6205662438120481a04d40d890b302409016a404118e739c686a10304 rfl _ _ _ _ Aa hs hw) (by rw[ez];exact rl 0x352000000012c90a1a92102801 rfl _ lb)
 have c3:=@YW K m (b9 b.dropLast (dW b s)) (s.1.length-b.length) (by exact xd _ hm) (by exact rl 0x6a400259081b50162068135242050104 rfl _ _ _ _ la p2) (by exact rl 0xd480a70a02db2428405a92102802 rfl _ _ lb l3)
 have c4:=@OK K m _ _ _ _ (by exact rl 0x6a1256a12501 rfl _ hm) hK s5 s4 (rl 0xd480a431ce739d8c486c91204c486c90d9890e048409a90104639ce71a02d4050203 rfl _ _ _ Aa hs) (by rw[ez];exact rl 0x352000000012c90a04d43102405a92102803 rfl _ _ _ la p2) (by exact jN _ l4)
 refine fL r λr1 r2 r3=>?_;clear r
 have i1:=@PI s.1 (by exact Fw _ _ _ la p2) (by exact AU _ _ b0 hg)
 have i2:=@PI b (by exact j6 _ lb) b0
 have i3:=@PY s.1 (by exact Fw _ _ _ la p2) (by exact AU _ _ b0 hg)
 have i4:=@PY b (by exact j6 _ lb) b0
 have e1:(s.1.length:Int)-(b.length:Int)=((s.1.length-b.length:Nat):Int):=Il _ _ hg
 have i5:eI s.2.length ((s.1.length-b.length:Nat):Int)=some (s.1.length-b.length):=kM (by exact Na _ _ _ la p1) (by exact Ik _ _ _ _ _ p1 p2 hg)
 have i6:s.2[s.1.length-b.length]?=some (co s.2 (s.1.length-b.length)):=by rw[aB (by exact Ik _ _ _ _ _ p1 p2 hg),mc (by exact Ik _ _ _ _ _ p1 p2 hg)]
 have i7:(0:Int)≤((s.1.length-b.length:Nat):Int):=rl 0x46164202b02 rfl _ _
 refine⟨put (ae "rest") (.af (ql (dy b s).1)) (put (ae "lower") (.af (ql (dy b s).1)) (put (ae "found") (ow (dy b s).2) (put (ae "power") (.af (.int (s.1.length-b.length:Nat))) (put (ae "number") (.af (qv (dW b s))) ρ)))),?_,?_⟩
 ·simp only[S,lk] at r1 r2 r3 c1 c2 c3 c4
  simp only[ow] at r3
  have eL:((s.1.map qv).length:Int)-((b.map qv).length:Int)=((s.1.length-b.length:Nat):Int):=by rw[ag,ag];exact e1
  rw[←eL] at i5 i7 c3
  exact gL λq=>a7 (q r2 i1 r1 i2 c1 r2 (iH (by(simp;exact Fw _ _ _ la p2))) r1 (iH (by(simp;exact j6 _ lb))) true true r3 (qU i5) i7 (sF i6) true true r2 i3 true r1 i4 c2 c3 c4 true) (by simp only[QO.out,cR,sV,eL,ow,dy,cL,ql])
 ·exact⟨by simpa [lk,fF] using r1,by exact lq,by exact(ln rfl (ln rfl lq))⟩
theorem ZO {K n:Nat}{a b:List Rat}{R B:Nat}(hn:6≤n) (hK:dB K) (hR:1≤R) (ha:dn R a) (hb:dn B b) (b0:0<b.length) (bl:co b (b.length-1)≠0) (hB:1≤B) (la:a.length≤100) (lb:b.length≤100)
  (hs:2^(a.length+1-b.length)*(R+2*B+1)≤67108000) :
  aw T K n (S "qdivmod") [.af (ql a),.af (ql b)]=some (.tup [ql (iR a b).1,ql (iR a b).2],[.af (ql a),.af (ql b)]):=by
 apply nS hn;intro m hn
 refine eR Y6 Y0 y8L YD rfl rfl ?_
 have z:cm [S "a",S "b"] [OT.af (ql a),.af (ql b)]=[((ae "a"),.af (ql a)),((ae "b"),.af (ql b))]:=rfl
 rw[z]
 have L:=JI (t:=fx (λg us=>aw T K m g us) (dG (ay (av 42).body [2]))) (b:=λρ'=>cA (λg us=>aw T K m g us) [] [(S "found",1)] K (bG (ay (av 42).body [2])) ρ')
  (Md b) (yK a b R B) (λs=>s.1.length) (j1 b) (dy b) (by
   rintro s ρ ⟨p1,i,p2,p3,p4,p5⟩ ⟨r1,r2,r3⟩
   simp only[lk] at r1 r2
   show fx _ (.Compare _ _ _ _) _=_
   simp only[Ek,gR,j',eK,fy,r1,r2,cT,a5,jo,jI,ql,ag,TV,cy,jO,↓reduceIte,String.reduceEq,show s.1.length≤bh by exact Fw _ _ _ la p2,show b.length≤bh by exact j6 _ lb,j1]
   congr 1
   simp) (by
   intro s ρ p r g
   refine dJ (JS hR hb b0 bl hB p g) λq1 q2=>?_
   exact⟨q1,q2,Vn (by exact Fx _ hn) hK hR hb b0 bl hB la lb hs p r g⟩)
  (a.length+1) K (a,ax (a.length+1-b.length) 0) (put (ae "found") (ow (ax (a.length+1-b.length) 0)) (put (ae "rest") (.af (ql a)) [((ae "a"),.af (ql a)),((ae "b"),.af (ql b))]))
  (by dsimp only;exact vK _) (by unfold dB at hK;exact rl 0x3501624286a4840a1a80a40000000000000000202 rfl _ _ hK la)
  ⟨by simp,0,by dsimp only;exact rl 0xd4310901 rfl _,by rw[show 2^0*(R+2*B+1)-(2*B+1)=R by exact Io _ _];exact ha,lY (by exact AV _) (GA 0 _),by exact Im _ _⟩
  ⟨by exact(ln rfl (ln rfl rfl)),by exact(ln rfl lq),by exact lq⟩
 obtain⟨ρ',⟨r1,r2,r3⟩,⟨p1,i,p2,p3,p4,p5⟩,g,h5⟩:=L
 rw[show kO (j1 b) (dy b) (a.length+1) (a,ax (a.length+1-b.length) 0)=gd a b from rfl] at *
 simp only[lk,ow] at r1 r2 r3
 have f3:=pg r3 (by simp only[mr,GF])
 have f2:=pg r2 rfl
 simp only[mx,yD,Gh] at f2 f3
 have hq:=@Ju K m (gd a b).2 (by exact rl 0x35090b5890a12601 rfl _ hn) (by exact Na _ _ _ la p1) (by unfold dB at hK;exact rl 0x390343ec80b1214090d49081409a81a40000000000000000204 rfl _ _ _ _ hK la p1)
 have ho:=@O3 K m 35 (S "qtrim") ((gd a b).2.map λq=>.af (qv q)) [] OM Pn
 simp only[S,ql] at hq ho
 have fs:eN (λg us=>aw T K m g us) [] (b8 (ay (av 42).body [3])) ρ'=some (.af (.tup [ql (iR a b).1,ql (iR a b).2]),bo (b8 (ay (av 42).body [3])),bX [] ρ'):=by
  refine uF ?_ ?_ ?_
  ·show(ev _ (.Tuple [.Call (.Name _ _) [.Name _ _] [] _,.Name _ _] _ _) _).bind _=_
   simp only[gR,j',NQ,eK,fy,r3,cT,a5,gA,gN,kS,fO,jO,↓reduceIte,String.reduceEq]
  ·show kB _ (.Tuple [.Call (.Name _ _) [.Name _ _] [] _,.Name _ _] _ _) _=_
   simp only[B3,Kk,Kl,B6,eK,r3,cT,a5,gA,ho,jO,↓reduceIte,String.reduceEq]
  ·exact qe λq=>q f3 hq f2
 have e1:(if (0:Int)<(a.length:Int)-(b.length:Int)+1 then (a.length:Int)-(b.length:Int)+1 else 0)=((a.length+1-b.length:Nat):Int):=Rr _ _
 have b3:bi (ae "max") [.af (.int 0),.af (.int (((a.map qv).length:Int)-((b.map qv).length:Int)+1))]=some (.int ((a.length+1-b.length:Nat):Int)):=by rw[ag,ag];simp only[tL,e1]
 have n2:a.length+1-b.length≤256:=rl 0x3520012c8624280b5242050102 rfl _ _ la
 have e0:ow (ax (a.length+1-b.length) 0)=.own ((ax (a.length+1-b.length) (DV.tup [.int 0,.int 1])).map .af):=by simp only[ow,dK];rfl
 rw[e0] at h5
 have Rv:(a.map qv).length≤bh:=by rw[ag];exact j6 _ la
 have Ru:(b.map qv).length≤bh:=by rw[ag];exact j6 _ lb
 have lb0:¬ (((b.map qv).length:Int)=0):=by rw[ag];exact xc _ b0
 refine⟨bX [] ρ',?_⟩
 exact gL λq=>q rfl (iH Ru) (cf lb0) rfl (zy Rv) rfl rfl (iH Rv) rfl (iH Ru) b3 (vW rfl n2) h5 false false fs
end
section
structure FW where
 front:List Rat
 rest:List Rat
 one:List Rat
 other:List Rat
noncomputable def ew (s:FW):FW:=⟨s.rest,(iR s.front s.rest).2,s.other,iA s.one ((iz (iR s.front s.rest).1 s.other).map λq=>-q)⟩
noncomputable def jY (k:Nat) (s:FW):Bool:=decide (k<s.rest.length)
noncomputable def my (a:List Rat):FW:=⟨ax a.length 0++[1],fS (λq:Rat=>decide (q=0)) a,[],[1]⟩
noncomputable def fw (k:Nat) (a:List Rat):FW:=kO (jY k) ew (a.length+1) (my a)
noncomputable def Zt:Nat→Nat
 | 0=>21
 | t+1=>104*Zt t
theorem AE:∀ t,t≤3→21≤Zt t∧Zt t≤23622144:=by decide
theorem I5:∀ t,t≤2→21≤Zt t∧16*(3*Zt t+1)≤67108000∧Zt (t+1)=104*Zt t∧104*Zt t≤23622144:=by decide
structure pW (k:Nat) (a:List Rat) (s:FW) (t:Nat):Prop where
 t3:t≤3
 lr:s.rest.length+t≤a.length
 lf:s.rest.length<s.front.length
 Lb:s.front.length≤a.length+1
 lo:s.one.length≤10*t+1
 u7:s.other.length≤10*t+1
 ld:jM s.rest
 ldf:jM s.front
 z1:dn (Zt t) s.front
 z2:dn (Zt t) s.rest
 z3:dn (Zt t) s.one
 z4:dn (Zt t) s.other
theorem JB (A B:List Rat):(iz A B).length=if A.length=0∨B.length=0 then 0 else A.length+B.length-1:=by
 unfold iz
 split
 ·rfl
 ·rw[By,aH]
theorem Pf (A B:List Rat):(iz A B).length≤A.length+B.length:=
 (mV _).elim (λh=>br (jf ((JB A B).trans (if_pos h))) (fh _)) λh=>br (jf ((JB A B).trans (if_neg h))) (Nat.sub_le _ _)
theorem QF {b:List Rat}{s:List Rat×List Rat}:jM (dy b s).1:=Qd _ _
theorem ZV {a b:List Rat}(h:jM a):jM (gd a b).1:=
 BA (λs:List Rat×List Rat=>jM s.1) (λs Z Z=>QF) _ _ h
theorem GN {σ:Type}{go:σ→Bool}{nx:σ→σ}(P:σ→Prop) (m:σ→Nat) (hb:∀ s,P s→go s=true→P (nx s)∧m (nx s)<m s):∀ (n:Nat) (s:σ),P s→m s<n→go (kO go nx n s)=false
 | 0,s,_,h=>(yX _ h).elim
 | n+1,s,p,h=>by
  rw[I3]
  cases hg:go s with
  | false=>simpa using hg
  | true=>
   refine dJ (hb s p hg) λh1 h2=>?_
   simpa using GN P m hb n (nx s) h1 (by exact FG _ _ _ h h2)
theorem Xa {a b:List Rat}{R B:Nat}(hR:1≤R) (ha:dn R a) (hb:dn B b) (b0:0<b.length) (bl:co b (b.length-1)≠0) (hB:1≤B):(gd a b).1.length<b.length:=by
 have:=GN (go:=j1 b) (nx:=dy b) (yK a b R B) (λs=>s.1.length) (λs p g=>JS hR hb b0 bl hB p g) (a.length+1) (a,ax (a.length+1-b.length) 0)
  ⟨by simp,0,by dsimp only;exact rl 0xd4310901 rfl _,by rw[show 2^0*(R+2*B+1)-(2*B+1)=R by exact Io _ _];exact ha,lY (by exact AV _) (GA 0 _),by exact Im _ _⟩ (by dsimp only;exact vK _)
 have h2:decide (b.length≤(gd a b).1.length)=false:=this
 simpa using h2
theorem Oc {k:Nat}{a:List Rat}{s:FW}{t:Nat}(hk:k≤3) (ha:a.length=2*k) (o:pW k a s t) (g:jY k s=true) :
  t≤2∧co s.rest (s.rest.length-1)≠0∧0<s.rest.length∧2^(s.front.length+1-s.rest.length)≤16∧(iR s.front s.rest).2.length<s.rest.length∧(iR s.front s.rest).1.length≤4 ∧
   dn (Zt (t+1)) (iR s.front s.rest).2∧dn (24*Zt t+9) (iR s.front s.rest).1:=by
 have hg:k<s.rest.length:=by simpa [jY] using g
 have h1:=o.lr;have h2:=o.lf;have h3:=o.Lb
 have ht:t≤2:=rl 0x6a4481b50c40d017202813f024090d48d0204 rfl _ _ _ _ hk ha hg h1
 refine jR (I5 t ht) λy1 y2 y3 y4=>?_
 have hl:co s.rest (s.rest.length-1)≠0:=o.ld.resolve_left (by exact AS _ _ hg)
 refine Jj (XB (R:=Zt t) (B:=Zt t) (by exact zj _ y1) o.z1 o.z2 (by exact zi _ _ hg) hl (by exact zj _ y1)) λp1 i p2 p3 p4 p5=>?_
 have hi:2^i*(Zt t+2*Zt t+1)≤16*(Zt t+2*Zt t+1):=aZ _ (br (cO (by decide) p5) (cO (by decide) (by exact M9 _ _ _ _ hk ha hg h3):2^(s.front.length+1-s.rest.length)≤2^4))
 generalize 2^i*(Zt t+2*Zt t+1)=P at *
 refine⟨ht,hl,by exact zi _ _ hg,(cO (by decide) (by exact M9 _ _ _ _ hk ha hg h3):2^(s.front.length+1-s.rest.length)≤2^4),(Xa (R:=Zt t) (B:=Zt t) (by exact zj _ y1) o.z1 o.z2 (by exact zi _ _ hg) hl (by exact zj _ y1)),?_,lY (by exact rl 0x1a8159890e0480a1b8009890b3024050143f0028501409a80a4a203 rfl _ _ _ y1 y3 hi) p3,lY (by lia) (Pz p4)⟩
 have:=t8 (λq:Rat=>decide (q=0)) (gd s.front s.rest).2
 exact rl 0x6a4886a0287d903624281202d624282204e40d057e0482a08d48d0506 (by kernel_rfl) _ _ _ _ _ _ hk ha hg h3 p1 this
theorem ZR {k:Nat}{a:List Rat}{s:FW}{t:Nat}(hk:k≤3) (ha:a.length=2*k) (o:pW k a s t) (g:jY k s=true):pW k a (ew s) (t+1)∧(ew s).rest.length<s.rest.length:=by
 refine JK (Oc hk ha o g) λd1 d2 d3 d4 d5 d6 d7 d8=>?_
 refine jR (I5 t d1) λy1 y2 y3 y4=>?_
 have h1:=o.lr;have h2:=o.lf;have h3:=o.Lb;have h4:=o.lo;have h5:=o.u7
 have m2:=Bz s.one ((iz (iR s.front s.rest).1 s.other).map λq=>-q)
 rw[ag] at m2
 refine⟨⟨by exact rl 0x3523624286a44801 rfl _ d1,?_,d5,?_,?_,?_,ZV o.ldf,o.ld,lY (by exact rl 0x6a0287e0050a10102 rfl _ _ y3) o.z2,d7,lY (by exact rl 0x6a0287e0050a10102 rfl _ _ y3) o.z4,lY (by exact rl 0xd431216312162405c1081405890d921405f8014280a1a80a4a202 rfl _ _ y1 y3) (Pg (lY (B:=(Zt t-1)+1) (by exact rl 0xd624364850801 rfl _) o.z3) (lY (B:=(100*Zt t+40)+1) (by exact M8 _ _ (aZ _ d6:(iR s.front s.rest).1.length*(24*Zt t+9+Zt t+1)≤4*(24*Zt t+9+Zt t+1))) (Jp (Ph d8 o.z4))))⟩,d5⟩
 ·show(iR s.front s.rest).2.length+(t+1)≤a.length;exact rl 0x1a80b1890a0686a02c40d027204804 rfl _ _ _ _ d5 h1
 ·show s.rest.length≤a.length+1;exact rl 0x1ac48501435016204803 rfl _ _ _ h1
 ·show s.other.length≤_;exact rl 0x35890e041624280a1ac487020a02802 rfl _ _ h5
 ·show(iA _ _).length≤_
  exact rl 0x35890e04162428415ac487020a1016b121c0828411a92204d620281206df91034110506 rfl _ _ _ _ _ _ m2 (Pf _ _) d6 h4 h5
theorem T9 {k:Nat}{a:List Rat}(ha:dn 20 a):pW k a (my a) 0:=by
 refine⟨by exact rl 0x6a46900 rfl,by simpa [my] using (t8 (λq:Rat=>decide (q=0)) a),?_,by simp[my],by simp[my],by simp[my],JH _,.inr ?_,?_,Pz (lY (by decide) ha),λq hq=>(by simp[my] at hq),λq hq=>?_⟩
 ·simp only[my,aR,aH,aF,aW];exact Ij _ _ (t8 (λq:Rat=>decide (q=0)) a)
 ·simp[my,co]
 ·intro q hq
  refine(aP.mp hq).elim (λh=>?_) λh=>?_
  ·rw[cM h];exact rV 20
  ·rw[aK.mp h];exact uE 20
 ·rw[aK.mp hq];exact uE 20
theorem y4g:T (S "first_within")=some (av 48):=by kernel_rfl
theorem y4l:(av 48).params=[S "a",S "most"]:=by kernel_rfl
theorem y45:(av 48).PN=[]:=by kernel_rfl
theorem y4u:(av 48).M=[]:=by kernel_rfl
noncomputable def L3 (k:Nat) (s:FW) (ρ:au):Prop:=
 lk ρ "most"=some (.af (.int ((k:Int)-1)))∧lk ρ "front"=some (.af (ql s.front))∧lk ρ "rest"=some (.af (ql s.rest))∧lk ρ "one"=some (.af (ql s.one))∧lk ρ "other"=some (.af (ql s.other))
theorem V5 {K m k:Nat}{a:List Rat}{s:FW}{t:Nat}{ρ:au}(hm:6≤m) (hK:dB K) (hk:k≤3) (ha:a.length=2*k) (o:pW k a s t) (g:jY k s=true) (r:L3 k s ρ) :
  ∃ ρ',cA (λg us=>aw T K m g us) [] [] K (bG (ay (av 48).body [2])) ρ=some (.bU ρ')∧L3 k (ew s) ρ':=by
 refine JK (Oc hk ha o g) λd1 d2 d3 d4 d5 d6 d7 d8=>?_
 refine jR (I5 t d1) λy1 y2 y3 y4=>?_
 have h1:=o.lr;have h2:=o.lf;have h3:=o.Lb;have h4:=o.lo;have h5:=o.u7
 have ED:bh=1048576:=rfl
 have c1:=@ZO K m s.front s.rest (Zt t) (Zt t) hm hK (by exact zj _ y1) o.z1 o.z2 d3 d2 (by exact zj _ y1) (by exact rl 0xd49081409ac4850813f024050d48d0103 rfl _ _ _ hk ha h3) (by exact rl 0xd4908140da8620481bf024050d48d0104 rfl _ _ _ _ hk ha h1) (br (aZ _ d4) (by exact rl 0x1a90104639ce71e0026242cc09086a400004e010c380142801 rfl _ y4):2^(s.front.length+1-s.rest.length)*(Zt t+2*Zt t+1)≤67108000)
 have c2:=@VR K m _ _ (iR s.front s.rest).1 s.other (by exact rl 0x6a1246a12601 rfl _ hm) hK d8 o.z4 (by exact rl 0x1a90148639ce73b101485b82312162189087001a1016a400004e010c380142802 rfl _ _ y4 (aZ _ d6:(iR s.front s.rest).1.length*(24*Zt t+9+Zt t+1)≤4*(24*Zt t+9+Zt t+1))) (by exact rl 0x1a9210286a48801 rfl _ d6) (by exact rl 0x6a4840a08d6243810503411a80b103409f8121016a46805 rfl _ _ _ _ _ hk ha h1 h5)
 have c3:=@OK K m _ _ s.one (iz (iR s.front s.rest).1 s.other) (by exact rl 0x6a1256a12601 rfl _ hm) hK (lY (B:=(Zt t-1)+1) (by exact rl 0xd624364850801 rfl _) o.z3) (lY (B:=(100*Zt t+40)+1) (by exact M8 _ _ (aZ _ d6:(iR s.front s.rest).1.length*(24*Zt t+9+Zt t+1)≤4*(24*Zt t+9+Zt t+1))) (Ph d8 o.z4)) (by exact rl 0x3520290c739ce76312162405c108143121b24286a400004e010c380142801 rfl _ y4) (by exact rl 0x6a400000002208d6243810503411a80b103409f8121016a46805 rfl _ _ _ _ _ hk ha h1 h4) (rl 0x1a900000000881b522405ac487020a02813524435881210304 rfl _ _ _ _ (Pf _ _) d6 h5 d1)
 refine oQ r λr1 r2 r3 r4 r5=>?_;clear r
 refine⟨put (ae "other") (.af (ql (ew s).other)) (put (ae "one") (.af (ql (ew s).one)) (put (ae "rest") (.af (ql (ew s).rest)) (put (ae "front") (.af (ql (ew s).front)) (put (ae "left") (.af (ql (ew s).rest)) (put (ae "times") (.af (ql (iR s.front s.rest).1)) ρ))))),?_,?_⟩
 ·simp only[S,lk] at r1 r2 r3 r4 r5 c1 c2 c3
  exact gL λq=>q true r2 r3 c1 aF r3 r5 r4 r5 c2 c3
 ·exact⟨by simpa [lk,fF] using r1,by exact(ln rfl (ln rfl (ln rfl lq))),by exact(ln rfl (ln rfl lq)),by exact(ln rfl lq),by exact lq⟩
theorem y3M {K n k:Nat}{a:List Rat}(hn:7≤n) (hK:dB K) (hk:k≤3) (ha:a.length=2*k) (hz:dn 20 a) :
  aw T K n (S "first_within") [.af (ql a),.af (.int ((k:Int)-1))]=some (.tup [ql (fw k a).rest,ql (fw k a).other],[.af (ql a),.af (.int ((k:Int)-1))])∧(∃ t,pW k a (fw k a) t)∧(fw k a).rest.length≤k:=by
 apply nS hn;intro m hn
 generalize dz:put (ae "other") (.af (ql [1])) (put (ae "one") (.af (ql [])) (put (ae "rest") (.af (ql (my a).rest)) (put (ae "front") (.af (ql (my a).front)) [((ae "a"),.af (ql a)),((ae "most"),.af (.int ((k:Int)-1)))])))=ρ0
 have L:=JI (t:=fx (λg us=>aw T K m g us) (dG (ay (av 48).body [2]))) (b:=λρ'=>cA (λg us=>aw T K m g us) [] [] K (bG (ay (av 48).body [2])) ρ')
  (L3 k) (λs=>∃ t,pW k a s t) (λs=>s.rest.length) (jY k) ew (by
   rintro s ρ ⟨t,o⟩ ⟨r1,r2,r3,r4,r5⟩
   simp only[lk] at r1 r3
   show fx _ (.Compare _ _ _ _) _=_
   simp only[It,oP,gR,qS,j',eK,fy,r1,r3,cT,a5,jo,jI,ql,ag,rI,uX,IG,cy,jO,↓reduceIte,String.reduceEq,show s.rest.length≤bh by exact rl 0xd480000000440da8620481bf024050d48d0104 rfl _ _ _ _ hk ha o.lr,jY]
   congr 1
   simp) (by
   rintro s ρ ⟨t,o⟩ r g
   refine dJ (ZR hk ha o g) λq1 q2=>?_
   exact⟨⟨_,q1⟩,q2,V5 (by exact rl 0x3509335890a12701 rfl _ hn) hK hk ha o g r⟩)
  (a.length+1) K (my a) ρ0 (by show(fS _ a).length<_;exact Ij _ _ (t8 (λq:Rat=>decide (q=0)) a)) (by unfold dB at hK;exact rl 0x6a04c4850fc090143523405a81240000000000000000203 rfl _ _ _ hK hk ha) ⟨0,T9 hz⟩ (by
   subst dz
   refine⟨?_,?_,?_,?_,?_⟩<;>(first | exact(ln rfl (ln rfl (ln rfl (ln rfl rfl)))) | exact(ln rfl (ln rfl (ln rfl lq))) | exact(ln rfl (ln rfl lq)) | exact(ln rfl lq) | exact lq)<;>rfl)
 obtain⟨ρ',⟨r1,r2,r3,r4,r5⟩,po,g,h5⟩:=L
 rw[show kO (jY k) ew (a.length+1) (my a)=fw k a from rfl] at *
 refine⟨eR y4g y4l y45 y4u rfl rfl ?_,po,by simpa [jY] using g⟩
 refine(ak ((rfl:cm [S "a",S "most"] [OT.af (ql a),.af (.int ((k:Int)-1))]=[((ae "a"),.af (ql a)),((ae "most"),.af (.int ((k:Int)-1)))])))▸?_
 simp only[lk] at r3 r5
 rw[←dz] at h5
 have n2:a.length≤256:=rl 0xd4800443f024050d48d0102 rfl _ _ hk ha
 have ef:ql (my a).front=.list (ax a.length (DV.tup [.int 0,.int 1])++[.tup [.int 1,.int 1]]):=by simp only[my,ql,bL,dK];rfl
 rw[ef] at h5
 refine⟨ρ',?_⟩
 exact gL λq=>q rfl rfl (by simp only[jo,jI,ql,ag,jO,↓reduceIte,show a.length≤bh by exact Ii _ _ hk ha]:bi (ae "len") [.af (ql a)]=some (.int (a.length:Int))) (vW rfl n2) rfl (Ga (by exact(ak aH)▸(br (sa n2 1) (by decide)):(ax a.length (DV.tup [.int 0,.int 1])).length+([DV.tup [.int 1,.int 1]]:List DV).length≤bh)) rfl (@Ju K m a (by exact xb _ hn) (by exact Ii _ _ hk ha) (by unfold dB at hK;exact rl 0xe4090fc090143523405a81240000000000000000203 rfl _ _ _ hK hk ha)) rfl h5 true r3 r5
end
section
theorem Zj {q:Rat}(h:q≠0):sS q 0≠0:=by
 have hn:q.num≠0:=λe=>h (jr.mp e)
 unfold sS
 refine(ak (show(0:Rat).num=0 from rfl))▸(ak (show(0:Rat).den=1 from rfl))▸?_
 simp only[lF,HD,show((1:Nat):Int)=1 from rfl,ML]
 split
 ·decide
 ·split
  ·decide
  ·lia
theorem SJ:T (S "pade")=some (av 49):=by kernel_rfl
theorem Th:(av 49).params=[S "a",S "above",S "below"]:=by kernel_rfl
theorem U3:(av 49).PN=[]:=by kernel_rfl
theorem SW:(av 49).M=[]:=by kernel_rfl
theorem VP {K n k:Nat}{a:List Rat}(hn:8≤n) (hK:dB K) (rY:1≤k) (hk:k≤3) (ha:a.length=2*k) (hz:dn 20 a) (h0:0<(fw k a).other.length) (h1:co (fw k a).other 0≠0) :
  aw T K n (S "pade") [.af (ql a),.af (.int ((k:Int)-1)),.af (.int (k:Int))]=some (.tup [ql (b9 (fw k a).rest (co (fw k a).other 0)⁻¹),ql (b9 (fw k a).other (co (fw k a).other 0)⁻¹)],[.af (ql a),.af (.int ((k:Int)-1)),.af (.int (k:Int))]):=by
 apply nS hn;intro m hn
 obtain⟨c1,⟨t,o⟩,hr⟩:=@y3M K m k a (by exact rl 0x6a1276b1214240101 rfl _ hn) hK hk ha hz
 have c2:=@TZ K m a (by exact AR _ hn) (by exact Ii _ _ hk ha)
 generalize hX:(fw k a).rest=X at *
 generalize hY:(fw k a).other=Y at *
 refine dJ (AE t o.t3) λy1 y2=>?_
 have o1:=o.z2;have o2:=o.z4;have o3:=o.u7;have o4:=o.t3;have o5:=o.lr
 rw[hX] at o1 o5
 rw[hY] at o2 o3
 have s1:=lX o2 h0
 have c3:=@QM K m _ 1 (co Y 0) 0 (by exact AR _ hn) s1 (rV 0) (by exact rl 0x3520290c739ce7624286a400004e010c2801 rfl _ y2)
 have i0:=@Ba Y 0 0 (by exact Ih _ _ _ _ _ hk ha o3 o5) h0 rfl
 have hr0:=Zj h1
 generalize sS (co Y 0) 0=rc at *
 have e1:(k:Int)-1+(k:Int)+1=(a.length:Int):=rl 0x27045161a4101aac30405f81202802 rfl _ _ ha
 refine eR SJ Th U3 SW rfl rfl ?_
 have z:cm [S "a",S "above",S "below"] [OT.af (ql a),.af (.int ((k:Int)-1)),.af (.int (k:Int))]=[((ae "a"),.af (ql a)),((ae "above"),.af (.int ((k:Int)-1))),((ae "below"),.af (.int (k:Int)))]:=rfl
 refine(ak z)▸?_
 generalize dz:([((ae "a"),.af (ql a)),((ae "above"),.af (.int ((k:Int)-1))),((ae "below"),.af (.int (k:Int)))]:au)=ρ0
 have l1:aj (ae "a") ρ0=some (.af (ql a)):=by subst dz;simp only[gn,↓reduceIte]
 have l2:aj (ae "above") ρ0=some (.af (.int ((k:Int)-1))):=by subst dz;simp only[gn,↓reduceIte,String.reduceEq]
 have l3:aj (ae "below") ρ0=some (.af (.int (k:Int))):=by subst dz;simp only[gn,↓reduceIte,String.reduceEq]
 have l4:aj (ae "R0") ρ0=none:=by subst dz;simp only[gn,jO,↓reduceIte,String.reduceEq]
 clear dz
 refine⟨put (ae "bottom") (.af (ql Y)) (put (ae "top") (.af (ql X)) ρ0),?_⟩
 rw[←e1] at c2
 exact gL λq=>q l2 (cf (by exact rl 0x2f2e2c355860801 rfl _)) l3 (cf (by exact rl 0x1792e0801 rfl _)) true l1 l2 l3 c2 l2 c1 (rfl:([ae "top",ae "bottom"]:List Str).length=[ql X,ql Y].length) (by simp only[jo,jI,ql,ag,jO,↓reduceIte,show Y.length≤bh by exact Ih _ _ _ _ _ hk ha o3 o5]:bi (ae "len") [.af (ql Y)]=some (.int (Y.length:Int))) (cf (by exact xc _ h0)) i0 l4 c3 (cf hr0) true i0 (@OL K m _ 0 _ hK s1 (by exact M7 _ y2) h1 (by exact rl 0x6a1236b1214240101 rfl _ hn)) (@JT K m _ _ X _ (by exact rl 0x6a1246b1214240101 rfl _ hn) hK o1 (I2 s1 h1) (by exact M6 _ y2) (by exact rl 0x352000000011016a1016a46802 rfl _ _ hk hr)) i0 (@OL K m _ 0 _ hK s1 (by exact M7 _ y2) h1 (by exact rl 0x6a1236b1214240101 rfl _ hn)) (@JT K m _ _ Y _ (by exact rl 0x6a1246b1214240101 rfl _ hn) hK o2 (I2 s1 h1) (by exact M6 _ y2) (by exact Ih _ _ _ _ _ hk ha o3 o5))
end
section
noncomputable def mi (r:List Int):OT:=.own (r.map λi=>.af (.int i))
noncomputable def om (m:List (List Int)):OT:=.own (m.map mi)
noncomputable def gi (l:List Int) (i:Nat):Int:=(l[i]?).getD 0
noncomputable def gr (m:List (List Int)) (i:Nat):List Int:=(m[i]?).getD []
theorem rU {l:List Int}{i:Nat}(h:i<l.length):l[i]?=some (gi l i):=by simp[gi,h]
theorem xq {m:List (List Int)}{i:Nat}(h:i<m.length):m[i]?=some (gr m i):=by simp[gr,h]
theorem Od {l:List Int}{i j:Nat}{x:Int}(hi:i<l.length):gi (l.set i x) j=if j=i then x else gi l j:=by
 unfold gi
 rw[g8]
 by_cases h:i=j
 ·subst h;simp[hi]
 ·rw[if_neg h,if_neg (λq=>h q.symm)]
theorem vS {l:List (List Int)}{i j:Nat}{x:List Int}(hi:i<l.length):gr (l.set i x) j=if j=i then x else gr l j:=by
 unfold gr
 rw[g8]
 by_cases h:i=j
 ·subst h;simp[hi]
 ·rw[if_neg h,if_neg (λq=>h q.symm)]
noncomputable def Sq (n:Nat) (m:List (List Int)):Prop:=m.length=n∧∀ i,i<n→(gr m i).length=n
noncomputable def Bd (B:Nat) (n:Nat) (m:List (List Int)):Prop:=∀ i j,i<n→j<n→b6 B (gi (gr m i) j)
theorem WZ {A:Nat}{x a:Int}(h:b6 A x):b6 A (x.fdiv a):=by
 refine ck ?_ h
 refine(qP a 0).elim (λha=>?_) λha=>?_
 ·rw[←Int.neg_fdiv_neg,nQ _ (by exact rl 0x478a5c96a10 rfl _ ha)]
  have:=oH (-x) (-a)
  rwa [Ax] at this
 ·rw[nQ _ ha]
  exact oH x a
section
variable (e8 first ahead:Int) (ps:List Int) (step:Nat)
noncomputable def fe (r:List Int):Nat→List Int
 | 0=>r
 | j+1=>(fe r j).set (step+1+j) ((gi (fe r j) (step+1+j)*e8-first*gi ps (step+1+j)).fdiv ahead)
theorem N0 (r:List Int) (j:Nat):fe e8 first ahead ps step r (j+1)=(fe e8 first ahead ps step r j).set (step+1+j) ((gi (fe e8 first ahead ps step r j) (step+1+j)*e8-first*gi ps (step+1+j)).fdiv ahead):=rfl
theorem xC (r:List Int):∀ j,(fe e8 first ahead ps step r j).length=r.length
 | 0=>rfl
 | j+1=>by rw[N0,bM,xC r j]
theorem Ge (r:List Int):∀ j,step+1+j≤r.length→∀ c,gi (fe e8 first ahead ps step r j) c=if step<c∧c<step+1+j then (gi r c*e8-first*gi ps c).fdiv ahead else gi r c
 | 0,_,c=>by rw[if_neg (by exact rl 0x5fee625890a1017202802 rfl _ _)];rfl
 | j+1,h,c=>by
  rw[N0,Od (by rw[xC];exact M5 _ _ _ h)]
  by_cases e:c=step+1+j
  ·subst e;rw[if_pos rfl,if_pos (by exact M4 _ _),(Ge r j (by exact Ig _ _ _ h)),if_neg (by exact Ie _ _)]
  ·rw[if_neg e,(Ge r j (by exact Ig _ _ _ h))]
   by_cases q:step<c∧c<step+1+j
   ·rw[if_pos q,if_pos (by exact M3 _ _ _ q)]
   ·rw[if_neg q,if_neg (by exact M1 _ _ _ e q)]
end
noncomputable def ox (ahead:Int) (n step:Nat) (ps r:List Int):List Int:=(fe (gi ps step) (gi r step) ahead ps step r (n-step-1)).set step 0
noncomputable def lS (ahead:Int) (n step:Nat) (m:List (List Int)):Nat→List (List Int)
 | 0=>m
 | j+1=>(lS ahead n step m j).set (step+1+j) (ox ahead n step (gr m step) (gr m (step+1+j)))
theorem NM {ahead:Int}{n step:Nat}{m:List (List Int)}:∀ j,lS ahead n step m (j+1)=((lS ahead n step m j).set (step+1+j) (ox ahead n step (gr m step) (gr m (step+1+j)))):=λ_=>rfl
theorem W0 {ahead:Int}{n step:Nat}{ps r:List Int}:(ox ahead n step ps r).length=r.length:=by
 unfold ox;rw[bM,xC]
theorem OP {ahead:Int}{n step:Nat}{ps r:List Int}(hr:r.length=n) (hs:step<n) (c:Nat) (hc:c<n):gi (ox ahead n step ps r) c=if step<c then (gi r c*gi ps step-gi r step*gi ps c).fdiv ahead else if c=step then 0 else gi r c:=by
 unfold ox
 rw[Od (by rw[xC];exact rl 0xe40901721017a10203 rfl _ _ _ hr hs),Ge _ _ _ _ _ _ _ (by exact rl 0x6a04cb24364202c4850e4050f4050203 rfl _ _ _ hr hs)]
 by_cases h1:step<c
 ·rw[if_pos h1,if_neg (by exact rl 0x177a0287210102 rfl _ _ h1),if_pos (by exact rl 0x7dccb24364090c48502405c80a04e405027210103 rfl _ _ _ hc h1)]
 ·rw[if_neg h1]
  by_cases h2:c=step
  ·rw[if_pos h2,if_pos h2]
  ·rw[if_neg h2,if_neg h2,if_neg (by exact rl 0x17fb996486c80a1890a02813902406ee4090103 rfl _ _ _ h1)]
theorem I7 (ahead:Int) (n step:Nat) (m:List (List Int)):∀ j,(lS ahead n step m j).length=m.length
 | 0=>rfl
 | j+1=>by rw[NM,bM,I7 ahead n step m j]
theorem xn (ahead:Int) (n step:Nat) (m:List (List Int)):∀ j,step+1+j≤m.length→∀ i,gr (lS ahead n step m j) i=if step<i∧i<step+1+j then ox ahead n step (gr m step) (gr m i) else gr m i
 | 0,_,i=>by rw[if_neg (by exact rl 0x5fee625890a1017202802 rfl _ _)];rfl
 | j+1,h,i=>by
  rw[NM,vS (by rw[I7];exact M5 _ _ _ h)]
  by_cases e:i=step+1+j
  ·subst e;rw[if_pos rfl,if_pos (by exact M4 _ _)]
  ·rw[if_neg e,(xn ahead n step m j (by exact Ig _ _ _ h))]
   by_cases q:step<i∧i<step+1+j
   ·rw[if_pos q,if_pos (by exact M3 _ _ _ q)]
   ·rw[if_neg q,if_neg (by exact M1 _ _ _ e q)]
theorem FT {ahead:Int}{n step j:Nat}{m:List (List Int)}(h:Sq n m) (hj:step+1+j≤n):Sq n (lS ahead n step m j):=by
 refine⟨by rw[I7,h.1],λi hi=>?_⟩
 rw[xn _ _ _ _ _ (by rw[h.1];exact rl 0x6a02c409890a1a80b1026242803 rfl _ _ _ hj)]
 split
 ·rw[W0,h.2 i hi]
 ·exact h.2 i hi
theorem TS {ahead:Int}{n step j B:Nat}{m:List (List Int)}(h:Sq n m) (hB:Bd B n m) (hs:step<n) (hj:step+1+j≤n):Bd (2*B+1) n (lS ahead n step m j):=by
 intro i c hi hc
 rw[xn _ _ _ _ _ (by rw[h.1];exact rl 0x6a02c409890a1a80b1026242803 rfl _ _ _ hj)]
 split
 ·rw[OP (h.2 i hi) hs c hc]
  split
  ·refine WZ (i9 (by exact rl 0xd62438121890b10801 rfl _) (UN (jP (hB i c hi hc) (hB step step hs hs)) (jP (hB i step hi hs) (hB step c hs hc))))
  ·split
   ·unfold b6;simp[js]
   ·exact i9 (by exact rl 0x6b121c090801 rfl _) (hB i c hi hc)
 ·exact i9 (by exact rl 0x6b121c090801 rfl _) (hB i c hi hc)
end
section
theorem Js {K m i:Nat}{f:Str}{p:Str}{ps:List Str}{M:List (Str×Nat)}{ts us:List OT}{t':OT}{d:DV}(hT:T f=some (av i)) (hP:(av i).params=ps) (hN:(av i).PN=[p]) (hM:(av i).M=M) (hl:us.length+1=ps.length) (hf:(jn us).isSome=true) (hd:d.j9=true)
  (hx:∃ ρ,(cA (λg us=>aw T K m g us) [p] M K (av i).body (ps.zip (.own ts::us))=some (.ret d ρ)∨(d=.none∧cA (λg us=>aw T K m g us) [p] M K (av i).body (ps.zip (.own ts::us))=some (.bU ρ)))∧aj p ρ=some t'):aw T K (m+1) f (.own ts::us)=some (d,t'::us):=by
 obtain⟨ρ,hx,hp⟩:=hx
 rw[A4 hT]
 unfold FD.run
 have kT:(av i).fits (.own ts::us)=true:=by
  unfold FD.fits
  exact(ak hN)▸hf
 rw[if_pos ⟨by rw[hP];exact hl,kT⟩,hP,hN,hM]
 rcases hx with hx | ⟨rfl,hx⟩
 ·rw[hx]
  simp only[ao,FD.fin,hN,hd,if_true,hp,y0]
 ·rw[hx]
  simp only[ao,FD.fin,hN,Ln,if_true,hp,y0]
theorem y4j:T (S "bareiss_step")=some (av 52):=by kernel_rfl
theorem y4o:(av 52).params=[S "a",S "step",S "ahead"]:=by kernel_rfl
theorem y48:(av 52).PN=[S "a"]:=by kernel_rfl
theorem y4x:(av 52).M=[]:=by kernel_rfl
theorem y7b:T (S "pivot_row")=some (av 51):=by kernel_rfl
theorem y7g:(av 51).params=[S "a",S "step"]:=by kernel_rfl
theorem y6u:(av 51).PN=[S "a"]:=by kernel_rfl
theorem y7p:(av 51).M=[]:=by kernel_rfl
theorem zJ {m:List (List Int)}{i:Nat}{k:Int}(hm:m.length≤bh) (hi:i<m.length) (hk:k=(i:Int)):iJ (om m) (.af (.int k))=some (mi (gr m i)):=by
 subst hk
 simp only[u9,om,ag,kM hm hi,ao,aU,xq hi,aD]
theorem zP {r:List Int}{i:Nat}{k:Int}(hr:r.length≤bh) (hi:i<r.length) (hk:k=(i:Int)):iJ (mi r) (.af (.int k))=some (.af (.int (gi r i))):=by
 subst hk
 simp only[u9,mi,ag,kM hr hi,ao,aU,rU hi,aD]
theorem NB {C:ey}{PN:List Str}{x i:Str}{l e:Expr}{ρ:au}{m:List (List Int)}{a c:Nat}{v:Int}(hm:m.length≤bh) (ha:a<m.length) (hr:(gr m a).length≤bh) (hc:c<(gr m a).length)
  (h1:ev C e ρ=some (.af (.int v))) (h2:ρ.lookup x=some (om m)) (h3:ρ.lookup i=some (.af (.int (a:Int)))) (h4:ev C l ρ=some (.af (.int (c:Int)))) :
  jZ C PN x i l e ρ=some (put x (om (m.set a ((gr m a).set c v))) ρ):=by
 unfold jZ
 rw[uC h1]
 simp only[ao,cy,tf,yf,rE,xV,tI,h2,h3,om,ag,kM hm ha,aU,xq ha,aD,mi,h4,kM hr hc,rU hc]
 rw[if_pos (by exact zr _)]
 simp only[(by rw[mi,cL]:OT.own (((gr m a).map λi=>OT.af (.int i)).set c (.af (.int v)))=mi ((gr m a).set c v)),cL]
theorem Tu {K k B n step row j:Nat}{e8 first ahead:Int}{m:List (List Int)}{ρ:au}(hn:n≤100) (hs:Sq n m) (hr:step<row) (vg:row<n) (hj:step+1+j<n) (hB1:∀ c,c<n→b6 B (gi (gr m row) c)) (hB2:∀ c,c<n→b6 B (gi (gr m step) c)) (h0:b6 B e8) (h1:b6 B first) (hb:2*B≤134217000) (ha:ahead≠0)
  (r1:lk ρ "a"=some (om (m.set row (fe e8 first ahead (gr m step) step (gr m row) j)))) (r2:lk ρ "row"=some (.af (.int (row:Int)))) (r3:lk ρ "step"=some (.af (.int (step:Int)))) (r4:lk ρ "lead"=some (.af (.int e8))) (r5:lk ρ "first"=some (.af (.int first))) (r6:lk ρ "ahead"=some (.af (.int ahead))) :
  (bp (dH (ay (av 52).body [1,1])) (.int ((step:Int)+1+(j:Int))) ρ).bind (λρ'=>cA (λg us=>aw T K k g us) [S "a"] [] K (bG (ay (av 52).body [1,1])) ρ') =
   some (.bU (put (ae "a") (om (m.set row (fe e8 first ahead (gr m step) step (gr m row) (j+1)))) (put (ae "column") (.af (.int ((step:Int)+1+(j:Int)))) ρ))):=by
 have l1:(m.set row (fe e8 first ahead (gr m step) step (gr m row) j)).length=n:=by rw[bM,hs.1]
 have l2:gr (m.set row (fe e8 first ahead (gr m step) step (gr m row) j)) row=fe e8 first ahead (gr m step) step (gr m row) j:=by rw[vS (by rw[hs.1];exact vg),if_pos rfl]
 have l3:gr (m.set row (fe e8 first ahead (gr m step) step (gr m row) j)) step=gr m step:=by rw[vS (by rw[hs.1];exact vg),if_neg (by exact Ic _ _ hr)]
 have l4:(fe e8 first ahead (gr m step) step (gr m row) j).length=n:=by rw[xC,hs.2 row vg]
 have e1:(step:Int)+1+(j:Int)=((step+1+j:Nat):Int):=rl 0x2706202c48514820345860802 rfl _ _
 have v1:gi (fe e8 first ahead (gr m step) step (gr m row) j) (step+1+j)=gi (gr m row) (step+1+j):=by
  rw[Ge _ _ _ _ _ _ _ (by rw[hs.2 row vg];exact Fv _ _ _ hj),if_neg (by exact Ie _ _)]
 have m1:cj (gi (fe e8 first ahead (gr m step) step (gr m row) j) (step+1+j)) e8=true:=by rw[v1];exact gT (hB1 _ hj) h0 (by exact M0 _ hb)
 have q:m.set row (fe e8 first ahead (gr m step) step (gr m row) (j+1))=(m.set row (fe e8 first ahead (gr m step) step (gr m row) j)).set row ((gr (m.set row (fe e8 first ahead (gr m step) step (gr m row) j)) row).set (step+1+j) ((gi (fe e8 first ahead (gr m step) step (gr m row) j) (step+1+j)*e8-first*gi (gr m step) (step+1+j)).fdiv ahead)):=by
  rw[l2,Fd];rfl
 refine(ak q)▸?_
 generalize m.set row (fe e8 first ahead (gr m step) step (gr m row) j)=m' at *
 generalize fe e8 first ahead (gr m step) step (gr m row) j=r' at *
 have i1:=@zJ m' row (row:Int) (by exact sC _ _ hn l1) (by exact zh _ _ _ vg l1) rfl
 have i2:=@zJ m' step (step:Int) (by exact sC _ _ hn l1) (by exact rl 0x1c81a04f4206e4202e4050204 rfl _ _ _ _ hr vg l1) rfl
 rw[l2] at i1
 rw[l3] at i2
 simp only[lk] at r1 r2 r3 r4 r5 r6
 simp only[bp]
 refine cV ?_ m5
 simp only[md,BR,IB,ao]
 rw[NB (m:=m') (a:=row) (c:=step+1+j) (by exact sC _ _ hn l1) (by exact zh _ _ _ vg l1) (by rw[l2];exact sC _ _ hn l4) (by rw[l2];exact Ib _ _ _ _ hj l4) ?_ ?_ ?_ ?_]
 ·rfl
 ·exact qe λq=>q (ln rfl r1) (ln rfl r2) i1 lq (@zP r' (step+1+j) ((step:Int)+1+(j:Int)) (by exact sC _ _ hn l4) (by exact Ib _ _ _ _ hj l4) e1) (ln rfl r4) (fY m1) (ln rfl r5) (ln rfl r1) (ln rfl r3) i2 lq (@zP (gr m step) (step+1+j) ((step:Int)+1+(j:Int)) (by exact sC _ _ hn (hs.2 step (by exact rl 0xe4050e405027204803 rfl _ _ _ hr vg):(gr m step).length=n)) (by exact Ib _ _ _ _ hj (hs.2 step (by exact rl 0xe4050e405027204803 rfl _ _ _ hr vg):(gr m step).length=n)) e1) (fY (gT h1 (hB2 _ hj) (by exact M0 _ hb):cj first (gi (gr m step) (step+1+j))=true)) (ln rfl r6) (nH ha)
 ·exact(ln rfl r1)
 ·exact(ln rfl r2)
 ·exact qe λq=>q lq
end
section
theorem Cs (step n:Nat):ke ((step:Int)+1) (n:Int)=(az (n-step-1)).map λ(i:Nat)=>DV.int ((step:Int)+1+(i:Int)):=by
 unfold ke
 exact(ak (show((n:Int)-((step:Int)+1)).toNat=n-step-1 by exact rl 0x1f6486c80a3d5a2c304060802 rfl _ _))▸rfl
theorem IW {C:ey}{m:List (List Int)}{x:Str}{ρ:au}{p q r:Pos}(h:ρ.lookup x=some (om m)) (hm:m.length≤bh):ev C (.Call (.Name (ae "len") p) [.Name x q] [] r) ρ=some (.af (.int (m.length:Int))):=by
 simp only[gR,j',eK,fy,h,a5,(by simp only[jo,Et,om,ag,jO,↓reduceIte,hm]:bi (ae "len") [om m]=some (.int (m.length:Int))),jO,↓reduceIte]
theorem Tv {K k B n step i:Nat}{ahead:Int}{m:List (List Int)}{ρ:au}(hn:n≤100) (hs:Sq n m) (hi:step+1+i<n) (hB:Bd B n m) (hb:2*B≤134217000) (ha:ahead≠0)
  (r1:lk ρ "a"=some (om (lS ahead n step m i))) (r3:lk ρ "step"=some (.af (.int (step:Int)))) (r4:lk ρ "lead"=some (.af (.int (gi (gr m step) step)))) (r6:lk ρ "ahead"=some (.af (.int ahead))) :
  ∃ ρ',(lk ρ' "a"=some (om (lS ahead n step m (i+1)))∧lk ρ' "step"=some (.af (.int (step:Int)))∧lk ρ' "lead"=some (.af (.int (gi (gr m step) step)))∧lk ρ' "ahead"=some (.af (.int ahead))) ∧
   (bp (dH (ay (av 52).body [1])) (.int ((step:Int)+1+(i:Int))) ρ).bind (λρ'=>cA (λg us=>aw T K k g us) [S "a"] [] K (bG (ay (av 52).body [1])) ρ')=some (.bU ρ'):=by
 have sQ:=FT (ahead:=ahead) (step:=step) (j:=i) hs (by exact Fv _ _ _ hi)
 have g1:gr (lS ahead n step m i) step=gr m step:=by rw[xn _ _ _ _ _ (by exact(ak hs.1)▸(Fv _ _ _ hi)),if_neg (by exact rl 0x17fb988624280a02e4050102 rfl _ _)]
 have g2:gr (lS ahead n step m i) (step+1+i)=gr m (step+1+i):=by rw[xn _ _ _ _ _ (by rw[hs.1];exact Fv _ _ _ hi),if_neg (by exact Ie _ _)]
 have q0:lS ahead n step m (i+1)=((lS ahead n step m i).set (step+1+i) (fe (gi (gr m step) step) (gi (gr m (step+1+i)) step) ahead (gr m step) step (gr m (step+1+i)) (n-step-1))).set (step+1+i) (((fe (gi (gr m step) step) (gi (gr m (step+1+i)) step) ahead (gr m step) step (gr m (step+1+i)) (n-step-1))).set step 0):=by
  rw[Fd];rfl
 have b1:=hB step step (by exact Ia _ _ _ hi) (by exact Ia _ _ _ hi)
 have b2:=hB (step+1+i) step (by exact rl 0x7202c409890a1c80b1026242803 rfl _ _ _ hi) (by exact Ia _ _ _ hi)
 have e1:(step:Int)+1+(i:Int)=((step+1+i:Nat):Int):=rl 0x2706202c48514820345860802 rfl _ _
 have vf:(gr m (step+1+i)).length=n:=hs.2 _ hi
 generalize hM:lS ahead n step m i=M at *
 generalize Dq:step+1+i=row at *
 have Kx:M.set row (gr M row)=M:=by
  apply List.ext_getElem?
  intro z
  refine(ak (g8))▸?_
  split
  ·rename_i h;subst h
   split
   ·rename_i h';rw[xq h']
   ·rename_i h';rw[fQ (by exact zp _ _ h')]
  ·rfl
 refine(ak e1)▸?_
 simp only[lk] at r1 r3 r4 r6
 have f1:=@zJ M row (row:Int) (by rw[sQ.1];exact j6 _ hn) (by rw[sQ.1];exact tV _ _ hi) rfl
 rw[g2] at f1
 have L:=sI (bd:=bp (dH (ay (av 52).body [1,1]))) (b:=λρ'=>cA (λg us=>aw T K k g us) [S "a"] [] K (bG (ay (av 52).body [1,1])) ρ')
  (λj ρ=>lk ρ "a"=some (om (M.set row (fe (gi (gr m step) step) (gi (gr m row) step) ahead (gr m step) step (gr m row) j)))∧lk ρ "row"=some (.af (.int (row:Int)))∧lk ρ "step"=some (.af (.int (step:Int)))∧lk ρ "lead"=some (.af (.int (gi (gr m step) step)))∧lk ρ "first"=some (.af (.int (gi (gr m row) step)))∧lk ρ "ahead"=some (.af (.int ahead)))
  ((az (n-step-1)).map λ(i:Nat)=>DV.int ((step:Int)+1+(i:Int))) 0 (put (ae "first") (.af (.int (gi (gr m row) step))) (put (ae "row") (.af (.int (row:Int))) ρ))
  (by
   refine⟨?_,?_,?_,?_,?_,?_⟩<;>simp only[lk,fF,↓reduceIte,String.reduceEq,r1,r3,r4,r6]
   rw[fe,←g2,Kx]) (by
   intro j hj ρ ⟨h1,h2,h3,h4,h5,h6⟩
   simp only[ag,cC] at hj
   rw[aX] at h1 ⊢
   rw[bF,dN]
   have t:=@Tu K k B n step row j (gi (gr m step) step) (gi (gr m row) step) ahead M ρ hn sQ (by exact rl 0x1c80a1e80b1026242803 rfl _ _ _ Dq) hi (by exact rl 0x7202c409890a1d6486c84050203 rfl _ _ _ hj) (λc hc=>by exact(ak g2)▸(hB _ c hi hc)) (λc hc=>by exact(ak g1)▸(hB _ c (by exact rl 0x390143901409e8131036242804 rfl _ _ _ _ Dq hi) hc)) b1 b2 hb ha (by exact(ak g1)▸(ak g2)▸h1) h2 h3 h4 h5 h6
   rw[g1,g2] at t
   refine⟨_,?_,.inl t⟩
   refine⟨?_,?_,?_,?_,?_,?_⟩<;>simp only[lk,fF,↓reduceIte,String.reduceEq]
   ·exact h2
   ·exact h3
   ·exact h4
   ·exact h5
   ·exact h6)
 obtain⟨ρ',⟨h1,h2,h3,h4,h5,h6⟩,hL⟩:=L
 rw[show 0+((az (n-step-1)).map λ(i:Nat)=>DV.int ((step:Int)+1+(i:Int))).length=n-step-1 by simp] at h1
 simp only[lk] at h1 h2 h3 h4 h5 h6
 refine⟨put (ae "a") (om (lS ahead n step m (i+1))) ρ',⟨by exact lq,by simpa only [lk,fF,jO,↓reduceIte,String.reduceEq,reduceCtorEq] using h3,by simpa only [lk,fF,jO,↓reduceIte,String.reduceEq,reduceCtorEq] using h4,by simpa only [lk,fF,jO,↓reduceIte,String.reduceEq,reduceCtorEq] using h6⟩,?_⟩
 simp only[bp]
 refine cV (lH (d:=.int (gi (gr m row) step)) rfl ?_) (cV (ρ':=ρ') ?_ (cV ?_ m5))
 ·exact qe λq=>q (ln rfl r1) lq f1 (ln rfl r3) (@zP (gr m row) step (step:Int) (by exact sC _ _ hn vf) (by exact MZ _ _ _ _ _ Dq hi vf) rfl)
 ·rw[←hL]
  have k2:eJ (λg us=>aw T K k g us) (Cf (ay (av 52).body [1,1])) (put (ae "first") (.af (.int (gi (gr m row) step))) (put (ae "row") (.af (.int (row:Int))) ρ))=some ((az (n-step-1)).map λ(i:Nat)=>DV.int ((step:Int)+1+(i:Int))):=by
   rw[←Cs,←sQ.1]
   refine GQ rfl ?_ ((@IW (λg us=>aw T K k g us) M (ae "a") (put (ae "first") (.af (.int (gi (gr m row) step))) (put (ae "row") (.af (.int (row:Int))) ρ))) ?_ ?_) (by exact(ak sQ.1)▸(rl 0x1ffc5600000001208146081716000000013f15800000004a2c3040634586080f16000000011c81206f40d88624280b5242050204 rfl _ _ _ _ hn Dq hi):(-(bh:Int)≤(step:Int)+1∧(step:Int)+1≤bh)∧-(bh:Int)≤(M.length:Int)∧(M.length:Int)≤bh)
   ·exact qe λq=>q (ln rfl (ln rfl r3))
   ·exact(ln rfl (ln rfl r1))
   ·rw[sQ.1];exact j6 _ hn
  rw[pz]
  erw [k2]
  rfl
 ·simp only[md,BR,IB,ao]
  rw[NB (m:=M.set row (fe (gi (gr m step) step) (gi (gr m row) step) ahead (gr m step) step (gr m row) (n-step-1))) (a:=row) (c:=step) (v:=0) (by rw[bM,sQ.1];exact j6 _ hn) (by rw[bM,sQ.1];exact tV _ _ hi) (by rw[vS (by rw[sQ.1];exact tV _ _ hi),if_pos rfl,xC];exact sC _ _ hn vf) (by rw[vS (by rw[sQ.1];exact tV _ _ hi),if_pos rfl,xC];exact MZ _ _ _ _ _ Dq hi vf) rfl h1 h2 ?_]
  ·rw[vS (by rw[sQ.1];exact tV _ _ hi),if_pos rfl,q0]
   rfl
  ·exact qe λq=>q h3
end
section
theorem y3P {K k B n step:Nat}{ahead:Int}{m:List (List Int)}(hk:1≤k) (hn:n≤100) (hs:Sq n m) (cI:step<n) (hB:Bd B n m) (hb:2*B≤134217000) (ha:ahead≠0) :
  aw T K k (S "bareiss_step") [om m,.af (.int (step:Int)),.af (.int ahead)]=some (.none,[om (lS ahead n step m (n-step-1)),.af (.int (step:Int)),.af (.int ahead)]):=by
 obtain⟨k,rfl⟩:∃ k',k=k'+1:=⟨k-1,by exact H9 _ hk⟩
 refine Js y4j y4o y48 y4x rfl rfl rfl ?_
 have z:[S "a",S "step",S "ahead"].zip [.own (m.map mi),.af (.int (step:Int)),.af (.int ahead)]=[((ae "a"),om m),((ae "step"),.af (.int (step:Int))),((ae "ahead"),.af (.int ahead))]:=rfl
 refine(ak z)▸?_
 generalize dz:([((ae "a"),om m),((ae "step"),.af (.int (step:Int))),((ae "ahead"),.af (.int ahead))]:au)=ρ0
 have l1:aj (ae "a") ρ0=some (om m):=by subst dz;simp only[gn,↓reduceIte]
 have l2:aj (ae "step") ρ0=some (.af (.int (step:Int))):=by subst dz;simp only[gn,↓reduceIte,String.reduceEq]
 have l3:aj (ae "ahead") ρ0=some (.af (.int ahead)):=by subst dz;simp only[gn,↓reduceIte,String.reduceEq]
 clear dz z
 have L:=sI (bd:=bp (dH (ay (av 52).body [1]))) (b:=λρ'=>cA (λg us=>aw T K k g us) [S "a"] [] K (bG (ay (av 52).body [1])) ρ')
  (λi ρ=>lk ρ "a"=some (om (lS ahead n step m i))∧lk ρ "step"=some (.af (.int (step:Int)))∧lk ρ "lead"=some (.af (.int (gi (gr m step) step)))∧lk ρ "ahead"=some (.af (.int ahead)))
  ((az (n-step-1)).map λ(i:Nat)=>DV.int ((step:Int)+1+(i:Int))) 0 (put (ae "lead") (.af (.int (gi (gr m step) step))) ρ0)
  (by refine⟨?_,?_,?_,?_⟩<;>(first | exact(ln rfl l1) | exact(ln rfl l2) | exact lq | exact(ln rfl l3))) (by
   intro j hj ρ ⟨h1,h2,h3,h4⟩
   simp only[ag,cC] at hj
   rw[aX] at h1 ⊢
   rw[bF,dN]
   refine aT (@Tv K k B n step j ahead m ρ hn hs (by exact rl 0x7202c409890a1d6486c84050203 rfl _ _ _ hj) hB hb ha h1 h2 h3 h4) λρ' q1 q2=>?_
   exact⟨ρ',q1,.inl q2⟩)
 obtain⟨ρ',⟨h1,h2,h3,h4⟩,hL⟩:=L
 rw[show 0+((az (n-step-1)).map λ(i:Nat)=>DV.int ((step:Int)+1+(i:Int))).length=n-step-1 by simp] at h1
 refine⟨ρ',.inr ⟨rfl,?_⟩,h1⟩
 refine cV (lH (d:=.int (gi (gr m step) step)) rfl ?_) (cV (ρ':=ρ') ?_ m5)
 ·exact qe λq=>q l1 l2 (@zJ m step (step:Int) (by exact(ak hs.1)▸(j6 _ hn)) (by exact(ak hs.1)▸(tV _ _ cI)) rfl) l2 (@zP (gr m step) step (step:Int) (by exact(ak (hs.2 _ cI))▸(j6 _ hn)) (by exact(ak (hs.2 _ cI))▸(tV _ _ cI)) rfl)
 ·refine hL▸?_
  have k2:eJ (λg us=>aw T K k g us) (Cf (ay (av 52).body [1])) (put (ae "lead") (.af (.int (gi (gr m step) step))) ρ0)=some ((az (n-step-1)).map λ(i:Nat)=>DV.int ((step:Int)+1+(i:Int))):=by
   rw[←Cs,←hs.1]
   refine GQ rfl ?_ ((@IW (λg us=>aw T K k g us) m (ae "a") (put (ae "lead") (.af (.int (gi (gr m step) step))) ρ0)) ?_ ?_) (by exact(ak hs.1)▸(rl 0xffe2b0000000090406304078b000000009f8ac0000000251618223458608e2c000000023901435242050102 rfl _ _ hn cI):(-(bh:Int)≤(step:Int)+1∧(step:Int)+1≤bh)∧-(bh:Int)≤(m.length:Int)∧(m.length:Int)≤bh)
   ·exact qe λq=>q (ln rfl l2)
   ·exact(ln rfl l1)
   ·exact(ak hs.1)▸(j6 _ hn)
  rw[pz]
  erw [k2]
  rfl
noncomputable def nJ (m:List (List Int)) (step:Nat):Nat→Nat→Option Nat
 | 0,_=>none
 | r+1,i=>if gi (gr m i) step≠0 then some i else nJ m step r (i+1)
theorem Iw {m:List (List Int)}{step:Nat}:∀ r i,nJ m step (r+1) i=(if gi (gr m i) step≠0 then some i else nJ m step r (i+1)):=λ_ _=>rfl
noncomputable def KV:Option Nat→DV
 | some i=>.int (i:Int)
 | none=>.none
theorem PT {K k n step:Nat}{m:List (List Int)}(hn:n≤100) (hs:Sq n m) (cI:step<n):∀ (r i:Nat) (ρ:au),i+r=n→lk ρ "a"=some (om m)→lk ρ "step"=some (.af (.int (step:Int))) →
  ∃ o,fN (bp (dH (ay (av 51).body [0]))) (λρ'=>cA (λg us=>aw T K k g us) [S "a"] [] K (bG (ay (av 51).body [0])) ρ') ((az r).map λ(j:Nat)=>DV.int ((i:Int)+(j:Int))) ρ=some o ∧
   ∃ ρ',lk ρ' "a"=some (om m)∧(match nJ m step r i with | some p=>o=.ret (.int (p:Int)) ρ' | none=>o=.bU ρ')
 | 0,i,ρ,_,h1,h2=>⟨.bU ρ,rfl,ρ,h1,rfl⟩
 | r+1,i,ρ,hr,h1,h2=>by
  simp only[lk] at h1 h2
  have hd:((az (r+1)).map λ(j:Nat)=>DV.int ((i:Int)+(j:Int)))=DV.int (i:Int)::(az r).map λ(j:Nat)=>DV.int (((i+1:Nat):Int)+(j:Int)):=by
   rw[iY,a8,aN]
   congr 1
   apply dC
   intro j _
   simp only[mG]
   congr 1
   exact rl 0x4e904060c48514831214060802 rfl _ _
  rw[hd,zT]
  have hbd:bp (dH (ay (av 51).body [0])) (DV.int (i:Int)) ρ=some (put (ae "row") (.af (.int (i:Int))) ρ):=rfl
  rw[hbd,ao]
  have hif:∀ c:Bool,c=(!decide (gi (gr m i) step=0))→cA (λg us=>aw T K k g us) [S "a"] [] K (bG (ay (av 51).body [0])) (put (ae "row") (.af (.int (i:Int))) ρ)=if c then some (.ret (.int (i:Int)) (put (ae "row") (.af (.int (i:Int))) ρ)) else some (.bU (put (ae "row") (.af (.int (i:Int))) ρ)):=by
   intro c hc
   have RL:fx (λg us=>aw T K k g us) (dG (ay (av 51).body [0,0])) (put (ae "row") (.af (.int (i:Int))) ρ)=some c:=by
    exact qb λq=>a7 (q (ln rfl h1) lq (@zJ m i (i:Int) (by rw[hs.1];exact j6 _ hn) (by rw[hs.1];exact xa _ _ _ hr) rfl) (ln rfl h2) (@zP (gr m i) step (step:Int) (by rw[hs.2 _ (by exact xa _ _ _ hr)];exact j6 _ hn) (by rw[hs.2 _ (by exact xa _ _ _ hr)];exact tV _ _ cI) rfl) rfl) (by(congr 1;lia))
   cases c with
   | true=>
    refine fZ (kL RL ?_)
    rw[if_pos rfl]
    exact fZ (jQ (by exact qe λq=>q lq))
   | false=>exact cV (kL RL rfl) m5
  refine(ak (hif _ rfl))▸?_
  rw[Iw]
  by_cases h0:gi (gr m i) step=0
  ·have hp:(if gi (gr m i) step≠0 then some i else nJ m step r (i+1))=nJ m step r (i+1):=if_neg (by simpa using h0)
   rw[decide_eq_true h0,hp]
   simp only[cZ,cg,if_false,ao]
   exact PT hn hs cI r (i+1) _ (by exact H8 _ _ _ hr) (by simpa only [lk,fF,jO,↓reduceIte,String.reduceEq,reduceCtorEq] using h1) (by simpa only [lk,fF,jO,↓reduceIte,String.reduceEq,reduceCtorEq] using h2)
  ·have hp:(if gi (gr m i) step≠0 then some i else nJ m step r (i+1))=some i:=if_pos h0
   rw[decide_eq_false h0,hp]
   simp only[y9,if_true,ao]
   exact⟨_,rfl,put (ae "row") (.af (.int (i:Int))) ρ,by simpa only [lk,fF,jO,↓reduceIte,String.reduceEq,reduceCtorEq] using h1,rfl⟩
theorem y6d {K k n step:Nat}{m:List (List Int)}(hk:1≤k) (hn:n≤100) (hs:Sq n m) (cI:step<n) :
  aw T K k (S "pivot_row") [om m,.af (.int (step:Int))]=some (KV (nJ m step (n-step) step),[om m,.af (.int (step:Int))]):=by
 obtain⟨k,rfl⟩:∃ k',k=k'+1:=⟨k-1,by exact H9 _ hk⟩
 refine Js y7b y7g y6u y7p rfl rfl (by cases nJ m step (n-step) step<;>rfl) ?_
 have z:[S "a",S "step"].zip [.own (m.map mi),.af (.int (step:Int))]=[((ae "a"),om m),((ae "step"),.af (.int (step:Int)))]:=rfl
 refine(ak z)▸?_
 generalize dz:([((ae "a"),om m),((ae "step"),.af (.int (step:Int)))]:au)=ρ0
 have l1:aj (ae "a") ρ0=some (om m):=by subst dz;simp only[gn,↓reduceIte]
 have l2:aj (ae "step") ρ0=some (.af (.int (step:Int))):=by subst dz;simp only[gn,↓reduceIte,String.reduceEq]
 clear dz z
 refine F3 (@PT K k n step m hn hs cI (n-step) step ρ0 (by exact rl 0xf432c80a1017210102 rfl _ _ cI) l1 l2) λo hL ρ' ha ho=>?_
 have e3:(-(bh:Int)≤(step:Int)∧(step:Int)≤bh)∧-(bh:Int)≤(m.length:Int)∧(m.length:Int)≤bh:=by rw[hs.1];exact rl 0x3ff8ac0000000241018c101e2c000000027e2b000000009044608e2c000000023901435242050102 rfl _ _ hn cI
 have e4:ke (step:Int) (m.length:Int)=(az (n-step)).map λ(j:Nat)=>DV.int ((step:Int)+(j:Int)):=by
  unfold ke
  exact(ak hs.1)▸(ak (show((n:Int)-(step:Int)).toNat=n-step by exact rl 0x7d90147ab04060802 rfl _ _))▸rfl
 have k2:eJ (λg us=>aw T K k g us) (Cf (ay (av 51).body [0])) ρ0=some ((az (n-step)).map λ(j:Nat)=>DV.int ((step:Int)+(j:Int))):=by
  refine e4▸?_
  refine GQ rfl ?_ ((@IW (λg us=>aw T K k g us) m (ae "a") ρ0) ?_ ?_) e3
  ·exact qe λq=>q l2
  ·kernel_rfl
  ·exact(ak hs.1)▸(j6 _ hn)
 have k3:ex (λg us=>aw T K k g us) [S "a"] [] K (ay (av 51).body [0]) ρ0=some o:=by
  refine hL▸?_
  show ex _ _ _ K (.For _ _ _ [] _) _=_
  rw[pz]
  erw [k2]
  rfl
 refine⟨ρ',?_,ha⟩
 cases hp:nJ m step (n-step) step with
 | none=>
  rw[hp] at ho
  subst ho
  exact .inl (cV k3 (fZ (jQ rfl)))
 | some p=>
  rw[hp] at ho
  subst ho
  exact .inl (fZ k3)
end
section
structure DS where
 m:List (List Int)
 sign:Int
 ahead:Int
noncomputable def mK (m:List (List Int)) (i j:Nat):List (List Int):=(m.set i (gr m j)).set j (gr m i)
noncomputable def gW (n step:Nat) (s:DS):Option DS:=match nJ s.m step (n-step) step with
 | none=>none
 | some r=>some ⟨lS s.ahead n step (if r=step then s.m else mK s.m r step) (n-step-1),if r=step then s.sign else -s.sign,gi (gr (lS s.ahead n step (if r=step then s.m else mK s.m r step) (n-step-1)) step) step⟩
noncomputable def ou (n:Nat):Nat→Nat→DS→Option DS
 | 0,_,s=>some s
 | r+1,step,s=>(gW n step s).bind (ou n r (step+1))
theorem N3 {n:Nat}:∀ r step s,ou n (r+1) step s=((gW n step s).bind (ou n r (step+1))):=λ_ _ _=>rfl
noncomputable def fc (n:Nat) (m:List (List Int)):Int:=match ou n n 0 ⟨m,1,1⟩ with
 | none=>0
 | some s=>s.sign*s.ahead
theorem Gx {m:List (List Int)}{step:Nat}:∀ {r i p:Nat},nJ m step r i=some p→i≤p∧p<i+r∧gi (gr m p) step≠0
 | 0,i,p,h=>by cases h
 | r+1,i,p,h=>by
  rw[Iw] at h
  split at h
  ·rename_i h0;cases h;exact⟨by exact rl 0x350801 rfl _,by exact rl 0xe631214050802 rfl _ _,h0⟩
  ·refine fL (Gx h) λh1 h2 h3=>?_;exact⟨by exact rP _ _ h1,by exact rl 0x731890a0480a1cc409890a02803 rfl _ _ _ h2,h3⟩
theorem FZ {m:List (List Int)}{i j:Nat}(hi:i<m.length) (hj:j<m.length) (k:Nat):gr (mK m i j) k=if k=j then gr m i else if k=i then gr m j else gr m k:=by
 unfold mK
 rw[vS (by exact(ak bM)▸hj),vS hi]
theorem IS {n:Nat}{m:List (List Int)}{i j:Nat}(h:Sq n m) (hi:i<n) (hj:j<n):Sq n (mK m i j):=by
 refine⟨by unfold mK;rw[bM,bM,h.1],λk hk=>?_⟩
 rw[FZ (by rw[h.1];exact hi) (by rw[h.1];exact hj)]
 split
 ·exact h.2 i hi
 ·split
  ·exact h.2 j hj
  ·exact h.2 k hk
theorem Oz {n B:Nat}{m:List (List Int)}{i j:Nat}(h:Sq n m) (hB:Bd B n m) (hi:i<n) (hj:j<n):Bd B n (mK m i j):=by
 intro k c hk hc
 rw[FZ (by rw[h.1];exact hi) (by rw[h.1];exact hj)]
 split
 ·exact hB i c hi hc
 ·split
  ·exact hB j c hj hc
  ·exact hB k c hk hc
noncomputable def Es (B:Nat):Nat→Nat
 | 0=>B
 | s+1=>2*Es B s+1
structure tR (n B step:Nat) (s:DS):Prop where
 sq:Sq n s.m
 bd:Bd (Es B step) n s.m
 a0:s.ahead≠0
 ab:b6 (Es B step) s.ahead
 sg:s.sign=1∨s.sign=-1
theorem W7 {n B step:Nat}{s s':DS}(cI:step<n) (o:tR n B step s) (h:gW n step s=some s'):tR n B (step+1) s':=by
 unfold gW at h
 refine kC (nJ s.m step (n-step) step) (λhp=>?_) (λr hp=>?_)
 ·have h:=hp▸h;cases h
 ·rw[hp] at h
  cases h
  refine fL (Gx hp) λp1 p2 p3=>?_
  have hr:r<n:=H7 _ _ _ cI p2
  have z8:Sq n (if r=step then s.m else mK s.m r step):=by
   split
   ·exact o.sq
   ·exact IS o.sq hr cI
  have Mw:Bd (Es B step) n (if r=step then s.m else mK s.m r step):=by
   split
   ·exact o.bd
   ·exact Oz o.sq o.bd hr cI
  have g1:gr (lS s.ahead n step (if r=step then s.m else mK s.m r step) (n-step-1)) step=gr s.m r:=by
   rw[xn _ _ _ _ _ (by exact(ak z8.1)▸(ze _ _ cI)),if_neg (by exact MY _ _)]
   split
   ·rename_i e;exact(ak e)▸rfl
   ·rw[FZ (by exact(ak o.sq.1)▸hr) (by exact(ak o.sq.1)▸cI),if_pos rfl]
  refine⟨FT z8 (by exact ze _ _ cI),TS z8 Mw cI (by exact ze _ _ cI),?_,?_,?_⟩
  ·dsimp only;rw[g1];exact p3
  ·dsimp only;rw[g1];exact i9 (by show _≤2*Es B step+1;exact rl 0x6b121c090801 rfl _) (o.bd r step hr cI)
  ·split
   ·exact o.sg
   ·refine o.sg.elim (λe=>?_) λe=>?_<;>refine(ak e)▸?_<;>simp
theorem y5w:T (S "determinant")=some (av 53):=by kernel_rfl
theorem y5A:(av 53).params=[S "a"]:=by kernel_rfl
theorem y4r:(av 53).PN=[]:=by kernel_rfl
theorem y5H:(av 53).M=[(S "found",2)]:=by kernel_rfl
noncomputable def dR (s:DS) (ρ:au):Prop:=lk ρ "found"=some (om s.m)∧lk ρ "sign"=some (.af (.int s.sign))∧lk ρ "ahead"=some (.af (.int s.ahead))
noncomputable def stT:Stmt→Expr
 | .Assign (t::_) _ _=>t
 | _=>vr
theorem TX {K k n B step:Nat}{s:DS}{ρ:au}(hk:1≤k) (hn:n≤100) (cI:step<n) (o:tR n B step s) (hb:2*Es B step≤134217000) (r:dR s ρ) :
  ∃ ρ',(bp (dH (ay (av 53).body [2])) (.int (step:Int)) ρ).bind (λρ'=>cA (λg us=>aw T K k g us) [] [(S "found",2)] K (bG (ay (av 53).body [2])) ρ')=some (match gW n step s with | none=>.ret (.int 0) ρ' | some _=>.bU ρ')∧(∀ s',gW n step s=some s'→dR s' ρ'):=by
 refine fL r λr1 r2 r3=>?_;clear r
 have c1:=@y6d K k n step s.m hk hn o.sq cI
 simp only[S,lk] at r1 r2 r3 c1
 unfold gW
 simp only[om] at r1 c1
 cases hp:nJ s.m step (n-step) step with
 | none=>
  have c1:=hp▸c1
  refine⟨put (ae "row") (.af .none) (put (ae "found") (om s.m) (put (ae "step") (.af (.int (step:Int))) ρ)),?_,λs' h=>by cases h⟩
  simp only[om]
  exact oV λq=>q false true r1 c1 rfl true
 | some p=>
  have c1:=hp▸c1
  refine fL (Gx hp) λp1 p2 p3=>?_
  have hr:p<n:=H7 _ _ _ cI p2
  have z8:Sq n (if p=step then s.m else mK s.m p step):=by
   split
   ·exact o.sq
   ·exact IS o.sq hr cI
  have Mw:Bd (Es B step) n (if p=step then s.m else mK s.m p step):=by
   split
   ·exact o.bd
   ·exact Oz o.sq o.bd hr cI
  have c2:=@y3P K k (Es B step) n step s.ahead (if p=step then s.m else mK s.m p step) hk hn z8 cI Mw hb o.a0
  have G0:=FT (ahead:=s.ahead) (step:=step) (j:=n-step-1) z8 (by exact ze _ _ cI)
  generalize wk:(if p=step then s.m else mK s.m p step)=m1 at *
  generalize Hd:lS s.ahead n step m1 (n-step-1)=m2 at *
  have f1:=@zJ m2 step (step:Int) (by rw[G0.1];exact j6 _ hn) (by rw[G0.1];exact tV _ _ cI) rfl
  have f2:=@zP (gr m2 step) step (step:Int) (by rw[G0.2 _ cI];exact j6 _ hn) (by rw[G0.2 _ cI];exact tV _ _ cI) rfl
  simp only[S] at c2
  have sl:=o.sq.1
  have x3:(0:Int)≤(p:Int)∧(0:Int)≤(step:Int):=rl 0x3f18202b8c10b02 rfl _ _
  refine⟨put (ae "ahead") (.af (.int (gi (gr m2 step) step))) (put (ae "found") (om m2) (if p=step then (put (ae "row") (.af (.int (p:Int))) (put (ae "found") (om s.m) (put (ae "step") (.af (.int (step:Int))) ρ))) else
   (put (ae "sign") (.af (.int (-s.sign))) (put (ae "found") (om (mK s.m p step)) (put (ae "row") (.af (.int (p:Int))) (put (ae "found") (om s.m) (put (ae "step") (.af (.int (step:Int))) ρ))))))),?_,?_⟩
  ·by_cases e:p=step
   ·rw[if_pos e]
    rw[if_pos e] at wk
    subst wk
    simp only[om] at c2 ⊢
    exact oV λq=>q false true r1 c1 rfl (nf (by exact rl 0x270406087a02802 rfl _ _ e)) true false true r3 c2 true f1 f2
   ·rw[if_neg e]
    rw[if_neg e] at wk
    subst wk
    have Hb:mB (λg us=>aw T K k g us) [] [(S "found",2)] (stT (ay (av 53).body [2,2,0])) (b8 (ay (av 53).body [2,2,0])) (cR [(ae "row",.af (.int (p:Int))),(ae "found",om s.m),(ae "step",.af (.int (step:Int)))] ρ)=some (put (ae "found") (om (mK s.m p step)) (cR [(ae "row",.af (.int (p:Int))),(ae "found",om s.m),(ae "step",.af (.int (step:Int)))] ρ)):=by
     show mB _ _ _ (.Tuple [.Subscript (.Name _ _) (.Name _ _) _,.Subscript (.Name _ _) (.Name _ _) _] _ _) (.Tuple [.Subscript (.Name _ _) (.Name _ _) _,.Subscript (.Name _ _) (.Name _ _) _] _ _) _=_
     simp only[q8,J8,uM,BY,UR,IB,and_self,pM,tf,yf,xV,tI,cy,zL,gn,↓reduceIte,String.reduceEq,ag,aU,(xq (m:=s.m) (i:=p) (by exact zh _ _ _ hr sl)),(xq (m:=s.m) (i:=step) (by exact zh _ _ _ cI sl)),(kM (by exact sC _ _ hn sl) (by exact zh _ _ _ hr sl):eI s.m.length (p:Int)=some p),(kM (by exact sC _ _ hn sl) (by exact zh _ _ _ cI sl):eI s.m.length (step:Int)=some step),x3,jO,↓reduceIte,om,mK,cL]
    simp only[om] at c2 Hb ⊢
    exact oV λq=>q false true r1 c1 rfl (nt (by exact rl 0xbce080c1177a02802 rfl _ _ e)) Hb true (ln rfl (ln rfl (ln rfl (ln rfl r2)))) true false true lq (ln rfl (ln rfl (ln rfl lq))) (ln rfl (ln rfl (ln rfl (ln rfl r3)))) c2 true (ln rfl (ln rfl (ln rfl lq))) f1 (ln rfl (ln rfl (ln rfl lq))) f2
  ·rintro s' h
   cases h
   by_cases e:p=step
   ·refine⟨by simp only[lk,fF,↓reduceIte,String.reduceEq,wk,Hd],?_,by simp only[lk,fF,↓reduceIte,wk,Hd]⟩
    simp only[if_pos e]
    exact(ln rfl (ln rfl (ln rfl (ln rfl (ln rfl r2)))))
   ·refine⟨by simp only[lk,fF,↓reduceIte,String.reduceEq,wk,Hd],?_,by simp only[lk,fF,↓reduceIte,wk,Hd]⟩
    simp only[if_neg e]
    exact(ln rfl (ln rfl lq))
end
section
theorem NN:∀ s,s≤4→2*Es 60 s≤134217000∧1≤Es 60 s:=by decide
theorem TM (r i:Nat):((az (r+1)).map λ(j:Nat)=>DV.int ((i:Int)+(j:Int)))=DV.int (i:Int)::(az r).map λ(j:Nat)=>DV.int (((i+1:Nat):Int)+(j:Int)):=by
 rw[iY,a8,aN]
 congr 1
 apply dC
 intro j _
 simp only[mG]
 congr 1
 exact rl 0x4e904060c48514831214060802 rfl _ _
theorem N4 {K k n:Nat}(hk:1≤k) (hn:n≤4):∀ (r step:Nat) (s:DS) (ρ:au),step+r=n→tR n 60 step s→dR s ρ →
  ∃ o,fN (bp (dH (ay (av 53).body [2]))) (λρ'=>cA (λg us=>aw T K k g us) [] [(S "found",2)] K (bG (ay (av 53).body [2])) ρ') ((az r).map λ(j:Nat)=>DV.int ((step:Int)+(j:Int))) ρ=some o ∧
   (match ou n r step s with | none=>∃ ρ',o=.ret (.int 0) ρ' | some s'=>∃ ρ',o=.bU ρ'∧dR s' ρ'∧tR n 60 n s')
 | 0,step,s,ρ,h,o,r=>⟨.bU ρ,rfl,ρ,rfl,r,(show step=n by exact rl 0x1e80a1e80b12802 rfl _ _ h)▸o⟩
 | r+1,step,s,ρ,h,o,hr=>by
  refine aT (@TX K k n 60 step s ρ hk (by exact rl 0x1a9210286a48801 rfl _ hn) (by exact xa _ _ _ h) o (NN step (by exact rl 0x6a48813d01631214204d4910103 rfl _ _ _ hn h)).1 hr) λρ' h1 h2=>?_
  rw[TM,zT,N3]
  cases hb:bp (dH (ay (av 53).body [2])) (DV.int (step:Int)) ρ with
  | none=>rw[hb] at h1;cases h1
  | some ρ₁=>
   rw[hb,ao] at h1
   rw[ao]
   cases hd:gW n step s with
   | none=>
    rw[hd] at h1
    exact(ak h1)▸(⟨_,rfl,ρ',rfl⟩)
   | some s'=>
    rw[hd] at h1
    rw[h1]
    exact N4 hk hn r (step+1) s' ρ' (by exact H8 _ _ _ h) (W7 (by exact xa _ _ _ h) o hd) (h2 s' hd)
noncomputable def dm (m:List (List Int)):DV:=.list (m.map il)
theorem P9 {k:DV→Option (List DV)}:∀ {l:List DV},(∀ d∈l,k d=some [])→gV k l=some []
 | [],_=>rfl
 | d::l,h=>by rw[Bs,h d (.head _),P9 λe he=>h e (.tail _ he)];rfl
theorem IL {n:Nat}{m:List (List Int)}(h:Sq n m){r:List Int}(hr:r∈m):r.length=n:=by
 obtain⟨i,hi,rfl⟩:=j4 hr
 have:=h.2 i (by exact h.1▸hi)
 rwa [gr,aB hi] at this
theorem GU {K k n:Nat}{m:List (List Int)}(hk:2≤k) (hn:n≤4) (hs:Sq n m) (hB:Bd 60 n m) :
  aw T K k (S "determinant") [.af (dm m)]=some (.int (fc n m),[.af (dm m)]):=by
 obtain⟨k,rfl⟩:∃ k',k=k'+1:=⟨k-1,by exact rl 0xf62436485086a12201 rfl _ hk⟩
 refine eR y5w y5A y4r y5H rfl rfl ?_
 have z:[S "a"].zip [OT.af (dm m)]=[((ae "a"),.af (dm m))]:=rfl
 refine(ak z)▸?_
 generalize dz:([((ae "a"),.af (dm m))]:au)=ρ0
 have l1:aj (ae "a") ρ0=some (.af (.list (m.map il))):=by subst dz;simp only[gn,↓reduceIte];rfl
 clear dz z
 have hl:=hs.1
 have s0:ex (λg us=>aw T K k g us) [] [(S "found",2)] K (ay (av 53).body [0]) ρ0=some (.bU ρ0):=by
  have hc:ev (λg us=>aw T K k g us) (jG (dG (ay (av 53).body [0])) [0]) ρ0=some (.af (.list [])):=by
   show ev _ (.ListComp (.Name _ _) (⟨.Name _ _,.Name _ _,[.Compare (.Call (.Name _ _) [.Name _ _] [] _) [_] [.Call (.Name _ _) [.Name _ _] [] _] _],_⟩::[]) _ _) _=_
   rw[uA,if_pos]
   ·simp only[nv,ny,vo,l1,vp,ao]
    rw[P9]
    ·kernel_rfl
    ·intro d hd
     obtain⟨r,hr,rfl⟩:=aE.mp hd
     have e:((r.length:Int)=(m.length:Int)):=rl 0x4e088202f409017a04803 rfl _ _ _ hl (IL hs hr)
     have b2:bi (ae "len") [.af (.list (m.map il))]=some (.int (m.length:Int)):=by simp only[jo,jI,ag,jO,↓reduceIte,show m.length≤bh by exact zd _ _ hn hl]
     simp only[cW,iS,seen,jD,jl,mf,cy,ao,aD,aS,bj,l1,gn,jO,↓reduceIte,String.reduceEq,bB,pS,Mq,zC,gR,j',eK,fy,cT,a5,(by simp only[jo,jI,il,ag,jO,↓reduceIte,show r.length≤bh by exact zd _ _ hn (IL hs hr)]:bi (ae "len") [.af (il r)]=some (.int (r.length:Int))),b2,cy,I8,e,decide_true,cZ]
   ·kernel_rfl
  show ex _ _ _ _ (.If (.Compare (jG (dG (ay (av 53).body [0])) [0]) [_] [_] _) _ [] _) _=_
  refine kL (c:=false) ?_ rfl
  rw[zC,hc]
  ·rfl
 have s1:ex (λg us=>aw T K k g us) [] [(S "found",2)] K (ay (av 53).body [1]) ρ0=some (.bU (put (ae "ahead") (.af (.int 1)) (put (ae "sign") (.af (.int 1)) (put (ae "found") (om m) ρ0)))):=by
  have hx:nL (λg us=>aw T K k g us) [] 2 (fB (b8 (ay (av 53).body [1])) 0) ρ0=some (om m,ρ0):=by
   show nL _ _ 2 (.ListComp (.Call (.Name _ _) [.Name _ _] [] _) (⟨.Name _ _,.Name _ _,[],_⟩::[]) _ _) _=_
   simp only[vX2]
   rw[if_pos]
   ·simp only[nv,ny,vo,l1,vp,ao]
    rw[xu il il (l:=m)]
    ·simp only[ao,ag,show m.length≤bh by exact zd _ _ hn hl]
     rw[if_pos]
     ·rw[om,aN]
      congr 4
      funext r
      simp only[mG,il,Kd,mi,if_true,aN]
      rfl
     ·simp only[decide_true,ij,List.all_map,aA]
      intro r _
      rfl
    ·intro r hr
     simp only[cW,iS,seen,jl,mf,cy,ao,aD,aS,bj,gn,jO,↓reduceIte,String.reduceEq,bB,pS,gR,j',eK,fy,cT,a5,(by simp only[vw,pO,il,ag,jO,↓reduceIte,show r.length≤bh by exact zd _ _ hn (IL hs hr)]:bi (ae "list") [.af (il r)]=some (il r)),cy]
     rfl
   ·kernel_rfl
  show ex _ _ _ _ (.Assign [_] (.Tuple [fB (b8 (ay (av 53).body [1])) 0,.Constant _ _ _,.Constant _ _ _] _ _) _) _=_
  simp only[md,q8,BN,sM,sN,(by simp only[gG,rn,S,jO,↓reduceIte]:gG [(S "found",2)] (ae "found")=2),(by simp only[gG,rn,S,jO,↓reduceIte,String.reduceEq]:gG [(S "found",2)] (ae "sign")=0),(by simp only[gG,rn,S,jO,↓reduceIte,String.reduceEq]:gG [(S "found",2)] (ae "ahead")=0),hx,jO]
  kernel_rfl
 generalize mu:put (ae "ahead") (.af (.int 1)) (put (ae "sign") (.af (.int 1)) (put (ae "found") (om m) ρ0))=ρ1 at *
 have r0:dR ⟨m,1,1⟩ ρ1:=by subst mu;exact⟨by exact(ln rfl (ln rfl lq)),by exact(ln rfl lq),by exact lq⟩
 have la:aj (ae "a") ρ1=some (.af (dm m)):=by subst mu;exact(ln rfl (ln rfl (ln rfl (l1:aj (ae "a") ρ0=some (.af (dm m))))))
 clear mu
 refine aT (@N4 K k n (by exact vN _ hk) hn n 0 ⟨m,1,1⟩ ρ1 (by exact rl 0xf4310901 rfl _) ⟨hs,hB,y7,(by unfold b6;decide:b6 60 1),.inl rfl⟩ r0) λo hL ho=>?_
 have hr:((az n).map λ(j:Nat)=>DV.int (((0:Nat):Int)+(j:Int)))=(az m.length).map λ(j:Nat)=>DV.int (j:Int):=by
  refine(ak hl)▸?_
  apply dC
  intro j _
  congr 1
  exact rl 0x4e08a410b01 rfl _
 rw[hr] at hL
 have s2:ex (λg us=>aw T K k g us) [] [(S "found",2)] K (ay (av 53).body [2]) ρ1=some o:=by
  have k2:eJ (λg us=>aw T K k g us) (Cf (ay (av 53).body [2])) ρ1=some ((az m.length).map λ(j:Nat)=>DV.int (j:Int)):=by
   have b2:bi (ae "len") [.af (dm m)]=some (.int (m.length:Int)):=by simp only[jo,jI,dm,ag,jO,↓reduceIte,show m.length≤bh by exact zd _ _ hn hl]
   refine t4 rfl ?_ (by exact zd _ _ hn hl)
   exact qe λq=>q la b2
  refine hL▸?_
  show ex _ _ _ K (.For _ _ _ [] _) _=_
  rw[pz]
  erw [k2]
  rfl
 unfold fc
 cases hd:ou n n 0 ⟨m,1,1⟩ with
 | none=>
  rw[hd] at ho
  obtain⟨ρ',rfl⟩:=ho
  exact⟨ρ',cV s0 (cV s1 (fZ s2))⟩
 | some s'=>
  rw[hd] at ho
  obtain⟨ρ',rfl,⟨q1,q2,q3⟩,o⟩:=ho
  refine⟨ρ',cV s0 (cV s1 (cV s2 (fZ (jQ ?_))))⟩
  have mo:cj s'.sign s'.ahead=true:=by
   refine gT (A:=2) ?_ o.ab ?_
   ·refine o.sg.elim (λe=>?_) λe=>?_<;>rw[e]<;>unfold b6<;>decide
   ·have:=NN n hn;exact rl 0x1a90148639ce73b10917da8485a90148639ce73e04801 rfl _ this
  simp only[lk] at q2 q3
  exact qe λq=>q q2 q3 (fY mo)
end
section
noncomputable def m2 (A:Nat→Nat→Int) (i j:Nat):Int:=A 0 0*A i j-A i 0*A 0 j
noncomputable def m3 (A:Nat→Nat→Int) (i j:Nat):Int:=A 0 0*(A 1 1*A i j-A 1 j*A i 1)-A 0 1*(A 1 0*A i j-A 1 j*A i 0)+A 0 j*(A 1 0*A i 1-A 1 1*A i 0)
noncomputable def m4 (A:Nat→Nat→Int) (i j:Nat):Int:=
 A 0 0*(A 1 1*(A 2 2*A i j-A 2 j*A i 2)-A 1 2*(A 2 1*A i j-A 2 j*A i 1)+A 1 j*(A 2 1*A i 2-A 2 2*A i 1))
 - A 0 1*(A 1 0*(A 2 2*A i j-A 2 j*A i 2)-A 1 2*(A 2 0*A i j-A 2 j*A i 0)+A 1 j*(A 2 0*A i 2-A 2 2*A i 0))
 + A 0 2*(A 1 0*(A 2 1*A i j-A 2 j*A i 1)-A 1 1*(A 2 0*A i j-A 2 j*A i 0)+A 1 j*(A 2 0*A i 1-A 2 1*A i 0))
 - A 0 j*(A 1 0*(A 2 1*A i 2-A 2 2*A i 1)-A 1 1*(A 2 0*A i 2-A 2 2*A i 0)+A 1 2*(A 2 0*A i 1-A 2 1*A i 0))
theorem tr1 (A:Nat→Nat→Int) (i j:Nat):m2 A i j*m2 A 1 1-m2 A i 1*m2 A 1 j=A 0 0*m3 A i j:=by
 unfold m2 m3;grind
theorem tr2 (A:Nat→Nat→Int) (i j:Nat):m3 A i j*m3 A 2 2-m3 A i 2*m3 A 2 j=m2 A 1 1*m4 A i j:=by
 unfold m2 m3 m4;grind
theorem Mi (A:Nat→Nat→Int):A 0 0*A 0 0*m4 A 3 3=m2 A 1 1*(m2 A 2 2*m2 A 3 3-m2 A 2 3*m2 A 3 2)-m2 A 1 2*(m2 A 2 1*m2 A 3 3-m2 A 2 3*m2 A 3 1)+m2 A 1 3*(m2 A 2 1*m2 A 3 2-m2 A 2 2*m2 A 3 1):=by
 unfold m2 m4;grind
noncomputable def mn:Nat→(Nat→Nat→Int)→Nat→Nat→Int
 | 0,A,i,j=>A i j
 | 1,A,i,j=>m2 A i j
 | 2,A,i,j=>m3 A i j
 | _,A,i,j=>m4 A i j
theorem yd :∀ A i j,mn 0 A i j=(A i j):=λ_ _ _=>rfl
theorem u5 :∀ A i j,mn 1 A i j=(m2 A i j):=λ_ _ _=>rfl
theorem uZ :∀ A i j,mn 2 A i j=(m3 A i j):=λ_ _ _=>rfl
theorem yc {A:Nat→Nat→Int}{i j:Nat}:mn 3 A i j=m4 A i j:=rfl
noncomputable def ld (A:Nat→Nat→Int):Nat→Int
 | 0=>1
 | s+1=>mn s A s s
theorem NG {s:Nat}(hs:s<3) (A:Nat→Nat→Int) (i j:Nat):mn s A i j*mn s A s s-mn s A i s*mn s A s j=ld A s*mn (s+1) A i j:=by
 rcases(show s=0∨s=1∨s=2 by exact rl 0x7c3f0bd2243d2143d287246801 rfl _ hs) with rfl | rfl | rfl
 ·show A i j*A 0 0-A i 0*A 0 j=1*m2 A i j
  unfold m2;grind
 ·exact tr1 A i j
 ·exact tr2 A i j
noncomputable def sw (p s:Nat) (A:Nat→Nat→Int):Nat→Nat→Int:=λi j=>A (if i=s then p else if i=p then s else i) j
theorem NF {p s:Nat}(hp:s<p) (hs:s<4) (A:Nat→Nat→Int) (i j:Nat):mn s (sw p s A) i j=mn s A (if i=s then p else if i=p then s else i) j:=by
 have e:∀ r,r<s→∀ c,sw p s A r c=A r c:=λr hr c=>by
  unfold sw;rw[if_neg (by exact Ic _ _ hr),if_neg (by exact rl 0x2ef4204e405027210103 rfl _ _ _ hp hr)]
 have e':∀ c,sw p s A i c=A (if i=s then p else if i=p then s else i) c:=λc=>rfl
 rcases(show s=0∨s=1∨s=2∨s=3 by exact MX _ hs) with rfl | rfl | rfl | rfl
 ·rfl
 ·simp only[u5,m2,e 0 (by exact rl 0x7242900 rfl),e']
 ·simp only[uZ,m3,e 0 (by exact AQ),e 1 (by exact Fu),e']
 ·simp only[yc,m4,e 0 (by exact AP),e 1 (by exact rl 0xe48d2100 rfl),e 2 (by exact rl 0xe48d2200 rfl),e']
theorem CX {p s:Nat}(hp:s<p) (hs:s<4) (A:Nat→Nat→Int):ld (sw p s A) s=ld A s:=by
 have e:∀ r,r<s→∀ c,sw p s A r c=A r c:=λr hr c=>by
  unfold sw;rw[if_neg (by exact Ic _ _ hr),if_neg (by exact rl 0x2ef4204e405027210103 rfl _ _ _ hp hr)]
 rcases(show s=0∨s=1∨s=2∨s=3 by exact MX _ hs) with rfl | rfl | rfl | rfl
 ·rfl
 ·simp only[ld,yd,e 0 (by exact rl 0x7242900 rfl)]
 ·simp only[ld,u5,m2,e 0 (by exact AQ),e 1 (by exact Fu)]
 ·simp only[ld,uZ,m3,e 0 (by exact AP),e 1 (by exact rl 0xe48d2100 rfl),e 2 (by exact rl 0xe48d2200 rfl)]
theorem f0 {Q:Nat→Prop}:∀ i,i<0→Q i:=λi h=>absurd h (yX i)
theorem f1 {Q:Nat→Prop}{k:Nat}(a:∀ i,i<k→Q i) (b:Q k):∀ i,i<k+1→Q i:=λi h=>(Nat.lt_succ_iff_lt_or_eq.mp h).elim (a i) λe=>e▸b
theorem TY {n p s:Nat}(hn:n≤4) (hp:s<p) (gu:p<n) (A:Nat→Nat→Int):ld (sw p s A) n=- ld A n:=by
 have fs:∀ n,n<5→∀ p,p<n→∀ s,s<p→ld (sw p s A) n=- ld A n:=by
  refine f1 (f1 (f1 (f1 (f1 f0 f0) (f1 f0 f0)) (f1 (f1 f0 f0) (f1 f0 ?_))) (f1 (f1 (f1 f0 f0) (f1 f0 ?_)) (f1 (f1 f0 ?_) ?_))) (f1 (f1 (f1 (f1 f0 f0) (f1 f0 ?_)) (f1 (f1 f0 ?_) ?_)) (f1 (f1 (f1 f0 ?_) ?_) ?_))<;>simp only[ld,u5,uZ,yc,m2,m3,m4,sw,Nat.reduceEqDiff,Nat.one_ne_zero,Nat.zero_ne_one,reduceCtorEq,↓reduceIte]<;>grind
 exact fs n (vz hn) p gu s hp
structure St (n s:Nat) (A:Nat→Nat→Int) (st:DS) (D:Int):Prop where
 sq:Sq n st.m
 en:∀ i j,s≤i→i<n→s≤j→j<n→gi (gr st.m i) j=mn s A i j
 ah:st.ahead=ld A s
 a0:st.ahead≠0
 dt:st.sign*ld A n=D
theorem PU {m:List (List Int)}{step:Nat}:∀ {r i:Nat},nJ m step r i=none→∀ p,i≤p→p<i+r→gi (gr m p) step=0
 | 0,i,_,p,h1,h2=>by exact rl 0x135a9cc4a1016a02812 rfl _ _ _ h1 h2
 | r+1,i,h,p,h1,h2=>by
  rw[Iw] at h
  split at h
  ·cases h
  ·rename_i h0
   by_cases e:p=i
   ·subst e;simpa using h0
   ·exact PU h p (by exact rl 0x6a02c485177a1016a02802 rfl _ _ h1 e) (by exact rl 0x73102624280a1cc624281202803 rfl _ _ _ h2)
theorem Wv {n s:Nat}{A:Nat→Nat→Int}{st:DS}{D:Int}(hn:n≤4) (hs:s<n) (x:St n s A st D) (h:gW n s st=none):D=0:=by
 have hp:nJ st.m s (n-s) s=none:=by
  unfold gW at h
  cases q:nJ st.m s (n-s) s with
  | none=>rfl
  | some r=>rw[q] at h;cases h
 have z:∀ i,s≤i→i<n→mn s A i s=0:=λi h1 h2=>by
  rw[←x.en i s h1 h2 (aL _) hs]
  exact PU hp i h1 (by exact rl 0x1ccb20480a0487202803 rfl _ _ _ h2)
 have hl:ld A s≠0:=by rw[←x.ah];exact x.a0
 have fs:ld A n=0:=by
  rcases(show n=s+1∨n=s+2∨(n=s+3∧s=0)∨(n=4∧s=1)∨(n=4∧s=0) by lia) with hc | hc | ⟨hc,rfl⟩ | ⟨hc,rfl⟩ | ⟨hc,rfl⟩<;>subst hc
  ·exact z s (aL _) (by exact vK _)
  ·have t:=NG (by exact rl 0x3923435246244801 rfl _ hn:s<3) A (s+1) (s+1)
   rw[z s (aL _) (by exact rl 0x1cc4890801 rfl _),z (s+1) (by exact rl 0x1ac4850801 rfl _) (by exact rl 0xe624486242801 rfl _),lG,lF,HD] at t
   exact(mU.mp t.symm).resolve_left hl
  ·have z0:=z 0 (by exact rl 0x352900 rfl) (by exact AP);have z1:=z 1 (by exact rl 0x6a42900 rfl) (by exact rl 0xe48d2100 rfl);have z2:=z 2 (by exact rl 0x6a44900 rfl) (by exact rl 0xe48d2200 rfl)
   simp only[yd] at z0 z1 z2
   simp only[ld,uZ,m3,z0,z1,z2]
   grind
  ·have z1:=z 1 (by exact rl 0xd4852100 rfl) (by exact rl 0xe4912100 rfl);have z2:=z 2 (by exact rl 0xd4892100 rfl) (by exact rl 0xe4912200 rfl);have z3:=z 3 (by exact zc) (by exact rl 0xe4912300 rfl)
   simp only[u5] at z1 z2 z3
   have c:=Mi A
   rw[z1,z2,z3] at c
   have lx:A 0 0≠0:=hl
   have:A 0 0*A 0 0*m4 A 3 3=0:=by rw[c];grind
   exact(mU.mp this).resolve_left (aG lx lx)
  ·have z0:=z 0 (by exact rl 0x352900 rfl) (by exact rl 0x7248900 rfl);have z1:=z 1 (by exact rl 0x6a42900 rfl) (by exact rl 0xe4912100 rfl);have z2:=z 2 (by exact rl 0x6a44900 rfl) (by exact rl 0xe4912200 rfl);have z3:=z 3 (by exact rl 0x6a46900 rfl) (by exact rl 0xe4912300 rfl)
   simp only[yd] at z0 z1 z2 z3
   simp only[ld,yc,m4,z0,z1,z2,z3]
   grind
 rw[←x.dt,fs,lG]
theorem Ww {n s:Nat}{A:Nat→Nat→Int}{st nI:DS}{D:Int}(hn:n≤4) (hs:s<n) (x:St n s A st D) (h:gW n s st=some nI):∃ A',St n (s+1) A' nI D:=by
 unfold gW at h
 cases hp:nJ st.m s (n-s) s with
 | none=>rw[hp] at h;cases h
 | some p=>
  rw[hp] at h
  cases h
  refine fL (Gx hp) λp1 p2 p3=>?_
  have gu:p<n:=H7 _ _ _ hs p2
  obtain⟨B,b1,b2,b3,b4,b5⟩:∃ B,Sq n (if p=s then st.m else mK st.m p s)∧(∀ i j,s≤i→i<n→s≤j→j<n→gi (gr (if p=s then st.m else mK st.m p s) i) j=mn s B i j)∧st.ahead=ld B s∧(if p=s then st.sign else -st.sign)*ld B n=D∧mn s B s s≠0:=by
   by_cases e:p=s
   ·subst e
    exact⟨A,by rw[if_pos rfl];exact x.sq,by rw[if_pos rfl];exact x.en,x.ah,by rw[if_pos rfl];exact x.dt,by rw[←x.en p p (aL _) gu (aL _) gu];exact p3⟩
   ·refine⟨sw p s A,by rw[if_neg e];exact IS x.sq gu hs,λi j h1 h2 h3 h4=>?_,?_,?_,?_⟩
    ·rw[if_neg e,FZ (by rw[x.sq.1];exact gu) (by rw[x.sq.1];exact hs),NF (by exact Ft _ _ p1 e) (by exact H6 _ _ hn hs)]
     by_cases q1:i=s
     ·rw[if_pos q1,if_pos q1];exact x.en p j (by exact rl 0x6a0286a02802 rfl _ _ p1) gu h3 h4
     ·rw[if_neg q1,if_neg q1]
      by_cases q2:i=p
      ·rw[if_pos q2,if_pos q2];exact x.en s j (by exact rl 0x350801 rfl _) hs h3 h4
      ·rw[if_neg q2,if_neg q2];exact x.en i j h1 h2 h3 h4
    ·rw[CX (by exact Ft _ _ p1 e) (by exact H6 _ _ hn hs)];exact x.ah
    ·rw[if_neg e,TY hn (by exact Ft _ _ p1 e) gu,Int.neg_mul_neg];exact x.dt
    ·rw[NF (by exact Ft _ _ p1 e) (by exact H6 _ _ hn hs),if_pos rfl,←x.en p s (by exact rl 0x6a0286a02802 rfl _ _ p1) gu (aL _) hs];exact p3
  generalize (if p=s then st.m else mK st.m p s)=m1 at *
  generalize (if p=s then st.sign else -st.sign)=sg at *
  have g1:∀ i,gr (lS st.ahead n s m1 (n-s-1)) i=if s<i∧i<s+1+(n-s-1) then ox st.ahead n s (gr m1 s) (gr m1 i) else gr m1 i:=λi=>xn _ _ _ _ _ (by rw[b1.1];exact ze _ _ hs) i
  have gs:gi (gr (lS st.ahead n s m1 (n-s-1)) s) s=mn s B s s:=by
   rw[g1,if_neg (by exact MY _ _)]
   exact b2 s s (aL _) hs (aL _) hs
  refine⟨B,FT b1 (by exact ze _ _ hs),λi j h1 h2 h3 h4=>?_,gs,by dsimp only;rw[gs];exact b5,b4⟩
  rw[g1,if_pos (by exact rl 0x3ee65921b2048624281202e40502721016a02c4850203 rfl _ _ _ h1 h2),OP (b1.2 i h2) hs j h4,if_pos (by exact xe _ _ h3),b2 i j (by exact rP _ _ h1) h2 (by exact rP _ _ h3) h4,b2 s s (aL _) hs (aL _) hs,b2 i s (by exact rP _ _ h1) h2 (aL _) hs,b2 s j (aL _) hs (by exact rP _ _ h3) h4,NG (by exact rl 0xe48d02721016a02c485026a48803 rfl _ _ _ hn h1 h2),←b3]
  exact eQ _ x.a0
theorem Oy {n:Nat}{D:Int}(hn:n≤4):∀ (r s:Nat) (A:Nat→Nat→Int) (st:DS),s+r=n→St n s A st D→(match ou n r s st with | none=>D=0 | some nI=>nI.sign*nI.ahead=D)
 | 0,s,A,st,h,x=>by
  have e:s=n:=rl 0x1e80a1e80b12802 rfl _ _ h
  subst e
  show st.sign*st.ahead=D
  rw[x.ah];exact x.dt
 | r+1,s,A,st,h,x=>by
  rw[N3]
  cases hd:gW n s st with
  | none=>exact Wv hn (by exact xa _ _ _ h) x hd
  | some nI=>
   refine gF (Ww hn (by exact xa _ _ _ h) x hd) λA' x'=>?_
   exact Oy hn r (s+1) A' nI (by exact H8 _ _ _ h) x'
theorem rT {n:Nat}{m:List (List Int)}(hn:n≤4) (hs:Sq n m):fc n m=ld (λi j=>gi (gr m i) j) n:=by
 have x:St n 0 (λi j=>gi (gr m i) j) ⟨m,1,1⟩ (ld (λi j=>gi (gr m i) j) n):=⟨hs,λi j Z Z Z Z=>rfl,rfl,y7,MK _⟩
 have:=Oy hn n 0 _ _ (by exact rl 0xf4310901 rfl _) x
 unfold fc
 cases hd:ou n n 0 ⟨m,1,1⟩ with
 | none=>rw[hd] at this;exact this.symm
 | some s'=>rw[hd] at this;exact this
end
section
noncomputable def cH (c:Nat→Rat) (s:Int→Rat) (m:Int):Nat→Rat
 | 0=>0
 | j+1=>cH c s m j+c j*s (m-j)
theorem IK {c:Nat→Rat}{s:Int→Rat}{m:Int}:cH c s m 0=(0):=rfl
theorem nV {c:Nat→Rat}{s:Int→Rat}{m:Int}:∀ j,cH c s m (j+1)=(cH c s m j+c j*s (m-j)):=λ_=>rfl
noncomputable def fD (p:List Rat) (s:Int→Rat) (m:Int):Rat:=cH (co p) s m p.length
noncomputable def sq (l:List Rat) (m:Int):Rat:=if 0≤m then co l m.toNat else 0
theorem fG (l:List Rat) (n:Nat):sq l (n:Int)=co l n:=by unfold sq;rw[if_pos (by exact zr _),du]
theorem xk (l:List Rat){m:Int}(h:m<0):sq l m=0:=by unfold sq;rw[if_neg (by exact rl 0x5e2a5c96a10 rfl _ h)]
theorem BF {c:Nat→Rat}{s:Int→Rat}{m:Int}{J:Nat}:∀ d,(∀ i,J≤i→i<J+d→c i*s (m-i)=0)→cH c s m (J+d)=cH c s m J
 | 0,_=>rfl
 | d+1,h=>by
  show cH c s m (J+d)+c (J+d)*s (m-((J+d:Nat):Int))=_
  rw[(BF (c:=c) (s:=s) (m:=m) (J:=J) d λi h1 h2=>h i h1 (by exact rl 0xe6312140901439881202803 rfl _ _ _ h2)),h (J+d) (by exact rl 0x1ac4050802 rfl _ _) (by exact rl 0x731890a0286202802 rfl _ _),qC]
theorem rS {p:List Rat}{s:Int→Rat}{m:Int}{J:Nat}(h:p.length≤J):cH (co p) s m J=fD p s m:=by
 obtain⟨d,rfl⟩:=iM h
 refine BF d λi h1 Z=>?_
 rw[mJ (by exact rl 0x17721016a02802 rfl _ _ h1),lz]
theorem JY {c d:Nat→Rat}{s t:Int→Rat}{m:Int}:∀ J,(∀ i,i<J→c i*s (m-i)=d i*t (m-i))→cH c s m J=cH d t m J
 | 0,_=>rfl
 | J+1,h=>by
  rw[nV,nV,JY J λi hi=>h i (by exact Fs _ _ hi),h J (by exact vK _)]
theorem Jr {c d:Nat→Rat}{s:Int→Rat}{m:Int}{x:Rat}:∀ J,cH (λi=>c i+x*d i) s m J=cH c s m J+x*cH d s m J
 | 0=>by simp only[IK];grind
 | J+1=>by
  simp only[nV]
  refine(ak (Jr J))▸?_
  grind
theorem Qp {c:Nat→Rat}{s t:Int→Rat}{m:Int}{x:Rat}:∀ J,cH c (λm=>s m+x*t m) m J=cH c s m J+x*cH c t m J
 | 0=>by simp only[IK];grind
 | J+1=>by
  simp only[nV]
  refine(ak (Qp J))▸?_
  grind
theorem GB {c:Nat→Rat}{s:Int→Rat}{m:Int}:∀ J:Nat,(∀ i:Nat,i<J→s (m-(i:Int))=0)→cH c s m J=0
 | 0,_=>rfl
 | J+1,h=>by rw[nV,GB J λi hi=>h i (by exact Fs _ _ hi),h J (by exact vK _),jd,qC]
theorem GP {c:Nat→Rat}{s:Int→Rat}{m:Int}:∀ J,(∀ i,i<J→c i=0)→cH c s m J=0
 | 0,_=>rfl
 | J+1,h=>by rw[nV,GP J λi hi=>h i (by exact Fs _ _ hi),h J (by exact vK _),lz,qC]
theorem Qq {c:Nat→Rat}{s:Int→Rat}{m:Int}{g:Nat}:∀ J,cH (λi=>if i<g then 0 else c (i-g)) s m (J+g)=cH c s (m-g) J
 | 0=>by
  rw[aX]
  exact GP g λi hi=>if_pos hi
 | J+1=>by
  rw[show J+1+g=J+g+1 by exact rl 0x3d890b101431016242802 rfl _ _,nV,Qq J,if_neg (by exact rl 0xbb9016202802 rfl _ _),dh,nV]
  congr 3
  exact rl 0x9d608ac1015560c4050a12 rfl _ _ _
theorem P0 {c d:Nat→Rat}{s:Int→Rat}{m:Int}{I:Nat}:∀ J,cH c (λm=>cH d s m J) m I=cH d (λm=>cH c s m I) m J
 | 0=>GB I λZ Z=>rfl
 | J+1=>by
  rw[nV,←P0 J]
  have h:=@Qp c (λm=>cH d s m J) (λm=>s (m-J)) m (d J) I
  have e:cH c (λm=>s (m-J)) m I=cH c s (m-J) I:=by
   clear h
   induction I with
   | zero=>rfl
   | succ I ih=>rw[nV,nV,ih];congr 3;exact rl 0x13ac1158202aac101ac10a12 rfl _ _ _
  rw[e] at h
  exact h
theorem I6 {p q B:List Rat}{x:Rat}{g:Nat}{s:Int→Rat}{m:Int}(h:∀ i,co q i=co p i-x*(if i<g then 0 else co B (i-g))):fD q s m=fD p s m-x*fD B s (m-g):=by
 rw[((rS (by exact rl 0x6b1036204c4202804 rfl _ _ _ _)).symm:fD q s m=cH (co q) s m (p.length+q.length+B.length+g)),((rS (by exact rl 0x6b1036204c4050804 rfl _ _ _ _)).symm:fD p s m=cH (co p) s m (p.length+q.length+B.length+g)),((rS (by exact rl 0xd621881202803 rfl _ _ _)).symm:fD B s (m-g)=cH (co B) s (m-g) (p.length+q.length+B.length)),←Qq]
 have e:co q=λi=>co p i+(-x)*(if i<g then 0 else co B (i-g)):=by
  funext i;rw[h i];grind
 rw[e,Jr]
 grind
theorem QJ (p:List Rat) (z i:Nat):co (p++ax z 0) i=co p i:=by
 unfold co
 by_cases h:i<p.length
 ·rw[eH h]
 ·rw[nC (by exact zp _ _ h),fQ (by exact zp _ _ h:p.length≤i),iF]
  split<;>rfl
theorem OD (p:List Rat) (x:Rat) (B:List Rat) (gap:Nat) (i:Nat):co (hZ p x B gap) i=co p i-x*(if i<gap then 0 else co B (i-gap)):=by
 unfold hZ
 rw[xi _ _ _ _ _ (by rw[aR,aH];exact rl 0x3596407e462048405016204803 rfl _ _ _),QJ]
 by_cases h:i<gap
 ·rw[if_neg (by exact rl 0x5fee62048405a80a04e4090103 rfl _ _ _ h),if_pos h];grind
 ·rw[if_neg h]
  by_cases h2:i<B.length+gap
  ·rw[if_pos (by exact MW _ _ _ h h2)]
  ·rw[if_neg (by exact rl 0x2ff731024202d40502bb9881210103 rfl _ _ _ h2),mJ (by exact rl 0xbb901b2048bb9881202803 rfl _ _ _ h2:¬ i-gap<B.length)];grind
theorem WM (p:List Rat) (x:Rat) (B:List Rat) (gap:Nat) (s:Int→Rat) (m:Int):fD (hZ p x B gap) s m=fD p s m-x*fD B s (m-gap):=I6 (OD p x B gap)
theorem Px {row p:List Rat}{n:Nat} (h0:co p 0=1):∀ j,j≤n→tH row n p j=cH (co p) (sq row) n (j+1)
 | 0,_=>by
  show co row n=0+co p 0*sq row ((n:Int)-(0:Nat))
  rw[h0,show(n:Int)-((0:Nat):Int)=(n:Int) by exact rl 0x4e08aae0801 rfl _,fG];grind
 | j+1,h=>by
  rw[En,Px h0 j (by exact rP _ _ h),nV (j+1),show(n:Int)-((j+1:Nat):Int)=((n-(j+1):Nat):Int) by exact rl 0x13859890a028ac1890a0304350c4850102 rfl _ _ h,fG]
theorem Vq {row:List Rat}{s:ux}{n:Nat} (h0:co s.now 0=1) (hl:0<s.now.length):fj row s n=fD s.now (sq row) n:=by
 unfold fj
 rw[Px h0 _ (by exact rl 0x3501f96c90a10102 rfl _ _)]
 by_cases h:s.now.length-1≤n
 ·refine(ak (show min n (s.now.length-1)+1=s.now.length by exact rl 0xf405890fcb64850143516485017202902 rfl _ _ hl h))▸?_;rfl
 ·obtain⟨d,hd⟩:∃ d,s.now.length=n+1+d:=⟨s.now.length-(n+1),by exact rl 0x3d96624280a1890a028bb501b242802 rfl _ _ h⟩
  rw[show min n (s.now.length-1)+1=n+1 by exact rl 0xf624280b121f96c90a101bb501b242802 rfl _ _ h]
  unfold fD
  rw[hd]
  refine(BF d λi h1 h2=>?_).symm
  rw[xk _ (by exact rl 0x497582030435016242802 rfl _ _ h1),jd]
structure Iq (k:Nat) (row:List Rat) (n:Nat) (s:ux):Prop where
 sk:s.size≤k
 nl:s.now.length≤s.size+1
 n0:co s.now 0=1
 nz:∀ m:Int,s.size≤m→m<n→fD s.now (sq row) m=0
 g1:1≤s.gap
 fl:s.dc.length+s.gap+s.size≤n+2
 fz:∀ m:Int,(n:Int)-s.gap+1-s.size≤m→m<(n:Int)-s.gap→fD s.dc (sq row) m=0
 fb:1≤s.size→fD s.dc (sq row) ((n:Int)-s.gap)=s.last
 l0:s.last≠0
theorem Tx {k N n:Nat}{row q p:List Rat}{L:Nat}(hq:q.length≤k+1) (q0:co q 0=1) (hr:∀ m:Int,k≤m→m<N→fD q (sq row) m=0) (hp:p.length≤L+1) (hz:∀ m:Int,L≤m→m<n→fD p (sq row) m=0) (hn:n<N) (h:L+k≤n):fD p (sq row) n=0:=by
 have e:cH (co q) (λm=>cH (co p) (sq row) m (L+1)) n (k+1)=cH (co p) (λm=>cH (co q) (sq row) m (k+1)) n (L+1):=P0 _
 rw[GB (L+1) (λi hi=>by
  rw[rS hq];exact hr _ (by exact rl 0x11ac1018205040dcc485080b5026206804 rfl _ _ _ _ h hi) (by exact rl 0x250406b040a087202803 rfl _ _ _ hn))] at e
 have e2:cH (co q) (λm=>cH (co p) (sq row) m (L+1)) n (k+1)=cH (co q) (λm=>cH (co p) (sq row) m (L+1)) n 1:=by
  refine(ak (show k+1=1+k by exact rl 0xf621216242801 rfl _))▸?_
  refine BF k λi h1 h2=>?_
  rw[rS hp,hz _ (by exact rl 0x11ac1038203043988124281b5016204804 rfl _ _ _ _ h h2) (by exact rl 0x250406b0441016a12102 rfl _ _ h1),jd]
 have e:=e2▸e
 simp only[IK,nV] at e
 rw[q0,show(n:Int)-((0:Nat):Int)=n by exact rl 0x4e08aae0801 rfl _] at e
 have e3:=rS (s:=sq row) (m:=n) hp
 rw[nV] at e3
 refine e3▸?_
 grind
theorem y77 {k N n:Nat}{row q:List Rat}{s:ux}(hq:q.length≤k+1) (q0:co q 0=1) (hr:∀ m:Int,k≤m→m<N→fD q (sq row) m=0) (hn:n<N) (o:Iq k row n s):Iq k row (n+1) (fA row s n):=by
 have hl:0<s.now.length:=by
  refine(Nat.eq_zero_or_pos s.now.length).elim (λe=>?_) λe=>?_
  ·have:=o.n0;rw[mJ (by exact rl 0x5dc84bd2801 rfl _ e)] at this;exact absurd this (by decide)
  ·exact e
 have ho:=Vq (row:=row) (n:=n) o.n0 hl
 have nl:=o.nl;have g1:=o.g1;have fl:=o.fl;have sk:=o.sk
 unfold fA
 by_cases h0:fj row s n=0
 ·rw[if_pos h0]
  refine⟨o.sk,o.nl,o.n0,λm h1 h2=>?_,by dsimp only;exact AV _,by dsimp only;exact MV _ _ _ _ fl,λm h1 h2=>o.fz m (by dsimp only at h1;exact MU _ _ _ _ h1) (by dsimp only at h2;exact rl 0x2558203042a55831214060c4850a12 rfl _ _ _ h2),λh=>?_,o.l0⟩
  ·by_cases e:m=n
   ·subst e;dsimp only;exact ho▸(ak h0)▸rfl
   ·exact o.nz m h1 (by exact H5 _ _ h2 e)
  ·exact(ak (show((n+1:Nat):Int)-((s.gap+1:Nat):Int)=(n:Int)-s.gap by exact rl 0x4eb040608ac1890a0306242802 rfl _ _))▸(o.fb h)
 ·rw[if_neg h0]
  have am:=WM s.now (fj row s n/s.last) s.dc s.gap (sq row)
  have c0:co (hZ s.now (fj row s n/s.last) s.dc s.gap) 0=1:=by
   rw[OD,if_pos (by exact rl 0x39096a12101 rfl _ g1),o.n0];grind
  have DF:1≤s.size→fD (hZ s.now (fj row s n/s.last) s.dc s.gap) (sq row) n=0:=λh=>by
   rw[am,o.fb h,←ho]
   have:=o.l0
   grind
  by_cases h2:2*s.size≤n
  ·rw[if_pos h2]
   have hk:n+1-s.size≤k:=by
    refine(qD n (s.size+k)).elim (λh=>?_) λh=>?_
    ·exact rl 0xd40ac8624280b9881210103 rfl _ _ _ h
    ·exact absurd (by exact(ak ho)▸(Tx hq q0 hr o.nl o.nz hn h)) h0
   refine⟨hk,by dsimp only;rw[(Jy s.now (fj row s n/s.last) s.dc s.gap)];exact rl 0x35890d90362428f91880a048235181206d624486206c405026b12140d0405 rfl _ _ _ _ _ nl fl h2,c0,λm q1 q2=>?_,aL 1,by dsimp only;exact rl 0x6b122624280b2c813121405890a1a80e048135890a04803 rfl _ _ _ nl h2,λm q1 q2=>?_,λZ=>?_,h0⟩
   ·by_cases e:m=n
    ·subst e
     exact DF (by exact rl 0x6a0290c608859016242802 rfl _ _ q1)
    ·rw[am,o.nz m (by exact rl 0x11541018aa16405890a1a8c090112 rfl _ _ _ h2 q1) (by exact H5 _ _ q2 e),o.fz (m-s.gap) (by exact rl 0x11ac10aac102a2c35822080c550b204c4850113 rfl _ _ _ _ q1) (by exact MT _ _ _ q2 e)];grind
   ·exact o.nz m (by exact rl 0x1154101955618312142a2aac2c80b12145161aac306242812 rfl _ _ _ q1 q2) (by exact rl 0x25042a555860c4850a11 rfl _ _ q2)
   ·exact(ak (show((n+1:Nat):Int)-((1:Nat):Int)=(n:Int) by exact HU _))▸ho▸rfl
  ·rw[if_neg h2]
   refine⟨o.sk,by dsimp only;rw[(Jy s.now (fj row s n/s.last) s.dc s.gap)];exact rl 0x35890a07f2310140904bb5181206d624486206c405026b12140d0405 rfl _ _ _ _ _ nl fl h2,c0,λm q1 q2=>?_,by dsimp only;exact AV _,by dsimp only;exact MV _ _ _ _ fl,λm q1 q2=>o.fz m (by dsimp only at q1;exact MU _ _ _ _ q1) (by dsimp only at q2;exact rl 0x2558203042a55831214060c4850a12 rfl _ _ _ q2),λh=>?_,o.l0⟩
   ·by_cases e:m=n
    ·subst e
     exact DF (by exact rl 0x35090dda80e04802 rfl _ _ h2)
    ·rw[am,o.nz m (by exact rl 0x8aa088aa0811 rfl _ _ q1) (by exact H5 _ _ q2 e),o.fz (m-s.gap) (by exact rl 0x46b04095582034586b040a088aa080dda8c090113 rfl _ _ _ _ h2 q1) (by exact MT _ _ _ q2 e)];grind
   ·refine(ak (show((n+1:Nat):Int)-((s.gap+1:Nat):Int)=(n:Int)-s.gap by exact rl 0x4eb040608ac1890a0306242802 rfl _ _))▸?_
    exact o.fb h
theorem NZ {k N:Nat}{row q:List Rat}(hq:q.length≤k+1) (q0:co q 0=1) (hr:∀ m:Int,k≤m→m<N→fD q (sq row) m=0):∀ n,n≤N→Iq k row n (bm row n)
 | 0,_=>⟨fh _,aL 1,rfl,λm h1 h2=>by exfalso;simp only[yQ] at h1;exact rl 0xf8e4b5454b10 rfl _ h1 h2,aL 1,aL 2,λm h1 h2=>by exfalso;simp only[yQ] at h1 h2;exact rl 0x7c72aac2b5454b10 rfl _ h1 h2,λh=>by simp only[yQ] at h;lia,(by decide:(1:Rat)≠0)⟩
 | n+1,h=>y77 hq q0 hr (by exact xe _ _ h) (NZ hq q0 hr n (by exact rP _ _ h))
end
section
structure vH (k:Nat) (row q:List Rat):Prop where
 rz:row.length=2*k
 ql:q.length=k+1
 q0:co q 0=1
 qk:co q k≠0
 rc:∀ m:Int,(k:Int)≤m→m<(2*k:Nat)→fD q (sq row) m=0
 uniq:∀ C:Nat→Rat,(∀ m:Int,(k:Int)≤m→m<(2*k:Nat)→cH C (sq row) m (k+1)=0)→∀ i,i≤k→C i=C 0*co q i
theorem Pl {k:Nat}{row q:List Rat}(x:vH k row q):kQ row=(az k).map λi=>- co q (i+1):=by
 have o:=NZ (N:=2*k) (by rw[x.ql];exact rl 0xd624286242801 rfl _) x.q0 x.rc row.length (by rw[x.rz];exact rl 0x37024604801 rfl _)
 generalize hs:bm row row.length=s at *
 have u:=x.uniq (co s.now) (λm h1 h2=>by
  rw[rS (by exact rl 0x35890a0480b5890a1016a04803 rfl _ _ _ o.sk o.nl)]
  exact o.nz m (by exact rl 0x115410d405115410112 rfl _ _ _ h1 o.sk) (by exact rl 0x128202a94302429f81210112 rfl _ _ _ x.rz h2))
 have sk:s.size=k:=by
  refine(qD s.size k).elim (λh=>?_) λh=>?_
  ·exfalso
   have e:=u k (aL _)
   rw[mJ (by exact rl 0x1772028135890a1017204803 rfl _ _ _ h o.nl),o.n0,Mz] at e
   exact x.qk e.symm
  ·have:=o.sk;exact rl 0x7a1016a1016a02802 rfl _ _ h this
 unfold kQ
 refine(ak hs)▸(ak sk)▸?_
 apply dC
 intro i hi
 have jc:=bY.mp hi
 rw[u (i+1) (by exact rl 0x3501624287202802 rfl _ _ jc),o.n0,Mz]
theorem Jg {A B l:List Rat}:∀ i,i+B.length≤l.length→(0<B.length)→∀ j,co (jW A B l (i+1)) j=co (jW A B l i) j+co A i*(if j<i then 0 else co B (j-i)):=by
 intro i h hB j
 rw[Oj,xi _ _ _ _ _ (by rw[By];exact rl 0x1a80b108135016204803 rfl _ _ _ h)]
 by_cases h1:j<i
 ·rw[if_neg (by exact rl 0x5fee62048405a80a04e4090103 rfl _ _ _ h1),if_pos h1];grind
 ·rw[if_neg h1]
  by_cases h2:j<B.length+i
  ·rw[if_pos (by exact MW _ _ _ h1 h2)];grind
  ·rw[if_neg (by exact rl 0x2ff731024202d40502bb9881210103 rfl _ _ _ h2),mJ (by exact rl 0xbb901b2048bb9881202803 rfl _ _ _ h2:¬ j-i<B.length)];grind
theorem Gr (n i:Nat):co (ax n 0) i=0:=by
 have:=QJ [] n i
 simpa [co] using this
theorem ON (s:Int→Rat) (m:Int):fD [] s m=0:=rfl
theorem Y' (n:Nat) (s:Int→Rat) (m:Int):fD (ax n 0) s m=0:=GP _ λi Z=>Gr n i
theorem Pt {A B l:List Rat}{s:Int→Rat}{m:Int}(hB:0<B.length) (h0:∀ i,co l i=0):∀ i,i+B.length≤l.length+1→fD (jW A B l i) s m=cH (co A) (fD B s) m i
 | 0,_=>GP _ λi Z=>h0 i
 | i+1,h=>by
  rw[(@I6 (jW A B l i) (jW A B l (i+1)) B (-(co A i)) i s m (λj=>by rw[Jg i (by exact rl 0x6a02c4090d624280b1026242803 rfl _ _ _ h) hB];grind)),Pt hB h0 i (by exact rl 0x35890a02c4090d624280b1026242803 rfl _ _ _ h),nV]
  grind
theorem WN (A B:List Rat) (s:Int→Rat) (m:Int):fD (iz A B) s m=fD A (fD B s) m:=by
 unfold iz
 split
 ·rename_i h
  rw[ON]
  refine h.elim (λh=>?_) λh=>?_
  ·unfold fD;refine(ak h)▸?_;rfl
  ·symm
   refine GB _ λi Z=>?_
   unfold fD;refine(ak h)▸?_;rfl
 ·rename_i h
  exact Pt (by exact rl 0x1c80a6ff0bd280bd2802 rfl _ _ h) (λi=>Gr _ i) A.length (by exact(ak aH)▸(rl 0x35890d921620286202802 rfl _ _))
theorem ZG {A B:List Rat}(hA:0<A.length) (hB:0<B.length):co (iz A B) (A.length-1+(B.length-1))=co A (A.length-1)*co B (B.length-1):=by
 unfold iz
 rw[if_neg (by exact rl 0x17f85e9405e9439014b90902 rfl _ _ hA hB)]
 have h0:∀ i,i≤A.length-1→co (jW A B (ax (A.length+B.length-1) 0) i) (A.length-1+(B.length-1))=0:=by
  intro i
  induction i with
  | zero=>intro _;exact Gr _ _
  | succ i ih=>
   intro h
   rw[Jg i (by rw[aH];exact rl 0x36c90b108131080b6c90a04c4850103 rfl _ _ _ h) hB,ih (by exact rl 0xdb24280a1b6485016242802 rfl _ _ h),if_neg (by exact rl 0xbb90cb242815921405b6485016242803 rfl _ _ _ h),mJ (by exact rl 0x5dc8b202cb2428b2428136c90a04c4850103 (by kernel_rfl) _ _ _ h:¬ A.length-1+(B.length-1)-i<B.length)];grind
 have e:=@Jg A B (ax (A.length+B.length-1) 0) (A.length-1) (by exact(ak aH)▸(rl 0x36c90b1080b116485017202902 rfl _ _ hA)) hB (A.length-1+(B.length-1))
 rw[show A.length-1+1=A.length by exact rl 0x7a1890d9214390901 rfl _ hA,h0 _ (aL _),if_neg (by exact rl 0xbbac90a19648501b242802 rfl _ _),Nat.add_sub_cancel_left] at e
 rw[e];grind
theorem WL {p q r:List Rat}{s:Int→Rat}{m:Int}(h:∀ i,co r i=co p i-co q i):fD r s m=fD p s m-fD q s m:=by
 refine(ak (((rS (by exact rl 0xd621881202803 rfl _ _ _)).symm:fD r s m=cH (co r) s m (p.length+q.length+r.length))))▸(ak (((rS (by exact rl 0xd6204c4050803 rfl _ _ _)).symm:fD p s m=cH (co p) s m (p.length+q.length+r.length))))▸(ak (((rS (by exact rl 0xd6204c4202803 rfl _ _ _)).symm:fD q s m=cH (co q) s m (p.length+q.length+r.length))))▸?_
 have e:co r=λi=>co p i+(-1)*co q i:=by
  funext i;rw[h i];grind
 rw[e,Jr]
 grind
theorem WO (p:List Rat) (s:Int→Rat) (m:Int):fD (fS (λq:Rat=>decide (q=0)) p) s m=fD p s m:=by
 rw[←rS (p:=fS (λq:Rat=>decide (q=0)) p) (J:=p.length) (t8 _ _)]
 unfold fD
 refine JY _ λi Z=>?_
 rw[Bp]
structure A1 (a b:List Rat) (s:List Rat×List Rat):Prop where
 fl:s.2.length=a.length+1-b.length
 rz:s.1.length≤a.length
 ld:jM s.1
 fz:∀ j,j+b.length≤s.1.length→co s.2 j=0
 eq:∀ m:Int,sq a m=fD s.2 (sq b) m+sq s.1 m
 top:s.1.length=a.length∨co s.2 (a.length-b.length)≠0
theorem Uy {l:List Rat}{p:Nat}{x:Rat}{s:Int→Rat}{m:Int}(hp:p<l.length) (h0:co l p=0):fD (l.set p x) s m=fD l s m+x*s (m-p):=by
 have e:=@I6 l (l.set p x) [1] (-x) p s m (λi=>by
  rw[FV hp]
  by_cases h:i=p
  ·subst h
   rw[if_pos rfl,if_neg (by exact rl 0xbb90801 rfl _),h0,Hz]
   show x=0 - -x*1
   grind
  ·rw[if_neg h]
   by_cases h2:i<p
   ·rw[if_pos h2];grind
   ·rw[if_neg h2,@mJ [1] (i-p) (by simp;exact rl 0x177a6c80a2ee405177a02802 rfl _ _ h h2)];grind)
 refine(ak e)▸?_
 have:fD [1] s (m-p)=s (m-p):=by
  show 0+co [1] 0*s (m-p-((0:Nat):Int))=_
  refine(ak (show m-(p:Int)-((0:Nat):Int)=m-p by exact rl 0x4eb042aabac10a11 rfl _ _))▸?_
  show 0+1*_=_
  grind
 refine(ak this)▸?_;grind
theorem y72 {a b:List Rat}{s:List Rat×List Rat} (b0:0<b.length) (bl:co b (b.length-1)≠0) (rB:b.length≤a.length) (o:A1 a b s) (g:j1 b s=true) (kl:(dy b s).1.length<s.1.length):A1 a b (dy b s):=by
 have hg:b.length≤s.1.length:=by simpa [j1] using g
 have fl:=o.fl;have rz:=o.rz
 have Ly:s.1.length-b.length<s.2.length:=rl 0x1c81d902405a8405f6409890a1036a10204 rfl _ _ _ _ rB fl rz
 have c1:∀ i,co (dy b s).1 i=co s.1 i-dW b s*(if i<s.1.length-b.length then 0 else co b (i-(s.1.length-b.length))):=by
  intro i
  show co (iA _ _) i=_
  rw[OE,Qt,YQ,QK]
  by_cases h1:i<s.1.length-b.length
  ·rw[if_pos h1,if_pos h1,if_pos (by exact rl 0x1d64850143ac8120287204903 rfl _ _ _ b0 h1)];grind
  ·rw[if_neg h1,if_neg h1,JR,QK]
   by_cases h2:i<s.1.length-1
   ·rw[if_pos h2,if_pos (by exact rl 0x3ac90a03640d0275921420577206813d0c4050304 rfl _ _ _ _ (gS hg) h1 h2)];grind
   ·rw[if_neg h2,if_neg (by exact rl 0x5dd648502b590240517759214050d4050203 (by kernel_rfl) _ _ _ hg h2)]
    by_cases h3:i=s.1.length-1
    ·subst h3
     rw[show s.1.length-1-(s.1.length-b.length)=b.length-1 by exact rl 0x3ec90a036b2028b24286a10102 (by kernel_rfl) _ _ hg]
     unfold dW
     grind
    ·refine(ak (mJ (by exact rl 0x1772028bbec90a028bbac90a02802 rfl _ _ h2 h3:¬ i<s.1.length)))▸(ak (mJ (rl 0xbb91640d016a02813d026210304 rfl _ _ _ _ (gS hg) (rl 0x6a101bbec90a028bbac90a02802 rfl _ _ h2 h3):¬ i-(s.1.length-b.length)<b.length)))▸?_;grind
 have nn:dW b s≠0:=by
  unfold dW
  intro h
  have:co s.1 (s.1.length-1)=co s.1 (s.1.length-1)/co b (b.length-1)*co b (b.length-1):=by grind
  rw[h] at this
  exact(o.ld.resolve_left (by exact rl 0xbbd286a1017202902 rfl _ _ b0 hg):co s.1 (s.1.length-1)≠0) (by rw[this];grind)
 have c2:(dy b s).2=s.2.set (s.1.length-b.length) (dW b s):=rfl
 refine⟨by rw[c2,bM,fl],by exact rl 0xd4050d405027204803 rfl _ _ _ kl rz,QF,λj hj=>?_,λm=>?_,.inr ?_⟩
 ·rw[c2,FV Ly,if_neg (by exact rl 0xbbec8121036a02c409037210104 (by kernel_rfl) _ _ _ _ kl hj)]
  exact o.fz j (by exact rl 0x3502620680b50c40d017204804 rfl _ _ _ _ kl hj)
 ·refine(ak c2)▸(ak (Uy Ly (o.fz _ (by exact rl 0xd43101b20286a10102 rfl _ _ hg))))▸(ak (o.eq m))▸?_
  have:sq (dy b s).1 m=sq s.1 m-dW b s*sq b (m-((s.1.length-b.length:Nat):Int)):=by
   refine(qP m 0).elim (λh=>?_) λh=>?_
   ·rw[xk _ h,xk _ h,xk _ (by exact rl 0x92eb0b21015496a12 rfl _ _ _ h)];grind
   ·obtain⟨i,rfl⟩:=dE h
    rw[fG,fG,c1]
    by_cases h1:i<s.1.length-b.length
    ·rw[if_pos h1,xk _ (by exact rl 0x24bac2c80a20813ac80a10203 rfl _ _ _ h1)]
    ·rw[if_neg h1,show(i:Int)-((s.1.length-b.length:Nat):Int)=((i-(s.1.length-b.length):Nat):Int) by exact rl 0x270b5902405158590240608bbac81202803 (by kernel_rfl) _ _ _ h1,fG]
  rw[this];grind
 ·refine(ak c2)▸(ak (FV Ly))▸?_
  split
  ·exact nn
  ·rename_i h
   exact o.top.resolve_left (by exact rl 0xbbd0140aefb2102b210103 rfl _ _ _ h)
end
section
theorem N8 {b:List Rat}{s:List Rat×List Rat} (b0:0<b.length) (g:j1 b s=true):(dy b s).1.length<s.1.length:=by
 have hg:b.length≤s.1.length:=by simpa [j1] using g
 have l1:=Bz s.1.dropLast ((eS (b9 b.dropLast (dW b s)) (s.1.length-b.length)).map λq=>-q)
 have l2:=JX (b9 b.dropLast (dW b s)) (s.1.length-b.length)
 have l3:=BC b.dropLast (dW b s)
 rw[ag] at l1
 rw[ez] at l1 l3
 exact(Ir l1 l2 l3 (of_decide_eq_true g) b0).2
theorem Jx {l:List Rat}{n:Nat} (h1:l.length≤n+1) (h2:co l n≠0):l.length=n+1:=by
 refine(qD n l.length).elim (λh=>?_) λh=>?_
 ·exact rl 0x1ec48501439080b5890a02802 rfl _ _ h1 h
 ·exact absurd (mJ (by exact rl 0x17721016a02802 rfl _ _ h)) h2
theorem PW {a b:List Rat} (b0:0<b.length) (bl:co b (b.length-1)≠0) (rB:b.length≤a.length) (ha:jM a) :
  (∀ m:Int,sq a m=fD (iR a b).1 (sq b) m+sq (iR a b).2 m)∧(iR a b).2.length<b.length∧(iR a b).1.length=a.length-b.length+1∧co (iR a b).1 (a.length-b.length)≠0∧jM (iR a b).2:=by
 have o:A1 a b (gd a b):=BA (A1 a b) (λs p g=>y72 b0 bl rB p g (N8 b0 g)) _ _ (⟨by simp,aL _,ha,λj Z=>Gr _ _,λm=>by rw[Y'];grind,.inl rfl⟩:A1 a b (a,ax (a.length+1-b.length) 0))
 have kl:(gd a b).1.length<b.length:=by
  have h2:decide (b.length≤(gd a b).1.length)=false:=(GN (λZ:List Rat×List Rat=>True) (λs=>s.1.length) (λs Z g=>⟨trivial,N8 b0 g⟩) _ _ trivial (by dsimp only;exact vK _):j1 b (gd a b)=false)
  simpa using h2
 have B4:co (iR a b).1 (a.length-b.length)≠0:=by
  show co (fS _ _) _≠0
  rw[Bp];exact(o.top.resolve_left (by exact rl 0x2ef4204e405026a10103 rfl _ _ _ rB kl):co (gd a b).2 (a.length-b.length)≠0)
 refine⟨λm=>?_,kl,Jx ?_ B4,B4,o.ld⟩
 ·rw[o.eq m]
  show _=fD (fS _ _) _ _+_
  rw[WO];rfl
 ·have:=t8 (λq:Rat=>decide (q=0)) (gd a b).2
  have:=o.fl
  show(fS _ _).length≤_
  lia
structure zH (k:Nat) (a:List Rat) (s:FW):Prop where
 e1:∀ m:Int,m<a.length→sq s.front m=fD s.one (sq a) m
 e2:∀ m:Int,m<a.length→sq s.rest m=fD s.other (sq a) m
 l1:s.front.length+s.other.length=a.length+2
 l2:s.one.length<s.other.length
 l3:s.rest.length<s.front.length
 lo:jM s.other
 lf:jM s.front
 lr:jM s.rest
 kf:k<s.front.length
theorem Ux (s:Int→Rat) (m:Int):fD [1] s m=s m:=by
 show 0+co [1] 0*s (m-((0:Nat):Int))=_
 refine(ak (show m-((0:Nat):Int)=m by exact rl 0x135556a10 rfl _))▸?_
 show 0+1*_=_
 grind
theorem QN {k:Nat}{a:List Rat}{s:FW}(o:zH k a s) (g:jY k s=true):zH k a (ew s):=by
 have hg:k<s.rest.length:=by simpa [jY] using g
 have l1:=o.l1;have l2:=o.l2;have l3:=o.l3
 refine oQ (PW (a:=s.front) (b:=s.rest) (by exact zi _ _ hg) (o.lr.resolve_left (by exact AS _ _ hg):co s.rest (s.rest.length-1)≠0) (by exact FA _ _ l3) o.lf) λd1 d2 d3 d4 d5=>?_
 have pl:=JB (iR s.front s.rest).1 s.other
 rw[if_neg (by exact rl 0x2ff0bd281bd2813d890d9080a04e40d0405 (by kernel_rfl) _ _ _ _ _ l2 d3)] at pl
 have pn:co (iz (iR s.front s.rest).1 s.other) ((iR s.front s.rest).1.length-1+(s.other.length-1))≠0:=by
  rw[(ZG (A:=(iR s.front s.rest).1) (B:=s.other) (by exact rl 0x1c8125ec486c80a10203 rfl _ _ _ d3) (by exact zi _ _ l2))]
  refine λh=>?_
  rcases bZ.mp h with h | h
  ·exact d4 (by refine h▸?_;congr 1;exact rl 0x7d92140ac80a1ec486c80a10203 (by kernel_rfl) _ _ _ d3)
  ·exact(o.lo.resolve_left (by exact AS _ _ l2):co s.other (s.other.length-1)≠0) h
 have Sd:∀ i,co (ew s).other i=co s.one i-co (iz (iR s.front s.rest).1 s.other) i:=λi=>by
  show co (iA _ _) i=_
  rw[OE,Qt];grind
 have top:co (ew s).other ((iR s.front s.rest).1.length-1+(s.other.length-1))≠0:=by
  rw[Sd,mJ (by exact rl 0x2ee432c90a036485027202803 rfl _ _ _ l2:¬ _<s.one.length)]
  intro h
  exact pn (by grind)
 have nl:(ew s).other.length=(iR s.front s.rest).1.length-1+(s.other.length-1)+1:=by
  refine Jx ?_ top
  have:=Bz s.one ((iz (iR s.front s.rest).1 s.other).map λq=>-q)
  rw[ag] at this
  exact br this (nO.mpr ⟨rl 0x6b12165921406c90a0487202803 rfl _ _ _ l2,rl 0x1ac4859648502b24280a1f6485881202803 rfl _ _ _ pl⟩)
 refine⟨o.e2,λm hm=>?_,?_,?_,d2,Qd _ _,o.lr,d5,hg⟩
 ·rw[WL Sd,WN,←o.e1 m hm]
  have h1:sq (ew s).rest m=sq s.front m-fD (iR s.front s.rest).1 (sq s.rest) m:=by
   rw[d1 m]
   show sq (iR s.front s.rest).2 m=_
   grind
  refine(ak h1)▸?_
  congr 1
  refine JY _ λi Z=>?_
  rw[o.e2 _ (by exact rl 0x1282035821528202a12 rfl _ _ _ hm)]
 ·have t1:=rl 0xf624280b10243901409ec486c81202803 rfl _ _ _ d3 l3
  exact rl 0x1ec4890c409047b1224310140dec405056242813d890a06c4110506 rfl _ _ _ _ _ _ t1 (rl 0x3d881a08c48505721017b12143101411c81a04f6242cb24281d9214110506 (by kernel_rfl) _ _ _ _ _ _ nl l2 t1 l3) l1
 ·exact rl 0x720287b1216592145921409017b121b20881a04e40d0405 (by kernel_rfl) _ _ _ _ _ l3 d3 nl
theorem OX {k:Nat}{a:List Rat}(hk:k≤a.length):zH k a (my a):=by
 have h1:=t8 (λq:Rat=>decide (q=0)) a
 refine⟨λm hm=>?_,λm Z=>?_,?_,?_,?_,.inr (by decide:co [1] 0≠0),.inr ?_,JH _,?_⟩
 ·rw[show(my a).one=[] from rfl,ON]
  refine(qP m 0).elim (λh=>?_) λh=>?_
  ·exact xk _ h
  ·obtain⟨i,rfl⟩:=dE h
   rw[fG]
   show co (ax a.length 0++[1]) i=0
   unfold co
   rw[eH (by simp;exact rl 0x1c80a2504060802 rfl _ _ hm),iF]
   split<;>rfl
 ·show sq (fS _ a) m=fD [1] (sq a) m
  rw[Ux]
  unfold sq
  split
  ·rw[Bp]
  ·rfl
 ·simp only[my,aR,aH,aF,aW]<;>lia
 ·simp[my]
 ·show(fS _ a).length<(ax a.length (0:Rat)++[1]).length
  rw[aR,aH];simp<;>lia
 ·simp[my,co]
 ·show k<(ax a.length (0:Rat)++[1]).length
  rw[aR,aH];simp<;>lia
theorem Jf {k:Nat}{a q:List Rat}(x:vH k a q):0<(fw k a).other.length∧co (fw k a).other 0≠0∧b9 (fw k a).other (co (fw k a).other 0)⁻¹=q ∧
  (fw k a).rest.length≤k∧∀ m,m<k→co (b9 (fw k a).rest (co (fw k a).other 0)⁻¹) m=cH (co q) (sq a) m (m+1):=by
 have rz:=x.rz
 have o:zH k a (fw k a):=BA (zH k a) (λs p g=>QN p g) _ _ (OX (by exact rl 0x1a80a1f81210102 rfl _ _ rz))
 have hd:jY k (fw k a)=false:=GN (zH k a) (λs=>s.rest.length) (λs p g=>⟨QN p g,by
  exact(PW (a:=s.front) (b:=s.rest) (by exact zi _ _ (by simpa [jY] using g:k<s.rest.length)) (p.lr.resolve_left (by exact AS _ _ (by simpa [jY] using g:k<s.rest.length))) (by exact FA _ _ p.l3) p.lf).2.1⟩) (a.length+1) (my a) (OX (by exact rl 0x1a80a1f81210102 rfl _ _ rz)) (by
   exact Ij _ _ (t8 (λq:Rat=>decide (q=0)) a))
 have hr:(fw k a).rest.length≤k:=by
  have h2:decide (k<(fw k a).rest.length)=false:=hd
  simpa using h2
 generalize fw k a=s at *
 have l1:=o.l1;have l2:=o.l2;have kf:=o.kf
 have ol:s.other.length≤k+1:=rl 0xd624281206e4204f624480b10343f024090104 rfl _ _ _ _ rz l1 kf
 have u:=x.uniq (co s.other) (λm h1 h2=>by
  refine(ak (rS ol))▸(o.e2 m (by exact rl 0x128202a94302429f81210112 rfl _ _ _ rz h2))▸?_
  obtain⟨i,rfl⟩:=dE (by exact rl 0x454b8aa0811 rfl _ _ h1:0≤m)
  rw[fG,mJ (by exact rl 0xbb9080c6080c1026a04803 rfl _ _ _ hr h1)])
 have n0:co s.other 0≠0:=λh=>(o.lo.resolve_left (by exact AS _ _ l2):co s.other (s.other.length-1)≠0) (by rw[u _ (by exact rl 0xd40ac90a06e4204f624480b10343f024090104 rfl _ _ _ _ rz l1 kf),h,lz])
 have Lc:s.other.length=k+1:=Jx ol (by
  refine(ak (u k (aL _)))▸?_
  intro h
  refine(bZ.mp h).elim (λh=>?_) λh=>?_
  ·exact n0 h
  ·exact x.qk h)
 have ni:(co s.other 0)⁻¹≠0:=by
  intro h
  have:co s.other 0*(co s.other 0)⁻¹=1:=by grind
  rw[h] at this
  grind
 have hc:∀ i,i≤k→co s.other i*(co s.other 0)⁻¹=co q i:=λi hi=>by
  refine(ak (u i hi))▸?_;grind
 refine⟨by exact rl 0x39014bd890a10102 rfl _ _ Lc,n0,?_,hr,λm hm=>?_⟩
 ·have hl:(b9 s.other (co s.other 0)⁻¹).length=k+1:=by
   unfold b9
   rw[if_neg ni,ag,Lc]
  apply lW (by exact(ak hl)▸(ak x.ql)▸rfl)
  intro i h1 h2
  rw[←(mc h1),←(mc h2),JR,hc i (by exact rl 0x6a0480b9080bd890a04803 rfl _ _ _ hl h1)]
 ·rw[JR]
  have e:=o.e2 (m:Int) (by exact rl 0x1282050405c8405f81210203 rfl _ _ _ rz hm)
  rw[fG] at e
  refine(ak e)▸?_
  have e3:fD s.other (sq a) m=cH (co s.other) (sq a) m (m+1):=by
   obtain⟨d,hd⟩:∃ d,s.other.length=m+1+d:=⟨s.other.length-(m+1),by exact rl 0x7b2cc48502405890a0480b90813d890a10103 rfl _ _ _ Lc hm⟩
   unfold fD
   refine(ak hd)▸?_
   refine BF d λi h1 h2=>?_
   rw[xk _ (by exact rl 0x497582030435016242802 rfl _ _ h1),jd]
  refine(ak e3)▸?_
  have e4:∀ J,J≤k+1→cH (co s.other) (sq a) m J*(co s.other 0)⁻¹=cH (co q) (sq a) m J:=by
   intro J
   induction J with
   | zero=>intro _;exact lz _
   | succ J ih=>
    intro h
    rw[nV,nV,←ih (by exact rl 0xd624280a1ac485016242802 rfl _ _ h),←hc J (by exact AX _ _ h)]
    grind
  exact e4 _ (by exact rl 0x1ac48501624287202802 rfl _ _ hm)
end
section
theorem DZ {c x:Rat}(hc:c≠0) (hx:x≠0):vH 1 [c,c*x] [1,-x]:=by
 refine⟨rfl,rfl,rfl,?_,λm h1 h2=>?_,λC h i hi=>?_⟩
 ·show -x≠0
  grind
 ·have e:m=1:=by exact rl 0x9ac2a92c4a8a96110 rfl _ h1 h2
  subst e
  show 0+1*sq [c,c*x] ((1:Nat):Int)+-x*sq [c,c*x] ((0:Nat):Int)=0
  rw[fG,fG]
  show 0+1*(c*x)+-x*c=0
  grind
 ·have h1:=h 1 (by exact rl 0x115856100 rfl) (by exact rl 0x125896100 rfl)
  change 0+C 0*sq [c,c*x] ((1:Nat):Int)+C 1*sq [c,c*x] ((0:Nat):Int)=0 at h1
  rw[fG,fG] at h1
  change 0+C 0*(c*x)+C 1*c=0 at h1
  rcases(show i=0∨i=1 by exact rl 0x1f0bd2143d286a42801 rfl _ hi) with rfl | rfl
  ·show C 0=C 0*1
   grind
  ·show C 1=C 0*-x
   have:c*(C 1+C 0*x)=0:=by grind
   rcases bZ.mp this with h | h
   ·exact absurd h hc
   ·grind
theorem DY {c d x y:Rat}(hc:c≠0) (hd:d≠0) (hx:x≠0) (hy:y≠0) (Ha:x≠y) :
  vH 2 [c+d,c*x+d*y,c*(x*x)+d*(y*y),c*(x*x*x)+d*(y*y*y)] [1,-(x+y),x*y]:=by
 generalize hl:[c+d,c*x+d*y,c*(x*x)+d*(y*y),c*(x*x*x)+d*(y*y*y)]=l
 have l0:co l 0=c+d:=by refine hl▸?_;rfl
 have l1:co l 1=c*x+d*y:=by refine hl▸?_;rfl
 have l2:co l 2=c*(x*x)+d*(y*y):=by rw[←hl];rfl
 have l3:co l 3=c*(x*x*x)+d*(y*y*y):=by refine hl▸?_;rfl
 refine⟨by rw[←hl];rfl,rfl,rfl,?_,λm h1 h2=>?_,λC h i hi=>?_⟩
 ·intro h
  rcases bZ.mp h with h | h
  ·exact hx h
  ·exact hy h
 ·rcases(show m=2∨m=3 by exact rl 0x3e19ac6a9ac4a92c8a8a96210 rfl _ h1 h2) with e | e<;>subst e
  ·show 0+1*sq l ((2:Nat):Int)+-(x+y)*sq l ((1:Nat):Int)+x*y*sq l ((0:Nat):Int)=0
   rw[fG,fG,fG,l0,l1,l2]
   grind
  ·show 0+1*sq l ((3:Nat):Int)+-(x+y)*sq l ((2:Nat):Int)+x*y*sq l ((1:Nat):Int)=0
   rw[fG,fG,fG,l3,l1,l2]
   grind
 ·have h1:=h 2 (by exact rl 0x115896200 rfl) (by exact rl 0x125916200 rfl)
  have h2:=h 3 (by exact rl 0x1158d6200 rfl) (by exact rl 0x125916300 rfl)
  change 0+C 0*sq l ((2:Nat):Int)+C 1*sq l ((1:Nat):Int)+C 2*sq l ((0:Nat):Int)=0 at h1
  change 0+C 0*sq l ((3:Nat):Int)+C 1*sq l ((2:Nat):Int)+C 2*sq l ((1:Nat):Int)=0 at h2
  rw[fG,fG,fG,l0,l1,l2] at h1
  rw[fG,fG,fG,l3,l1,l2] at h2
  rcases(show i=0∨i=1∨i=2 by exact rl 0x7c3f0bd2243d2143d286a44801 rfl _ hi) with rfl | rfl | rfl
  ·show C 0=C 0*1
   grind
  ·show C 1=C 0*-(x+y)
   grind
  ·show C 2=C 0*(x*y)
   grind
theorem DX {c d f x y z:Rat}(hc:c≠0) (hd:d≠0) (hf:f≠0) (hx:x≠0) (hy:y≠0) (hz:z≠0) (Ha:x≠y) (Rz:x≠z) (hyz:y≠z) :
  vH 3 [c+d+f,c*x+d*y+f*z,c*(x*x)+d*(y*y)+f*(z*z),c*(x*x*x)+d*(y*y*y)+f*(z*z*z),c*(x*x*x*x)+d*(y*y*y*y)+f*(z*z*z*z),c*(x*x*x*x*x)+d*(y*y*y*y*y)+f*(z*z*z*z*z)] [1,-(x+y+z),x*y+x*z+y*z,-(x*y*z)]:=by
 generalize hl:[c+d+f,c*x+d*y+f*z,c*(x*x)+d*(y*y)+f*(z*z),c*(x*x*x)+d*(y*y*y)+f*(z*z*z),c*(x*x*x*x)+d*(y*y*y*y)+f*(z*z*z*z),c*(x*x*x*x*x)+d*(y*y*y*y*y)+f*(z*z*z*z*z)]=l
 have l0:co l 0=c+d+f:=by refine hl▸?_;rfl
 have l1:co l 1=c*x+d*y+f*z:=by refine hl▸?_;rfl
 have l2:co l 2=c*(x*x)+d*(y*y)+f*(z*z):=by refine hl▸?_;rfl
 have l3:co l 3=c*(x*x*x)+d*(y*y*y)+f*(z*z*z):=by refine hl▸?_;rfl
 have l4:co l 4=c*(x*x*x*x)+d*(y*y*y*y)+f*(z*z*z*z):=by refine hl▸?_;rfl
 have l5:co l 5=c*(x*x*x*x*x)+d*(y*y*y*y*y)+f*(z*z*z*z*z):=by rw[←hl];rfl
 refine⟨by rw[←hl];rfl,rfl,rfl,?_,λm h1 h2=>?_,λC h i hi=>?_⟩
 ·show -(x*y*z)≠0
  intro h
  have h:x*y*z=0:=by grind
  rcases bZ.mp h with h | h
  ·rcases bZ.mp h with h | h
   ·exact hx h
   ·exact hy h
  ·exact hz h
 ·rcases(show m=3∨m=4∨m=5 by exact rl 0xf87e19acaa9ac8a9ac6a92cca8a96310 rfl _ h1 h2) with e | e | e<;>subst e
  ·show 0+1*sq l ((3:Nat):Int)+-(x+y+z)*sq l ((2:Nat):Int)+(x*y+x*z+y*z)*sq l ((1:Nat):Int)+-(x*y*z)*sq l ((0:Nat):Int)=0
   rw[fG,fG,fG,fG,l0,l1,l2,l3]
   grind
  ·show 0+1*sq l ((4:Nat):Int)+-(x+y+z)*sq l ((3:Nat):Int)+(x*y+x*z+y*z)*sq l ((2:Nat):Int)+-(x*y*z)*sq l ((1:Nat):Int)=0
   rw[fG,fG,fG,fG,l4,l1,l2,l3]
   grind
  ·show 0+1*sq l ((5:Nat):Int)+-(x+y+z)*sq l ((4:Nat):Int)+(x*y+x*z+y*z)*sq l ((3:Nat):Int)+-(x*y*z)*sq l ((2:Nat):Int)=0
   rw[fG,fG,fG,fG,l4,l5,l2,l3]
   grind
 ·have h1:=h 3 (by exact rl 0x1158d6300 rfl) (by exact rl 0x125996300 rfl)
  have h2:=h 4 (by exact rl 0x115916300 rfl) (by exact rl 0x125996400 rfl)
  have h3:=h 5 (by exact rl 0x115956300 rfl) (by exact rl 0x125996500 rfl)
  change 0+C 0*sq l ((3:Nat):Int)+C 1*sq l ((2:Nat):Int)+C 2*sq l ((1:Nat):Int)+C 3*sq l ((0:Nat):Int)=0 at h1
  change 0+C 0*sq l ((4:Nat):Int)+C 1*sq l ((3:Nat):Int)+C 2*sq l ((2:Nat):Int)+C 3*sq l ((1:Nat):Int)=0 at h2
  change 0+C 0*sq l ((5:Nat):Int)+C 1*sq l ((4:Nat):Int)+C 2*sq l ((3:Nat):Int)+C 3*sq l ((2:Nat):Int)=0 at h3
  rw[fG,fG,fG,fG,l0,l1,l2,l3] at h1
  rw[fG,fG,fG,fG,l4,l1,l2,l3] at h2
  rw[fG,fG,fG,fG,l4,l5,l2,l3] at h3
  generalize hg:C 2=C2 at *
  generalize hh:C 3=C3 at *
  have e1:c*((C 0)*(x*x*x)+(C 1)*(x*x)+C2*x+C3)+d*((C 0)*(y*y*y)+(C 1)*(y*y)+C2*y+C3)+f*((C 0)*(z*z*z)+(C 1)*(z*z)+C2*z+C3)=0:=by grind
  have e2:x*(c*((C 0)*(x*x*x)+(C 1)*(x*x)+C2*x+C3))+y*(d*((C 0)*(y*y*y)+(C 1)*(y*y)+C2*y+C3))+z*(f*((C 0)*(z*z*z)+(C 1)*(z*z)+C2*z+C3))=0:=by grind
  have e3:x*x*(c*((C 0)*(x*x*x)+(C 1)*(x*x)+C2*x+C3))+y*y*(d*((C 0)*(y*y*y)+(C 1)*(y*y)+C2*y+C3))+z*z*(f*((C 0)*(z*z*z)+(C 1)*(z*z)+C2*z+C3))=0:=by grind
  generalize hP:(C 0)*(x*x*x)+(C 1)*(x*x)+C2*x+C3=P at *
  generalize hQ:(C 0)*(y*y*y)+(C 1)*(y*y)+C2*y+C3=Q at *
  generalize hR:(C 0)*(z*z*z)+(C 1)*(z*z)+C2*z+C3=R at *
  have nz:∀ {a b:Rat},a≠0→a*b=0→b=0:=λrfl h=>(bZ.mp h).resolve_left rfl
  have xy:x-y≠0:=λh=>Ha (by grind)
  have yz:y-z≠0:=λh=>hyz (by grind)
  have hP0:P=0:=nz hc (nz (λh=>Rz (by grind):x-z≠0) (nz xy (by clear h1 h2 h3 hP hQ hR;grind)))
  have hQ0:Q=0:=nz hd (nz yz (nz xy (by clear h1 h2 h3 hP hQ hR;grind)))
  have hR0:R=0:=nz hf (nz yz (nz (λh=>Rz (by grind):x-z≠0) (by clear h1 h2 h3 hP hQ hR;grind)))
  clear h1 h2 h3 e1 e2 e3
  have hP:=hP0▸hP;rw[hQ0] at hQ;rw[hR0] at hR
  have s1:(C 0)*(x*x+x*y+y*y)+(C 1)*(x+y)+C2=0:=nz xy (by grind)
  have t1:(C 1)=-((C 0)*(x+y+z)):=by grind
  have t2:C2=(C 0)*(x*y+x*z+y*z):=by have s1:=t1▸s1;grind
  rcases(show i=0∨i=1∨i=2∨i=3 by exact rl 0x1f0fc3f0bd2343d2243d2143d286a46801 rfl _ hi) with rfl | rfl | rfl | rfl
  ·show C 0=(C 0)*1
   grind
  ·show C 1=(C 0)*-(x+y+z)
   grind
  ·show C 2=(C 0)*(x*y+x*z+y*z)
   grind
  ·show C 3=(C 0)*-(x*y*z)
   rw[hh]
   rw[t1,t2] at hP
   grind
end
section
noncomputable def jV (l:List Rat):Nat→Rat
 | 0=>0
 | j+1=>jV l j+co l j
theorem zM {l:List Rat}:∀ j,jV l (j+1)=(jV l j+co l j):=λ_=>rfl
theorem Yu (l:List Rat) (a:Rat):∀ j,j≤l.length→jV (l++[a]) j=jV l j
 | 0,_=>rfl
 | j+1,h=>by
  rw[zM,zM,Yu l a j (by exact rP _ _ h)]
  congr 1
  unfold co
  rw[eH (by exact xe _ _ h)]
theorem Qj (l:List Rat) (a:Rat):∀ j,jV (a::l) (j+1)=a+jV l j
 | 0=>by show 0+a=a+0;grind
 | j+1=>by
  rw[zM,Qj l a j,zM]
  show a+jV l j+co l j=_
  grind
theorem PS (l:List Rat):qh l 1=jV l l.length:=by
 have h:∀ (l:List Rat),l.foldr (λq f=>f*1+q) 0=jV l l.length:=by
  intro l
  induction l with
  | nil=>rfl
  | cons a l ih=>
   rw[List.foldr_cons,ih,aF,Qj]
   grind
 unfold qh
 rw[List.foldl_reverse]
 exact h l
theorem Yv {l:List Rat}{n:Nat}(h:l.length≤n):jV l n=jV l l.length:=by
 obtain⟨d,rfl⟩:=iM h
 clear h
 induction d with
 | zero=>rfl
 | succ d ih=>rw[show l.length+(d+1)=l.length+d+1 by exact rl 0x3d890b101431890a02802 rfl _ _,zM,ih,mJ (by exact rl 0x5dc86202802 rfl _ _)];grind
theorem O0 {l:List Rat}{f:Nat→Rat}:∀ n,(∀ m,m<n→co l m=f m)→jV l n=Nat.rec (motive:=λZ=>Rat) 0 (λm s=>s+f m) n
 | 0,_=>rfl
 | n+1,h=>by
  rw[zM,O0 n λm hm=>h m (by exact Fs _ _ hm),h n (by exact vK _)]
theorem J5 {k:Nat}{a q:List Rat}(x:vH k a q):qh (b9 (fw k a).rest (co (fw k a).other 0)⁻¹) 1=Nat.rec (motive:=λZ=>Rat) 0 (λm s=>s+cH (co q) (sq a) m (m+1)) k:=by
 refine oQ (Jf x) λh1 h2 h3 h4 h5=>?_
 rw[PS,←Yv (n:=k) (br (BC _ _) h4)]
 exact O0 k h5
theorem Kg {c x:Rat}(h:x≠1):Nat.rec (motive:=λZ=>Rat) 0 (λm s=>s+cH (co [1,-x]) (sq [c,c*x]) m (m+1)) 1=(0+c/(1-x))*qh [1,-x] 1:=by
 show 0+(0+1*sq _ ((0:Nat):Int))=(0+c/(1-x))*(((0*1+-x)*1+1))
 rw[fG]
 show 0+(0+1*c)=_
 have:1-x≠0:=λe=>h (by grind)
 grind
theorem Kf {c d x y:Rat}(hx:x≠1) (hy:y≠1):Nat.rec (motive:=λZ=>Rat) 0 (λm s=>s+cH (co [1,-(x+y),x*y]) (sq [c+d,c*x+d*y,c*(x*x)+d*(y*y),c*(x*x*x)+d*(y*y*y)]) m (m+1)) 2=(0+c/(1-x)+d/(1-y))*qh [1,-(x+y),x*y] 1:=by
 generalize hl:[c+d,c*x+d*y,c*(x*x)+d*(y*y),c*(x*x*x)+d*(y*y*y)]=l
 have l0:co l 0=c+d:=by refine hl▸?_;rfl
 have l1:co l 1=c*x+d*y:=by refine hl▸?_;rfl
 show 0+(0+1*sq l ((0:Nat):Int))+(0+1*sq l ((1:Nat):Int)+-(x+y)*sq l ((0:Nat):Int))=(0+c/(1-x)+d/(1-y))*((((0*1+x*y)*1+-(x+y))*1+1))
 rw[fG,fG,l0,l1]
 grind
theorem Ke {c d f x y z:Rat}(hx:x≠1) (hy:y≠1) (hz:z≠1):Nat.rec (motive:=λZ=>Rat) 0 (λm s=>s+cH (co [1,-(x+y+z),x*y+x*z+y*z,-(x*y*z)]) (sq [c+d+f,c*x+d*y+f*z,c*(x*x)+d*(y*y)+f*(z*z),c*(x*x*x)+d*(y*y*y)+f*(z*z*z),c*(x*x*x*x)+d*(y*y*y*y)+f*(z*z*z*z),c*(x*x*x*x*x)+d*(y*y*y*y*y)+f*(z*z*z*z*z)]) m (m+1)) 3=(0+c/(1-x)+d/(1-y)+f/(1-z))*qh [1,-(x+y+z),x*y+x*z+y*z,-(x*y*z)] 1:=by
 generalize hl:[c+d+f,c*x+d*y+f*z,c*(x*x)+d*(y*y)+f*(z*z),c*(x*x*x)+d*(y*y*y)+f*(z*z*z),c*(x*x*x*x)+d*(y*y*y*y)+f*(z*z*z*z),c*(x*x*x*x*x)+d*(y*y*y*y*y)+f*(z*z*z*z*z)]=l
 have l0:co l 0=c+d+f:=by refine hl▸?_;rfl
 have l1:co l 1=c*x+d*y+f*z:=by refine hl▸?_;rfl
 have l2:co l 2=c*(x*x)+d*(y*y)+f*(z*z):=by refine hl▸?_;rfl
 show 0+(0+1*sq l ((0:Nat):Int))+(0+1*sq l ((1:Nat):Int)+-(x+y+z)*sq l ((0:Nat):Int))+(0+1*sq l ((2:Nat):Int)+-(x+y+z)*sq l ((1:Nat):Int)+(x*y+x*z+y*z)*sq l ((0:Nat):Int))=(0+c/(1-x)+d/(1-y)+f/(1-z))*(((((0*1+-(x*y*z))*1+(x*y+x*z+y*z))*1+-(x+y+z))*1+1))
 rw[fG,fG,fG,l0,l1,l2]
 grind
end
section
noncomputable def dA (m:List (List Int)):Nat→Nat→Int:=λi j=>gi (gr m i) j
noncomputable def d2 (a b c d:Int):Int:=a*d-c*b
noncomputable def d3 (a b c d e f g h i:Int):Int:=a*(e*i-f*h)-b*(d*i-f*g)+c*(d*h-e*g)
noncomputable def d4 (a b c d e f g h i j k l m n o p:Int):Int:=
 a*(f*(k*p-l*o)-g*(j*p-l*n)+h*(j*o-k*n))
 - b*(e*(k*p-l*o)-g*(i*p-l*m)+h*(i*o-k*m))
 + c*(e*(j*p-l*n)-f*(i*p-l*m)+h*(i*n-j*m))
 - d*(e*(j*o-k*n)-f*(i*o-k*m)+g*(i*n-j*m))
section
variable (c u v:Int)
theorem h1a:c*v^2=v^2*c:=by grind
theorem b1:d2 1 1 (c*u*v) (c*u^2)=c*(u*(u-v)):=by unfold d2;grind
theorem z1:d2 (c*v^2) (c*u*v) (c*u*v) (c*u^2)=0:=by unfold d2;grind
theorem t1:d2 (c*v^2) (c*v^2+c*u*v) (c*u*v) (c*u^2)*(v-u)=d2 1 1 (c*u*v) (c*u^2)*v^2*(c*v):=by unfold d2;grind
end
section
variable (c d u w v r0 r1 r2 r3 r4:Int) (h0:r0=c*v^4+d*v^4) (h1:r1=c*u*v^3+d*w*v^3) (h2:r2=c*u^2*v^2+d*w^2*v^2) (h3:r3=c*u^3*v+d*w^3*v) (h4:r4=c*u^4+d*w^4)
include h0 h1 h2
theorem h2a:d2 r0 r1 r1 r2=v^6*(c*d)*(u-w)^2:=by subst h0 h1 h2;unfold d2;grind
include h3 h4
theorem b2:d3 1 1 1 r1 r2 r3 r2 r3 r4=v^2*(c*d)*(u*(u-v)*(w*(w-v)))*(u-w)^2:=by subst h0 h1 h2 h3 h4;unfold d3;grind
theorem z2:d3 r0 r1 r2 r1 r2 r3 r2 r3 r4=0:=by subst h0 h1 h2 h3 h4;unfold d3;grind
theorem t2:d3 r0 (r0+r1) (r0+r1+r2) r1 r2 r3 r2 r3 r4*((v-u)*(v-w))=d3 1 1 1 r1 r2 r3 r2 r3 r4*v^4*(c*v*(v-w)+d*v*(v-u)):=by subst h0 h1 h2 h3 h4;unfold d3;grind
end
section
variable (c d e u w x v r0 r1 r2 r3 r4 r5 r6:Int) (h0:r0=c*v^6+d*v^6+e*v^6) (h1:r1=c*u*v^5+d*w*v^5+e*x*v^5) (h2:r2=c*u^2*v^4+d*w^2*v^4+e*x^2*v^4) (h3:r3=c*u^3*v^3+d*w^3*v^3+e*x^3*v^3) (h4:r4=c*u^4*v^2+d*w^4*v^2+e*x^4*v^2) (h5:r5=c*u^5*v+d*w^5*v+e*x^5*v) (h6:r6=c*u^6+d*w^6+e*x^6) (hv:v≠0)
include h0 h1 h2 h3 h4
theorem h3a:d3 r0 r1 r2 r1 r2 r3 r2 r3 r4=v^12*(c*d*e)*((u-w)^2*(u-x)^2*(w-x)^2):=by subst h0 h1 h2 h3 h4;unfold d3;grind
end
end
section
section
variable (c d e u w x v r0 r1 r2 r3 r4 r5 r6:Int) (h0:r0=c*v^6+d*v^6+e*v^6) (h1:r1=c*u*v^5+d*w*v^5+e*x*v^5) (h2:r2=c*u^2*v^4+d*w^2*v^4+e*x^2*v^4) (h3:r3=c*u^3*v^3+d*w^3*v^3+e*x^3*v^3) (h4:r4=c*u^4*v^2+d*w^4*v^2+e*x^4*v^2) (h5:r5=c*u^5*v+d*w^5*v+e*x^5*v) (h6:r6=c*u^6+d*w^6+e*x^6) (hv:v≠0)
theorem xO (P Q R S w0 w1 w2:Int) (q:v^3*S=w2*R-w1*Q+w0*P) (P' Q' R' S':Int) (q':v^3*S'=w2*R'-w1*Q'+w0*P') (wL E0 EX Hw:Int) (q'':v^3*Hw=w2*EX-w1*E0+w0*wL) (a b f g:Int) :
  v^3*d4 a b f g P Q R S P' Q' R' S' wL E0 EX Hw=-(v^3*g-w2*f+w1*b-w0*a)*d3 P Q R P' Q' R' wL E0 EX:=by
 have e:v^3*d4 a b f g P Q R S P' Q' R' S' wL E0 EX Hw=d4 a b f (v^3*g) P Q R (v^3*S) P' Q' R' (v^3*S') wL E0 EX (v^3*Hw):=by unfold d4;grind
 rw[e,q,q',q'']
 unfold d4 d3
 grind
end
section
variable (c d e u w x v r0 r1 r2 r3 r4 r5 r6:Int) (h0:r0=c*v^6+d*v^6+e*v^6) (h1:r1=c*u*v^5+d*w*v^5+e*x*v^5) (h2:r2=c*u^2*v^4+d*w^2*v^4+e*x^2*v^4) (h3:r3=c*u^3*v^3+d*w^3*v^3+e*x^3*v^3) (h4:r4=c*u^4*v^2+d*w^4*v^2+e*x^4*v^2) (h5:r5=c*u^5*v+d*w^5*v+e*x^5*v) (h6:r6=c*u^6+d*w^6+e*x^6) (hv:v≠0)
include h0 h1 h2 h3
theorem q0:v^3*r3=(u+w+x)*v^2*r2-(u*w+u*x+w*x)*v*r1+u*w*x*r0:=by subst h0 h1 h2 h3;grind
omit h0
include h4
theorem q1:v^3*r4=(u+w+x)*v^2*r3-(u*w+u*x+w*x)*v*r2+u*w*x*r1:=by subst h1 h2 h3 h4;grind
omit h1
include h5
theorem q2:v^3*r5=(u+w+x)*v^2*r4-(u*w+u*x+w*x)*v*r3+u*w*x*r2:=by subst h2 h3 h4 h5;grind
omit h2
include h6
theorem q3:v^3*r6=(u+w+x)*v^2*r5-(u*w+u*x+w*x)*v*r4+u*w*x*r3:=by subst h3 h4 h5 h6;grind
include h1 h2
omit h6
theorem mS:d3 r1 r2 r3 r2 r3 r4 r3 r4 r5=v^9*(c*d*e)*(u*w*x)*((u-w)^2*(u-x)^2*(w-x)^2):=by subst h1 h2 h3 h4 h5;unfold d3;grind
include h6 hv
theorem b3:d4 1 1 1 1 r1 r2 r3 r4 r2 r3 r4 r5 r3 r4 r5 r6=v^6*(c*d*e)*(u*(u-v)*(w*(w-v))*(x*(x-v)))*((u-w)^2*(u-x)^2*(w-x)^2):=by
 have a:=xO v r1 r2 r3 r4 (u*w*x) ((u*w+u*x+w*x)*v) ((u+w+x)*v^2) (q1 c d e u w x v r1 r2 r3 r4 h1 h2 h3 h4) r2 r3 r4 r5 (q2 c d e u w x v r2 r3 r4 r5 h2 h3 h4 h5) r3 r4 r5 r6 (q3 c d e u w x v r3 r4 r5 r6 h3 h4 h5 h6) 1 1 1 1
 rw[mS c d e u w x v r1 r2 r3 r4 r5 h1 h2 h3 h4 h5] at a
 apply oJ (bO hv:v^3≠0)
 rw[a]
 clear a h1 h2 h3 h4 h5 h6
 generalize (u-w)^2*(u-x)^2*(w-x)^2=D
 generalize c*d*e=C
 grind
include h0
theorem z3:d4 r0 r1 r2 r3 r1 r2 r3 r4 r2 r3 r4 r5 r3 r4 r5 r6=0:=by
 have a:=xO v r1 r2 r3 r4 (u*w*x) ((u*w+u*x+w*x)*v) ((u+w+x)*v^2) (q1 c d e u w x v r1 r2 r3 r4 h1 h2 h3 h4) r2 r3 r4 r5 (q2 c d e u w x v r2 r3 r4 r5 h2 h3 h4 h5) r3 r4 r5 r6 (q3 c d e u w x v r3 r4 r5 r6 h3 h4 h5 h6) r0 r1 r2 r3
 rw[q0 c d e u w x v r0 r1 r2 r3 h0 h1 h2 h3] at a
 have:v^3*d4 r0 r1 r2 r3 r1 r2 r3 r4 r2 r3 r4 r5 r3 r4 r5 r6=0:=by
  rw[a]
  generalize d3 r1 r2 r3 r2 r3 r4 r3 r4 r5=D
  clear h0 h1 h2 h3 h4 h5 h6 a
  grind
 exact(mU.mp this).resolve_left (bO hv:v^3≠0)
theorem t3:d4 r0 (r0+r1) (r0+r1+r2) (r0+r1+r2+r3) r1 r2 r3 r4 r2 r3 r4 r5 r3 r4 r5 r6*((v-u)*(v-w)*(v-x))=d4 1 1 1 1 r1 r2 r3 r4 r2 r3 r4 r5 r3 r4 r5 r6*v^6*(c*v*((v-w)*(v-x))+d*v*((v-u)*(v-x))+e*v*((v-u)*(v-w))):=by
 have a:=xO v r1 r2 r3 r4 (u*w*x) ((u*w+u*x+w*x)*v) ((u+w+x)*v^2) (q1 c d e u w x v r1 r2 r3 r4 h1 h2 h3 h4) r2 r3 r4 r5 (q2 c d e u w x v r2 r3 r4 r5 h2 h3 h4 h5) r3 r4 r5 r6 (q3 c d e u w x v r3 r4 r5 r6 h3 h4 h5 h6)
 have a1:=a 1 1 1 1
 have a2:=a r0 (r0+r1) (r0+r1+r2) (r0+r1+r2+r3)
 apply oJ (bO hv:v^3≠0)
 rw[←ku,a2,(λB G=>by grind:∀ B G:Int,v^3*(B*v^6*G)=(v^3*B)*v^6*G),a1]
 have n:v^3*(r0+r1+r2+r3)-(u+w+x)*v^2*(r0+r1+r2)+(u*w+u*x+w*x)*v*(r0+r1)-u*w*x*r0=v^6*(c*v*((v-w)*(v-x))+d*v*((v-u)*(v-x))+e*v*((v-u)*(v-w))):=by
  clear a a1 a2 h4 h5 h6
  subst h0 h1 h2 h3
  grind
 rw[n]
 generalize d3 r1 r2 r3 r2 r3 r4 r3 r4 r5=D
 generalize (c*v*((v-w)*(v-x))+d*v*((v-u)*(v-x))+e*v*((v-u)*(v-w)))=G
 clear a a1 a2 n h0 h1 h2 h3 h4 h5 h6
 grind
end
end
section
theorem y7e:T (S "_law_draw")=some (av 102):=by kernel_rfl
theorem y7j:(av 102).params=[S "pool",S "many"]:=by kernel_rfl
theorem y6x:(av 102).PN=[S "pool"]:=by kernel_rfl
theorem y7s:(av 102).M=[]:=by kernel_rfl
noncomputable def pl (cells:List Int) (cw:Nat):List OT:=[.af (il cells),.af (.int (cw:Int))]
theorem Jv (a:Int){m:Nat}(hm:0<m):∃ d:Nat,d<m∧a.fmod (m:Int)=(d:Int):=by
 exact⟨(a.fmod (m:Int)).toNat,by exact rl 0x391e54a085390911 rfl _ _ hm (Int.fmod_lt_of_pos a (show(0:Int)<(m:Int) by exact Fq _ hm)),by exact rl 0x9c3ca5454b10 rfl _ (Int.fmod_nonneg_of_pos a (show(0:Int)<(m:Int) by exact Fq _ hm))⟩
theorem Oi {l:List Int}{i:Nat}{k:Int}(hl:l.length≤bh) (hi:i<l.length) (hk:k=(i:Int)):iJ (.af (.tup (l.map .int))) (.af (.int k))=some (.af (.int (gi l i))):=by
 subst hk
 simp only[pF,ag,kM hl hi,ao,aU,rU hi,aD]
theorem uD {l:List Int}{i:Nat}{k:Int}(hl:l.length≤bh) (hi:i<l.length) (hk:k=(i:Int)):iJ (.af (il l)) (.af (.int k))=some (.af (.int (gi l i))):=by
 subst hk
 simp only[ro,il,ag,kM hl hi,ao,aU,rU hi,aD]
theorem Gg {K n kh cw:Nat}{cells:List Int}(hn:1≤n) (hm:0<kh) (hc:cells.length≤8) :
  ∃ d:Nat,d<kh∧aw T K n (S "_law_draw") [.own (pl cells cw),.af (.int (kh:Int))]=some (.int (d:Int),[.own (pl cells (cw+1)),.af (.int (kh:Int))]):=by
 obtain⟨k,rfl⟩:∃ k',n=k'+1:=⟨n-1,by exact H9 _ hn⟩
 have z:[S "pool",S "many"].zip [OT.own (pl cells cw),OT.af (.int (kh:Int))]=[((ae "pool"),.own (pl cells cw)),((ae "many"),.af (.int (kh:Int)))]:=rfl
 have fs:∃ d:Nat,d<kh∧∃ ρ,cA (λg us=>aw T K k g us) [S "pool"] [] K (av 102).body [((ae "pool"),.own (pl cells cw)),((ae "many"),.af (.int (kh:Int)))]=some (.ret (.int (d:Int)) ρ)∧aj (ae "pool") ρ=some (.own (pl cells (cw+1))):=by
  show ∃ d:Nat,d<kh∧∃ ρ,cA _ _ _ K (.Assign [_] _ _::.Assign [_] _ _::.If _ [.Return (some _) _] [] _::.Return (some _) _::[]) _=_∧_
  generalize dz:([((ae "pool"),.own (pl cells cw)),((ae "many"),.af (.int (kh:Int)))]:au)=ρ0
  have l1:aj (ae "pool") ρ0=some (.own (pl cells cw)):=by subst dz;simp only[gn,↓reduceIte]
  have l2:aj (ae "many") ρ0=some (.af (.int (kh:Int))):=by subst dz;simp only[gn,↓reduceIte,String.reduceEq]
  clear dz z
  have i0:eI 2 (0:Int)=some 0:=kM (n:=2) (j:=0) (by exact w9) (by exact AQ)
  have i1:eI 2 (1:Int)=some 1:=kM (n:=2) (j:=1) (by exact w9) (by exact Fu)
  have t0:iJ (.own (pl cells cw)) (.af (.int 1))=some (.af (.int (cw:Int))):=by
   kernel_rfl
  have t1:∀ s,iJ (.own (pl cells s)) (.af (.int 0))=some (.af (il cells)):=λs=>by
   kernel_rfl
  have s0:∀ ss o,cA (λg us=>aw T K k g us) [S "pool"] [] K ss (put (ae "pool") (.own (pl cells (cw+1))) (put (ae "spot") (.af (.int (cw:Int))) ρ0))=o→cA (λg us=>aw T K k g us) [S "pool"] [] K (ay (av 102).body [0]::ay (av 102).body [1]::ss) ρ0=o:=by
   intro ss o h
   refine cV (ρ':=put (ae "spot") (.af (.int (cw:Int))) ρ0) ?_ (cV (ρ':=put (ae "pool") (.own (pl cells (cw+1))) (put (ae "spot") (.af (.int (cw:Int))) ρ0)) ?_ h)
   ·show ex _ _ _ _ (.Assign [.Name _ _] (.Subscript (.Name _ _) (.Constant _ _ _) _) _) _=_
    refine lH rfl ?_
    exact qe λq=>q l1 t0
   ·show ex _ _ _ _ (.Assign [.Subscript (.Name _ _) (.Constant _ _ _) _] (.BinOp _ _ _ _) _) _=_
    show ex _ _ _ _ (.Assign [_] (b8 (ay (av 102).body [1])) _) _=_
    exact qx λq=>q true true lq (ln rfl l1) i1 (by decide) eY
  generalize nq:put (ae "pool") (.own (pl cells (cw+1))) (put (ae "spot") (.af (.int (cw:Int))) ρ0)=ρ2 at *
  have m1:aj (ae "pool") ρ2=some (.own (pl cells (cw+1))):=by subst nq;exact lq
  have m2:aj (ae "spot") ρ2=some (.af (.int (cw:Int))):=by subst nq;exact(ln rfl lq)
  have m3:aj (ae "many") ρ2=some (.af (.int (kh:Int))):=by subst nq;exact(ln rfl (ln rfl l2))
  clear nq
  have b1:bi (ae "len") [.af (il cells)]=some (.int (cells.length:Int)):=by simp only[jo,jI,il,ag,jO,↓reduceIte,show cells.length≤bh by exact H4 _ hc]
  have mz:¬ ((kh:Int)=0):=xc _ hm
  by_cases h:cw<cells.length
  ·refine aT (Jv ((gi cells cw).natAbs:Int) hm) λd d1 d2=>?_
   have h':(cw:Int)<(cells.length:Int):=vL _ _ h
   refine⟨d,d1,ρ2,s0 _ _ (fZ (kL (c:=true) ?_ ?_)),m1⟩
   ·exact qb λq=>q m2 m1 rfl b1 (ct h')
   ·rw[if_pos rfl]
    refine fZ (jQ ?_)
    have t2:iJ (.af (il cells)) (.af (.int (cw:Int)))=some (.af (.int (gi cells cw))):=by
     simp only[ro,il,ag,(kM (by exact H4 _ hc) h:eI cells.length (cw:Int)=some cw),aU,rU h,jO]
    exact qe λq=>a7 (q m1 (t1 _) m2 t2 rfl m3 (qd (by assumption))) (by simp only[d2])
  ·have h':¬ (cw:Int)<(cells.length:Int):=by exact AZ _ _ h
   refine aT (Jv (cw:Int) (m:=8) (by exact rl 0xe4802900 rfl)) λe e1 e2=>?_
   refine aT (Jv (gi [1,1,3,0,2,2,0,1] e) hm) λd d1 d2=>?_
   refine⟨d,d1,ρ2,s0 _ _ (cV (ρ':=ρ2) (kL (c:=false) ?_ rfl) (fZ (jQ ?_))),m1⟩
   ·exact qb λq=>q m2 m1 rfl b1 (cf h')
   ·have t2:=@Oi [1,1,3,0,2,2,0,1] e (e:Int) (by decide) e1 rfl
    have t3:ev (λg us=>aw T K k g us) (jG (b8 (ay (av 102).body [3])) [0,0]) ρ2=some (.af (.tup (([1,1,3,0,2,2,0,1]:List Int).map .int))):=by
     show ev _ (.Tuple _ _ _) _=_
     exact qe λq=>q
    have e2':(cw:Int).fmod 8=(e:Int):=e2
    generalize DV.tup (([1,1,3,0,2,2,0,1]:List Int).map .int)=X at t2 t3
    show ev _ (.BinOp (.Subscript (jG (b8 (ay (av 102).body [3])) [0,0]) (.BinOp _ _ _ _) _) _ (.Name _ _) _) _=_
    simp only[oP,gR,qS,Ea,t3,m2,m3,cy,Ms,show ¬ ((8:Int)=0) by exact rl 0x2f35ac0100 rfl,e2',t2,mz,d2,jO,↓reduceIte]
 refine F3 fs λd h1 ρ h2 h3=>?_;clear fs
 exact⟨d,h1,Js y7e y7j y6x y7s rfl rfl rfl ⟨ρ,.inl (by exact(ak z)▸h2),h3⟩⟩
end
section
noncomputable def oz (l:List Int):OT:=.own (l.map λi=>.af (.int i))
theorem OU (l:List Int):mA (l.map λq=>OT.af (.int q))=l.map .int:=by
 induction l with
 | nil=>rfl
 | cons a l ih=>exact congrArg (eZ _) ih
theorem Qh (l:List Int):gM (l.map λq=>OT.af (.int q))=true:=by
 induction l with
 | nil=>rfl
 | cons a l ih=>exact ih
theorem Iy (q:Int):∀ n:Nat,(ax n [DV.int q]).flatten=(ax n q).map .int
 | 0=>rfl
 | n+1=>by refine(ak eM)▸(ak g9)▸(ak (Iy q n))▸?_;rfl
theorem G4 (l:List Int):(l.map DV.int).map OT.af=l.map λq=>OT.af (.int q):=by refine(ak aN)▸?_;rfl
noncomputable def mX (i:Nat) (x:Int) (B l:List Int):Nat→List Int
 | 0=>l
 | j+1=>(mX i x B l j).set (j+i) (gi (mX i x B l j) (j+i)+x*gi B j)
theorem AF {i:Nat}{x:Int}{B l:List Int}:mX i x B l 0=(l):=rfl
theorem NS {i:Nat}{x:Int}{B l:List Int}:∀ j,mX i x B l (j+1)=((mX i x B l j).set (j+i) (gi (mX i x B l j) (j+i)+x*gi B j)):=λ_=>rfl
theorem Bo (i:Nat) (x:Int) (B l:List Int):∀ j,(mX i x B l j).length=l.length
 | 0=>rfl
 | j+1=>by rw[NS,bM,Bo i x B l j]
noncomputable def zO (A B l:List Int):Nat→List Int
 | 0=>l
 | i+1=>if gi A i=0 then zO A B l i else mX i (gi A i) B (zO A B l i) B.length
theorem HL {A B l:List Int}:∀ i,zO A B l (i+1)=(if gi A i=0 then zO A B l i else mX i (gi A i) B (zO A B l i) B.length):=λ_=>rfl
theorem I4 (A B l:List Int):∀ i,(zO A B l i).length=l.length
 | 0=>rfl
 | i+1=>by
  rw[HL]
  split
  ·exact I4 A B l i
  ·rw[Bo,I4 A B l i]
noncomputable def zm (A B:List Int):List Int:=if A.length=0∨B.length=0 then [] else zO A B (ax (A.length+B.length-1) 0) A.length
theorem Tp:T (S "zmul")=some (av 29):=by kernel_rfl
theorem SG:(av 29).params=[S "a",S "b"]:=by kernel_rfl
theorem Vf:(av 29).PN=[]:=by kernel_rfl
theorem Ta:(av 29).M=[(S "found",1)]:=by kernel_rfl
theorem WI {K m i:Nat}{A B l:List Int}{ρ:au}(hi:i<A.length) (ll:l.length=A.length+B.length-1) (lA:A.length≤100) (lB:B.length≤100) (hm:∀ j,j<B.length→cj (gi A i) (gi B j)=true)
  (r2:lk ρ "b"=some (.af (il B))) (r3:lk ρ "found"=some (oz l)) (r1:lk ρ "a"=some (.af (il A))) :
  ∃ ρ',(lk ρ' "a"=some (.af (il A))∧lk ρ' "b"=some (.af (il B))∧lk ρ' "found"=some (oz (if gi A i=0 then l else mX i (gi A i) B l B.length))) ∧
   (bp (dH (ay (av 29).body [2])) (.tup [.int (i:Int),.int (gi A i)]) ρ).bind (λρ'=>cA (λg us=>aw T K m g us) [] [(S "found",1)] K (bG (ay (av 29).body [2])) ρ')=some (.bU ρ'):=by
 simp only[bp]
 have ht:∀ c:Bool,c=(!decide (gi A i=0))→fx (λg us=>aw T K m g us) (dG (ay (av 29).body [2,0])) (put (ae "left") (.af (.int (gi A i))) (put (ae "one") (.af (.int (i:Int))) ρ))=some c:=by
  intro c hc
  exact qb λq=>a7 (q lq rfl) (by(congr 1;lia))
 by_cases h0:gi A i=0
 ·rw[if_pos h0]
  refine⟨_,⟨?_,?_,?_⟩,cV (kL (ht false (by simp[h0])) rfl) m5⟩
  ·simpa only [lk,fF,jO,↓reduceIte,String.reduceEq,reduceCtorEq] using r1
  ·simpa only [lk,fF,jO,↓reduceIte,String.reduceEq,reduceCtorEq] using r2
  ·simpa only [lk,fF,jO,↓reduceIte,String.reduceEq,reduceCtorEq] using r3
 ·rw[if_neg h0]
  have L:=sI (bd:=bp (dH (ay (av 29).body [2,0,0]))) (b:=λρ'=>cA (λg us=>aw T K m g us) [] [(S "found",1)] K (bG (ay (av 29).body [2,0,0])) ρ')
   (λj ρ=>lk ρ "a"=some (.af (il A))∧lk ρ "b"=some (.af (il B))∧lk ρ "one"=some (.af (.int i))∧lk ρ "left"=some (.af (.int (gi A i)))∧lk ρ "found"=some (oz (mX i (gi A i) B l j)))
   (eh 0 (B.map .int)) 0 (put (ae "left") (.af (.int (gi A i))) (put (ae "one") (.af (.int i)) ρ))
   ⟨by simpa [lk,fF] using r1,by simpa [lk,fF] using r2,by exact(ln rfl lq),by exact lq,by simpa [lk,fF,AF] using r3⟩ (by
    intro j hj ρ ⟨h1,h2,h3,h4,h5⟩
    have kE:j<(B.map DV.int).length:=by rw[qX] at hj;exact hj
    rw[aX] at h5 ⊢
    rw[xp _ _ _ _ kE,bF,aX]
    rw[ag] at kE
    refine(ak ((by simp[gi,kE]:B[j]=gi B j)))▸?_
    have i1:eI (mX i (gi A i) B l j).length ((i:Int)+(j:Int))=some (j+i):=by
     have:=@kM (mX i (gi A i) B l j).length (j+i) (by exact Ng _ _ _ _ ll lA lB (Bo i (gi A i) B l j)) (HM _ _ _ _ _ _ hi ll kE (Bo i (gi A i) B l j):j+i<(mX i (gi A i) B l j).length)
     rwa [mT,HG] at this
    have i2:(mX i (gi A i) B l j)[j+i]?=some (gi (mX i (gi A i) B l j) (j+i)):=rU (HM _ _ _ _ _ _ hi ll kE (Bo i (gi A i) B l j):j+i<(mX i (gi A i) B l j).length)
    refine⟨put (ae "found") (oz (mX i (gi A i) B l (j+1))) (put (ae "right") (.af (.int (gi B j))) (put (ae "other") (.af (.int j)) ρ)),⟨by simpa [lk,fF] using h1,by simpa [lk,fF] using h2,by simpa [lk,fF] using h3,by simpa [lk,fF] using h4,by exact lq⟩,.inl ?_⟩
    rw[NS]
    generalize mX i (gi A i) B l j=l' at *
    simp only[lk] at h1 h2 h3 h4 h5
    simp only[oz] at h5
    exact oV λq=>a7 (q h5 h3 (qU i1) (rl 0x8d2080c10b02 rfl _ _:(0:Int)≤(i:Int)+(j:Int)) (sF i2) h4 (fY (hm j kE)) rfl) (by simp only[QO.out,cR,oz,cL]))
  obtain⟨ρ',⟨h1,h2,h3,h4,h5⟩,h6⟩:=L
  refine⟨ρ',⟨h1,h2,?_⟩,?_⟩
  ·rw[h5,aX,qX,ag]
  ·refine cV (kL (ht true (by simp[h0])) ?_) m5
   refine(ak (if_pos rfl))▸?_
   refine cV ?_ m5
   rw[←h6]
   simp only[lk] at r2
   exact vO (qi λq=>q (ln rfl (ln rfl r2)) (by(simp;exact j6 _ lB)))
theorem VX {K n:Nat}{A B:List Int}(hn:1≤n) (hm:∀ i j,i<A.length→j<B.length→cj (gi A i) (gi B j)=true) (lA:A.length≤100) (lB:B.length≤100) :
  aw T K n (S "zmul") [.af (il A),.af (il B)]=some (il (zm A B),[.af (il A),.af (il B)]):=by
 apply nS hn;intro m hn
 refine eR Tp SG Vf Ta rfl rfl ?_
 refine(ak ((rfl:cm [S "a",S "b"] [OT.af (il A),.af (il B)]=[((ae "a"),.af (il A)),((ae "b"),.af (il B))])))▸?_
 have th:(A.map DV.int).length≤bh:=by rw[ag];exact j6 _ lA
 have ud:(B.map DV.int).length≤bh:=by rw[ag];exact j6 _ lB
 refine(bA (A.length=0∨B.length=0)).elim (λh0=>?_) λh0=>?_
 ·refine⟨[((ae "a"),.af (il A)),((ae "b"),.af (il B))],?_⟩
  rw[zm,if_pos h0]
  by_cases yA:A.length=0
  ·have z1:(((A.map DV.int).length:Int))=0:=by rw[ag,yA];rfl
   exact gL λq=>q rfl (iH th) (ct (by exact AW _ z1)) true
  ·have z1:¬ ((((A.map DV.int).length:Int))=0):=by rw[ag];exact A0 _ yA
   have z2:(((B.map DV.int).length:Int))=0:=by rw[ag,h0.resolve_left yA];rfl
   exact gL λq=>q rfl (iH th) (cf z1) rfl (iH ud) (ct (by exact AW _ z2)) true
 ·have e1:((A.length:Int)+(B.length:Int)-1)=((A.length+B.length-1:Nat):Int):=by exact Nf _ _ h0
  have L:=sI (bd:=bp (dH (ay (av 29).body [2]))) (b:=λρ'=>cA (λg us=>aw T K m g us) [] [(S "found",1)] K (bG (ay (av 29).body [2])) ρ')
   (λi ρ=>lk ρ "a"=some (.af (il A))∧lk ρ "b"=some (.af (il B))∧lk ρ "found"=some (oz (zO A B (ax (A.length+B.length-1) 0) i)))
   (eh 0 (A.map .int)) 0 (put (ae "found") (oz (ax (A.length+B.length-1) 0)) [((ae "a"),.af (il A)),((ae "b"),.af (il B))])
   ⟨by exact(ln rfl rfl),by exact(ln rfl rfl),by exact lq⟩ (by
    intro i hi ρ ⟨h1,h2,h3⟩
    have jc:i<(A.map DV.int).length:=by rw[qX] at hi;exact hi
    rw[aX] at h3 ⊢
    rw[xp _ _ _ _ jc,bF,aX]
    rw[ag] at jc
    refine(ak ((by simp[gi,jc]:A[i]=gi A i)))▸?_
    have l1:=I4 A B (ax (A.length+B.length-1) 0) i
    rw[aH] at l1
    obtain⟨ρ',q1,q2⟩:=WI (m:=m) jc l1 lA lB (λj hj=>hm i j jc hj) h2 h3 h1
    exact⟨ρ',q1,.inl q2⟩)
  obtain⟨ρ',⟨h1,h2,h3⟩,h5⟩:=L
  rw[aX,qX,ag] at h3
  simp only[lk,oz] at h3
  have hf:=@zZ [] (ae "found") ρ'
  rw[h3] at hf
  simp only[aD,mr,Qh,hG,cZ,kZ,cg,if_false,mx,OU] at hf
  rw[zm,if_neg h0]
  have z1:¬ ((((A.map DV.int).length:Int))=0):=by rw[ag];exact rl 0xbcd70406ff0bd287a50102 rfl _ _ h0
  have z2:¬ ((((B.map DV.int).length:Int))=0):=by rw[ag];exact rl 0xbcd70406ff0bd280bd2802 rfl _ _ h0
  rw[(by simp only[oz,dK]:oz (ax (A.length+B.length-1) 0)=.own ((ax (A.length+B.length-1) (DV.int 0:DV)).map .af))] at h5
  have ek:((A.map DV.int).length:Int)+((B.map DV.int).length:Int)-1=((A.length+B.length-1:Nat):Int):=by rw[ag,ag];exact e1
  refine⟨bX [] ρ',?_⟩
  exact gL λq=>q rfl (iH th) (cf z1) rfl (iH ud) (cf z2) true rfl (iH th) rfl (iH ud) (vW ek (Nd _ _ lA lB:A.length+B.length-1≤256)) rfl th h5 rfl false false (uF (by show(ev _ (.Name _ _) _).bind _=_;simp only[gR,h3,kS,ao]) rfl (qe λq=>q hf):eN (λg us=>aw T K m g us) [] (b8 (ay (av 29).body [3])) ρ'=some (.af (il (_)),bo (b8 (ay (av 29).body [3])),bX [] ρ'))
end
section
section
variable {C:ey}{PN:List Str}{M:List (Str×Nat)}{K:Nat}
theorem OJ {e:Expr}{ρ ρ':au}{d:DV} (h1:(ev C e ρ).bind OT.lf=none) (h2:kB C e ρ=some (d,ρ')):eN C PN e ρ=some (.af d,false,ρ'):=by
 unfold eN
 exact(ak h1)▸(ak h2)▸rfl
theorem QS {α:Type}(inj f:α→DV) (p:α→Bool){k:DV→Option (List DV)}:∀ {l:List α},(∀ a∈l,k (inj a)=some (if p a then [f a] else []))→gV k (l.map inj)=some ((l.filter p).map f)
 | [],_=>rfl
 | a::l,h=>by
  rw[a8,Bs,h a (.head _),QS inj f p (l:=l) λb hb=>h b (.tail _ hb),List.filter_cons]
  cases p a<;>rfl
theorem Py {α:Type}(inj f:α→DV) (pr:α→Bool){elt t it:Expr}{ifs:List Expr}{sc:Scope}{p:Pos}{ia:Nat}{ρ:au}{l:List α}(hs:(sc.names.all λp=>p.2 != .free||(ρ.lookup p.1).isSome)=true)
  (nK:eJ C it ρ=some (l.map inj)) (hc:l.length≤bh) (hb:∀ a∈l,∃ ρ',cW t (inj a) (seen sc ρ)=some ρ'∧iV C .And ifs ρ'=some (pr a)∧(pr a=true→ev C elt ρ'=some (.af (f a)))) :
  ev C (.ListComp elt [⟨t,it,ifs,ia⟩] sc p) ρ=some (.af (.list ((l.filter pr).map f))):=by
 simp only[uA,hs,if_true,nv,ny,nK,ao]
 rw[QS inj f pr (l:=l)]
 ·have:=List.length_filter_le pr l
  simp only[ao,ag,show(l.filter pr).length≤bh by exact rl 0xd4800000004405a8405a9000000008802 rfl _ _ hc this,if_true]
 ·intro a ha
  refine iw (hb a ha) λρ' h1 h2 h3=>?_
  simp only[h1,h2,ao]
  cases hp:pr a with
  | true=>refine(ak (h3 hp))▸?_;rfl
  | false=>rfl
end
noncomputable def iD (v:Int):List Int:=([-3,-2,-1,1,2,3,4]:List Int).filter λu=>!decide (u=v)
noncomputable def fq (v:Int) (us:List Int):List Int:=(iD v).filter λu=>us.all λw=>!decide (u=w)
noncomputable def tup (v:Int):Nat→List (List Int)
 | 0=>[[]]
 | k+1=>(tup v k).flatMap λus=>(fq v us).map λu=>us++[u]
theorem A7 {v:Int}:tup v 0=([[]]):=rfl
noncomputable def mC:List Int:=[1,-1,2,-2,3,-3]
theorem ZD (v:Int) (us:List Int) (u:Int):fq v (us++[u])=(fq v us).filter λx=>!decide (x=u):=by
 unfold fq
 rw[tP]
 congr 1
 funext x
 rw[List.all_append]
 simp[Bool.and_comm]
theorem X2 {v:Int}{k:Nat}{us:List Int}{u:Int}(h:us∈tup v k) (hu:u∈fq v us):us++[u]∈tup v (k+1):=
 bN.mpr ⟨us,h,aE.mpr ⟨u,hu,rfl⟩⟩
noncomputable def fp (us:List Int):List Int:=us.foldl (λf u=>zm f [0-u,1]) [1]
noncomputable def d9 (v:Int) (ps:List (Int×Int)):Rat:=ps.foldl (λg p=>g+aI (p.2*v) (v-p.1)) 0
noncomputable def cK (ps:List (Int×Int)):Int:=ps.foldl (λa p=>a*p.2) 1
noncomputable def cF (v:Int) (ps:List (Int×Int)):Int:=ps.foldl (λa p=>a*p.1*(p.1-v)) 1
theorem ZC:([1,2,3]:List Int).all (λv=>(az 3).all λi=>(tup v i).all λus=>decide (0<(fq v us).length)&&decide ((fq v us).length<100)&&decide ((fp us).length≤10)&&(fp us).all λa=>decide (a.natAbs<2^20))=true:=by decide +kernel
theorem Zd:([1,2,3]:List Int).all (λv=>(iD v).all λu=>decide (-3≤u)&&decide (u≤4)&&!decide (u=v)&&!decide (u=0))=true:=by decide +kernel
theorem Gv {v:Int}{us:List Int}{u:Int}(h:u∈fq v us):u∈iD v:=(gC.mp h).1
theorem t6 {v u:Int}(hv:v∈([1,2,3]:List Int)) (h:u∈iD v):-3≤u∧u≤4∧u≠v∧u≠0:=by
 have:=aA.mp (aA.mp Zd v hv) u h
 simpa [and_assoc] using this
theorem V8 {v:Int}{i:Nat}{us:List Int}(hv:v∈([1,2,3]:List Int)) (hi:i<3) (h:us∈tup v i):0<(fq v us).length∧(fq v us).length<100∧(fp us).length≤10∧∀ a∈fp us,a.natAbs<2^20:=by
 have:=aA.mp (aA.mp (aA.mp ZC v hv) i (bY.mpr hi)) us h
 simp only[aY,decide_eq_true_eq,aA] at this
 exact⟨this.1.1.1,this.1.1.2,this.1.2,this.2⟩
noncomputable def pr (p:Int×Int):DV:=.tup [.int p.1,.int p.2]
noncomputable def LR (cells:List Int) (v:Int) (k:Nat) (ps:List (Int×Int)) (cw:Nat) (ρ:au):Prop:=
 lk ρ "pool"=some (.own (pl cells cw))∧lk ρ "v"=some (.af (.int v))∧lk ρ "k"=some (.af (.int (k:Int)))∧lk ρ "menu"=some (.af (il (fq v (ps.map (·.1)))))∧lk ρ "pairs"=some (.own (ps.map λp=>.af (pr p))) ∧
 lk ρ "f"=some (.af (il (fp (ps.map (·.1)))))∧lk ρ "goal"=some (.af (qv (d9 v ps)))∧lk ρ "ahead"=some (.af (.int (cK ps)))∧lk ρ "onward"=some (.af (.int (cF v ps)))
structure LG (v:Int) (ps:List (Int×Int)):Prop where
 us:ps.map (·.1)∈tup v ps.length
 cs:∀ p∈ps,p.2∈mC
 zg:sz (1+12*ps.length) (d9 v ps)
 za:b6 (1+2*ps.length) (cK ps)
 zo:b6 (1+6*ps.length) (cF v ps)
theorem ES:T (S "law")=some (av 104):=by kernel_rfl
theorem E4:(av 104).params=[S "script"]:=by kernel_rfl
theorem Tf:(av 104).PN=[]:=by kernel_rfl
theorem E8:(av 104).M=[(S "pool",1),(S "pairs",1)]:=by kernel_rfl
theorem Bv {c:Int}(h:c∈mC):c.natAbs<4∧c≠0:=by
 have:mC.all (λc=>decide (c.natAbs<4)&&!decide (c=0))=true:=by decide
 have:=aA.mp this c h
 simpa using this
theorem LG.snoc {v:Int}{ps:List (Int×Int)}{u c:Int}(hv:v∈([1,2,3]:List Int)) (o:LG v ps) (hu:u∈fq v (ps.map (·.1))) (hc:c∈mC):LG v (ps++[(u,c)])∧sz (1+12*ps.length) (d9 v ps):=by
 refine jR (t6 hv (Gv hu)) λu1 u2 u3 u4=>?_
 refine dJ (Bv hc) λc1 c2=>?_
 have rt:v=1∨v=2∨v=3:=by simpa using hv
 have bc:b6 2 c:=by unfold b6;exact H3 _ c1
 have bv:b6 2 v:=by unfold b6;exact zw _ rt
 have bu:b6 3 u:=by unfold b6;exact rl 0x39200f551591515716310 rfl _ u1 u2
 have Hs:b6 4 (v-u):=by unfold b6;exact MS _ _ u1 u2 rt
 have Mp:b6 3 (u-v):=by unfold b6;exact MQ _ _ u1 u2 rt
 refine⟨⟨?_,?_,?_,?_,?_⟩,o.zg⟩
 ·rw[bL,aR]
  exact X2 o.us hu
 ·intro p hp
  rcases aP.mp hp with h | h
  ·exact o.cs p h
  ·rw[aK.mp h];exact hc
 ·unfold d9
  rw[cQ,aR]
  exact kz (by simp only[aF,aW];exact rl 0x6b3040b1214242c48589233040a12101 rfl _) (rR o.zg (xw (A:=4) (x:=c*v) (y:=v-u) (by exact H2 _ _ u3) (jP bc bv) Hs))
 ·unfold cK
  rw[cQ,aR]
  exact i9 (by simp only[aF,aW];exact rl 0x3598131214242c489981212101 rfl _) (jP o.za bc)
 ·unfold cF
  rw[cQ,aR]
  exact i9 (by simp only[aF,aW];exact rl 0x1acc19890a1216246c48d983212101 rfl _) (jP (jP o.zo bu) Mp)
theorem Yj {K m k cw:Nat}{cells:List Int}{v:Int}{ps:List (Int×Int)}{ρ:au}{t:DV}(hm:4≤m) (hK:dB K) (hc:cells.length≤8) (hv:v∈([1,2,3]:List Int)) (hi:ps.length<3) (o:LG v ps) (r:LR cells v k ps cw ρ) :
  ∃ u c ρ',u∈fq v (ps.map (·.1))∧c∈mC∧LR cells v k (ps++[(u,c)]) (cw+2) ρ'∧(bp (dH (ay (av 104).body [4])) t ρ).bind (λρ'=>cA (λg us=>aw T K m g us) [] [(S "pool",1),(S "pairs",1)] K (bG (ay (av 104).body [4])) ρ')=some (.bU ρ'):=by
 refine Qy r λr1 r2 r3 r4 r5 r6 r7 r8 r9=>?_;clear r
 simp only[lk] at r1 r2 r3 r4 r5 r6 r7 r8 r9
 refine jR (V8 hv hi o.us) λf1 f2 f3 f4=>?_
 refine aT (@Gg K m _ cw cells (by exact w8 _ hm) f1 hc) λd d1 d2=>?_
 refine aT (@Gg K m 6 (cw+1) cells (by exact w8 _ hm) (by exact rl 0x724c900 rfl) hc) λe e1 e2=>?_
 have hu:gi (fq v (ps.map (·.1))) d∈fq v (ps.map (·.1)):=by
  have:=rU d1
  exact bt this
 have Hg:gi mC e∈mC:=bt (rU (show e<mC.length from e1))
 have iu:=@uD _ d (d:Int) (by exact H0 _ f2) d1 rfl
 have ic:=@Oi mC e (e:Int) (by decide) e1 rfl
 refine jR (t6 hv (Gv hu)) λu1 u2 u3 u4=>?_
 refine dJ (Bv Hg) λc1 c2=>?_
 have hms:=ZD v (ps.map (·.1)) (gi (fq v (ps.map (·.1))) d)
 generalize gi (fq v (ps.map (·.1))) d=u at *
 generalize gi mC e=c at *
 refine⟨u,c,?_⟩
 have rt:v=1∨v=2∨v=3:=by simpa using hv
 have bc:b6 2 c:=by unfold b6;exact H3 _ c1
 have bv:b6 2 v:=by unfold b6;exact zw _ rt
 have bu:b6 3 u:=by unfold b6;exact rl 0x39200f551591515716310 rfl _ u1 u2
 have Hs:b6 4 (v-u):=by unfold b6;exact MS _ _ u1 u2 rt
 have Mp:b6 3 (u-v):=by unfold b6;exact MQ _ _ u1 u2 rt
 have zg:=o.zg;have za:=o.za;have zo:=o.zo
 have g3:=@VX K m (fp (ps.map (·.1))) [0-u,1] (by exact w8 _ hm) (by
  intro i j jc kE
  refine gT (A:=20) (B:=4) (f4 _ (bt (rU jc))) ?_ (by exact rl 0x1a90148639ce73a40300 rfl)
  rcases(show j=0∨j=1 by simp at kE;exact rl 0x1f0bd2143d287244801 rfl _ kE) with rfl | rfl
  ·show b6 4 (0-u);unfold b6;exact rl 0xe4805daa971591515716310 rfl _ u1 u2
  ·show b6 4 1;unfold b6;decide) (by exact rl 0x35242050d4882801 rfl _ f3) (by simp)
 have pl3:(ps.map λp=>OT.af (pr p)).length+1≤bh:=by rw[ag];exact rl 0xd4800000004624287246801 rfl _ hi
 have Hf:ev (λg us=>aw T K m g us) (b8 (ay (av 104).body [4,1])) (cR [(ae "u",.af (.int u)),(ae "pool",.own (pl cells (cw+1))),(ae "turn",.af t)] ρ)=some (.af (il (fq v (ps.map (·.1)++[u])))):=by
  rw[hms]
  refine Py (α:=Int) (λi=>.int i) (λi=>.int i) (λx=>!decide (x=u)) ?_ ?_ (by exact H0 _ f2) ?_
  ·simp only[cb,cD,zL,gn,jO,↓reduceIte,String.reduceEq,bI];rfl
  ·exact qi λq=>q (ln rfl (ln rfl (ln rfl r4)))
  ·intro x _
   refine⟨[((ae "one"),.af (.int x)),((ae "u"),.af (.int u))],?_,?_,λZ=>?_⟩
   ·simp only[cW,iS,seen,jD,jl,cy,aS,bj,zL,gn,jO,↓reduceIte,String.reduceEq,bB]
   ·exact Rg λq=>q rfl rfl rfl
   ·exact qe λq=>q rfl
 refine⟨put (ae "onward") (.af (.int (cF v ps*u*(u-v)))) (put (ae "ahead") (.af (.int (cK ps*c))) (put (ae "goal") (.af (qv (d9 v ps+aI (c*v) (v-u)))) (put (ae "f") (.af (il (zm (fp (ps.map (·.1))) [0-u,1])))
  (put (ae "pairs") (.own (ps.map (λp=>.af (pr p))++[.af (pr (u,c))])) (put (ae "c") (.af (.int c)) (put (ae "pool") (.own (pl cells (cw+2))) (put (ae "menu") (.af (il (fq v (ps.map (·.1)++[u])))) (put (ae "u") (.af (.int u)) (put (ae "pool") (.own (pl cells (cw+1))) (put (ae "turn") (.af t) ρ)))))))))),hu,Hg,?_,?_⟩
 ·refine⟨?_,?_,?_,?_,?_,?_,?_,?_,?_⟩<;>simp only[lk,fF,jO,↓reduceIte,String.reduceEq,r2,r3,bL]
  ·simp only[fp,cQ,jh,jK]
  ·simp only[d9,cQ,jh,jK]
  ·simp only[cK,cQ,jh,jK]
  ·simp only[cF,cQ,jh,jK]
 ·exact oV λq=>q false true r4 r1 r4 (by simp only[jo,jI,il,ag,jO,↓reduceIte,show(fq v (ps.map (·.1))).length≤bh by exact H0 _ f2]:bi (ae "len") [.af (il (fq v (ps.map (·.1))))]=some (.int ((fq v (ps.map (·.1))).length:Int))) d2 iu true Hf false true (e2:aw T K m (ae "_law_draw") [OT.own (pl cells (cw+1)),OT.af (.int 6)]=some (.int (e:Int),[.own (pl cells (cw+1+1)),.af (.int 6)])) ic true r5 pl3 r6 (g3:aw T K m (ae "zmul") [OT.af (il (fp (ps.map (·.1)))),OT.af (.list [.int (0-u),.int 1])]=some (il (zm (fp (ps.map (·.1))) [0-u,1]),[OT.af (il (fp (ps.map (·.1)))),OT.af (il [0-u,1])])) r7 r2 (fY (gT bc bv (by exact rl 0xd480a431ce739d2400 rfl):cj c v=true)) r2 (@qW K m (c*v) (v-u) (by exact rl 0x6a1226a12401 rfl _ hm) (H2 _ _ u3:v-u≠0) (hK.g (B:=4) (by exact rl 0xd480a431ce739d2400 rfl) Hs)) (@Bq K m _ _ _ _ (by exact rl 0x6a1236a12401 rfl _ hm) hK zg (xw (A:=4) (x:=c*v) (y:=v-u) (H2 _ _ u3:v-u≠0) (jP bc bv) Hs) (by exact rl 0xd480a431ce739d89233040a1217246801 rfl _ hi)) r8 (fY (gT za bc (by exact rl 0x6a405218e739cec48998121217246801 rfl _ hi):cj (cK ps) c=true)) r9 (fY (gT zo bu (by exact rl 0x6a405218e739cec48d98321217246801 rfl _ hi):cj (cF v ps) u=true)) r2 (fY (gT (jP zo bu) Mp (by exact rl 0x3520290c739ce76246c48d98321217246801 rfl _ hi):cj (cF v ps*u) (u-v)=true))
end
section
theorem LG.nil {v:Int}:LG v []:=⟨by simp[A7],λp hp=>(nomatch hp),rV 0,(by unfold b6;decide:b6 1 1),(by unfold b6;decide:b6 1 1)⟩
theorem PJ {K m k:Nat}{cells:List Int}{v:Int}(hm:4≤m) (hK:dB K) (hc:cells.length≤8) (hv:v∈([1,2,3]:List Int)):∀ (l:List DV) (ps:List (Int×Int)) (cw:Nat) (ρ:au),l.length+ps.length≤3→LG v ps→LR cells v k ps cw ρ →
  ∃ qs nY ρ',qs.length=l.length+ps.length∧LG v qs∧LR cells v k qs nY ρ'∧fN (bp (dH (ay (av 104).body [4]))) (λρ'=>cA (λg us=>aw T K m g us) [] [(S "pool",1),(S "pairs",1)] K (bG (ay (av 104).body [4])) ρ') l ρ=some (.bU ρ')
 | [],ps,cw,ρ,h,o,r=>⟨ps,cw,ρ,by simp,o,r,rfl⟩
 | t::l,ps,cw,ρ,h,o,r=>by
  have h:=aF▸h
  refine nU (@Yj K m k cw cells v ps ρ t hm hK hc hv (by exact rl 0x3923405a91b1016242802 rfl _ _ h) o r) λu c ρ₁ hu Hg r1 h1=>?_
  refine nU (PJ hm hK hc hv l (ps++[(u,c)]) (cw+2) ρ₁ (by rw[aR];simp;exact rl 0x6a46c624280a1a91b1016242802 rfl _ _ h) (o.snoc hv hu Hg).1 r1) λqs nY ρ' q1 q2 q3 q4=>?_
  refine⟨qs,nY,ρ',by rw[q1,aR,aF];simp;exact HR _ _,q2,q3,?_⟩
  rw[zT]
  cases hb:bp (dH (ay (av 104).body [4])) t ρ with
  | none=>rw[hb] at h1;cases h1
  | some ρ₂=>
   rw[hb] at h1
   rw[ao] at h1 ⊢
   exact(ak h1)▸q4
theorem hi8 (n:Nat):kms_hi (some 8) n=min 8 n:=by simp[kms_hi]
theorem Yg {K m:Nat}{ns:List Int}{ρ0:au}(hm:4≤m) (hK:dB K) (hn:ns.length≤63) (h0:aj (ae "script") ρ0=some (.af (il ns))) :
  ∃ (v:Int) (ps:List (Int×Int)) (cw:Nat) (ρ:au),v∈([1,2,3]:List Int)∧1≤ps.length∧ps.length≤3∧LG v ps∧LR (ns.take 8) v ps.length ps cw ρ ∧
   ∀ ss o,cA (λg us=>aw T K m g us) [] [(S "pool",1),(S "pairs",1)] K ss ρ=o→cA (λg us=>aw T K m g us) [] [(S "pool",1),(S "pairs",1)] K (ay (av 104).body [0]::ay (av 104).body [1]::ay (av 104).body [2]::ay (av 104).body [3]::ay (av 104).body [4]::ss) ρ0=o:=by
 have hc:(ns.take 8).length≤8:=by rw[cn];exact rl 0x1a9007e54240101 rfl _
 generalize uk:ns.take 8=cells at *
 have x0:ex (λg us=>aw T K m g us) [] [(S "pool",1),(S "pairs",1)] K (ay (av 104).body [0]) ρ0=some (.bU (put (ae "pool") (.own (pl cells 0)) ρ0)):=by
  have t1:ev (λg us=>aw T K m g us) (jG (b8 (ay (av 104).body [0])) [0]) ρ0=some (.af (il cells)):=by
   refine mI (α:=Int) (λi=>.int i) (λi=>.int i) ?_ ?_ (by exact H4 _ hc) ?_
   ·kernel_rfl
   ·have e0:kms_lo none ns.length=0:=rfl
    simp only[Ma,oP,gR,Eg,Ef,h0,il,pO,nZ,ag,jO,↓reduceIte,show ns.length≤bh by exact rl 0x3520000000110d49ce801 rfl _ hn,hi8,e0,jL,lD,←uk]
    refine eP▸?_
    congr 2
    refine(ak (show min 8 ns.length=if 8≤ns.length then 8 else ns.length by split<;>lia))▸?_
    split
    ·rfl
    ·exact(ak (cX (by lia:ns.length≤8)))▸(ak List.take_length)▸rfl
   ·intro a _
    have b:bi (ae "int") [.af (.int a)]=some (.int a):=by simp only[Mu]
    refine⟨[((ae "cell"),.af (.int a))],?_,?_⟩
    ·kernel_rfl
    ·exact qe λq=>q rfl b
  exact qx λq=>q true t1
 refine aT (@Gg K m 3 0 cells (by exact w8 _ hm) (by exact AP) hc) λd d1 d2=>?_
 refine aT (@Gg K m 3 1 cells (by exact w8 _ hm) (by exact AP) hc) λe e1 e2=>?_
 have hv:(1+(e:Int))∈([1,2,3]:List Int):=by
  rcases(show e=0∨e=1∨e=2 by exact rl 0x7c3f0bd2243d2143d287246801 rfl _ e1) with rfl | rfl | rfl<;>decide
 have x1:ex (λg us=>aw T K m g us) [] [(S "pool",1),(S "pairs",1)] K (ay (av 104).body [1]) (put (ae "pool") (.own (pl cells 0)) ρ0)=some (.bU (put (ae "v") (.af (.int (1+(e:Int)))) (put (ae "k") (.af (.int (1+(d:Int)))) (put (ae "pool") (.own (pl cells 2)) (put (ae "pool") (.own (pl cells 1)) (put (ae "pool") (.own (pl cells 0)) ρ0)))))):=by
  have t1:eN (λg us=>aw T K m g us) [] (fB (b8 (ay (av 104).body [1])) 0) (put (ae "pool") (.own (pl cells 0)) ρ0)=some (.af (.int (1+(d:Int))),false,put (ae "pool") (.own (pl cells 1)) (put (ae "pool") (.own (pl cells 0)) ρ0)):=by
   refine OJ ?_ ?_
   ·show(ev _ (.BinOp (.Constant _ _ _) _ (.Call (.Name _ _) [.Name _ _,.Constant _ _ _] [] _) _) _).bind _=_
    simp only[oP,gR,qS,j',eK,fy,fF,cT,a5,gA,gN,cy,kS,fO,jO,↓reduceIte,String.reduceEq]
   ·exact Rf λq=>q lq (d2:aw T K m (ae "_law_draw") [OT.own (pl cells 0),OT.af (.int 3)]=some (.int (d:Int),[.own (pl cells 1),.af (.int 3)]))
  have t2:eN (λg us=>aw T K m g us) [] (fB (b8 (ay (av 104).body [1])) 1) (put (ae "pool") (.own (pl cells 1)) (put (ae "pool") (.own (pl cells 0)) ρ0))=some (.af (.int (1+(e:Int))),false,put (ae "pool") (.own (pl cells 2)) (put (ae "pool") (.own (pl cells 1)) (put (ae "pool") (.own (pl cells 0)) ρ0))):=by
   refine OJ ?_ ?_
   ·show(ev _ (.BinOp (.Constant _ _ _) _ (.Call (.Name _ _) [.Name _ _,.Constant _ _ _] [] _) _) _).bind _=_
    simp only[oP,gR,qS,j',eK,fy,fF,cT,a5,gA,gN,cy,kS,fO,jO,↓reduceIte,String.reduceEq]
   ·exact Rf λq=>q lq (e2:aw T K m (ae "_law_draw") [OT.own (pl cells 1),OT.af (.int 3)]=some (.int (e:Int),[.own (pl cells 2),.af (.int 3)]))
  have v1:gG [(S "pool",1),(S "pairs",1)] (ae "k")=0:=by simp only[gG,rn,S,jO,↓reduceIte,String.reduceEq]
  have v2:gG [(S "pool",1),(S "pairs",1)] (ae "v")=0:=by simp only[gG,rn,S,jO,↓reduceIte,String.reduceEq]
  show ex _ _ _ _ (.Assign [_] (.Tuple [fB (b8 (ay (av 104).body [1])) 0,fB (b8 (ay (av 104).body [1])) 1] _ _) _) _=_
  simp only[md,q8,xF,sM,sN,z7,v1,v2,jO,↓reduceIte,t1,t2,cy,uS,uT,aF,aW,show 0+1+1≤bh by exact w9]
 generalize nq:put (ae "v") (.af (.int (1+(e:Int)))) (put (ae "k") (.af (.int (1+(d:Int)))) (put (ae "pool") (.own (pl cells 2)) (put (ae "pool") (.own (pl cells 1)) (put (ae "pool") (.own (pl cells 0)) ρ0))))=ρ2 at *
 have a1:aj (ae "pool") ρ2=some (.own (pl cells 2)):=by subst nq;exact(ln rfl (ln rfl lq))
 have a2:aj (ae "v") ρ2=some (.af (.int (1+(e:Int)))):=by subst nq;exact lq
 have a3:aj (ae "k") ρ2=some (.af (.int (1+(d:Int)))):=by subst nq;exact(ln rfl lq)
 clear nq
 generalize (1:Int)+(e:Int)=v at *
 have x2:ex (λg us=>aw T K m g us) [] [(S "pool",1),(S "pairs",1)] K (ay (av 104).body [2]) ρ2=some (.bU (put (ae "pairs") (.own []) (put (ae "menu") (.af (il (fq v []))) ρ2))):=by
  have t1:eN (λg us=>aw T K m g us) [] (fB (b8 (ay (av 104).body [2])) 0) ρ2=some (.af (il (fq v [])),bo (fB (b8 (ay (av 104).body [2])) 0),ρ2):=by
   refine uC ?_
   have em:fq v []=([-3,-2,-1,1,2,3,4]:List Int).filter λu=>!decide (u=v):=by
    unfold fq iD
    rw[tP]
    rfl
   refine(ak em)▸?_
   refine Py (α:=Int) (λi=>.int i) (λi=>.int i) (λx=>!decide (x=v)) (l:=[-3,-2,-1,1,2,3,4]) ?_ ?_ (by decide) ?_
   ·simp only[cb,cD,a2,bI];rfl
   ·exact qi λq=>q
   ·intro x _
    refine⟨[((ae "u"),.af (.int x)),((ae "v"),.af (.int v))],?_,?_,λZ=>?_⟩
    ·simp only[cW,iS,seen,jD,jl,cy,aS,bj,a2,gn,jO,↓reduceIte,String.reduceEq,bB]
    ·exact Rg λq=>q rfl rfl rfl
    ·exact qe λq=>q rfl
  have t2:eN (λg us=>aw T K m g us) [] (fB (b8 (ay (av 104).body [2])) 1) ρ2=some (.af (.list []),true,ρ2):=by
   refine uC ?_
   exact qe λq=>q
  have o0:ownOf true (.list [])=.own []:=rfl
  show ex _ _ _ _ (.Assign [_] (.Tuple [fB (b8 (ay (av 104).body [2])) 0,fB (b8 (ay (av 104).body [2])) 1] _ _) _) _=_
  simp only[md,q8,xF,sM,sN,z7,Q6,(by simp only[gG,rn,S,jO,↓reduceIte,String.reduceEq]:gG [(S "pool",1),(S "pairs",1)] (ae "menu")=0),(by simp only[gG,rn,S,jO,↓reduceIte,String.reduceEq]:gG [(S "pool",1),(S "pairs",1)] (ae "pairs")=1),jO,↓reduceIte,t1,t2,cy,o0,uS,uT,aF,aW,show 0+1+1≤bh by exact w9]
 generalize Ls:put (ae "pairs") (.own []) (put (ae "menu") (.af (il (fq v []))) ρ2)=ρ3 at *
 have x3:ex (λg us=>aw T K m g us) [] [(S "pool",1),(S "pairs",1)] K (ay (av 104).body [3]) ρ3=some (.bU (put (ae "onward") (.af (.int 1)) (put (ae "ahead") (.af (.int 1)) (put (ae "goal") (.af (qv 0)) (put (ae "f") (.af (il [1])) ρ3))))):=by
  exact qx λq=>q
 generalize Lr:put (ae "onward") (.af (.int 1)) (put (ae "ahead") (.af (.int 1)) (put (ae "goal") (.af (qv 0)) (put (ae "f") (.af (il [1])) ρ3)))=ρ4 at *
 have r4:LR cells v (d+1) [] 2 ρ4:=by
  subst Lr Ls
  refine⟨?_,?_,?_,?_,?_,?_,?_,?_,?_⟩<;>simp only[lk,fF,jO,↓reduceIte,String.reduceEq,a1,a2,a3]
  ·exact(ak (show((d+1:Nat):Int)=1+(d:Int) by exact rl 0x4e9042c306242801 rfl _))▸rfl
  all_goals rfl
 refine nU (@PJ K m (d+1) cells v hm hK hc hv ((az (d+1)).map λ(i:Nat)=>DV.int (i:Int)) [] 2 ρ4 (by simp;exact rl 0x6a4487246801 rfl _ d1) LG.nil r4) λqs nY ρ' q1 q2 q3 q4=>?_
 rw[ag,cC,aW] at q1
 have q1':qs.length=d+1:=rl 0x7b1214050f625890a02802 rfl _ _ q1
 refine⟨v,qs,nY,ρ',hv,by exact rl 0x1a80a42f625890a10102 rfl _ _ q1,by exact rl 0x1a91a1ec4b1214050e48d0102 rfl _ _ d1 q1,q2,by rw[q1'];exact q3,λss o h=>?_⟩
 refine cV x0 (cV x1 (cV x2 (cV x3 (cV ?_ h))))
 refine q4▸?_
 have k2:eJ (λg us=>aw T K m g us) (Cf (ay (av 104).body [4])) ρ4=some ((az (d+1)).map λ(i:Nat)=>DV.int (i:Int)):=by
  refine t4 rfl ?_ (by exact rl 0xd4800000004624287246801 rfl _ d1)
  exact qe λq=>q (r4.2.2.1:aj (ae "k") ρ4=some (.af (.int ((d+1:Nat):Int))))
 show ex _ _ _ K (.For _ _ _ [] _) _=_
 rw[pz]
 erw [k2]
 rfl
end
section
noncomputable def rv (v:Int) (k:Nat) (ps:List (Int×Int)) (n:Nat):Int:=(ps.map λp=>p.2*p.1^n*v^(2*k-n)).sum
noncomputable def cJ (v:Int) (k:Nat) (ps:List (Int×Int)):List Int:=(az (2*k+1)).map (rv v k ps)
noncomputable def jk (v:Int) (k:Nat) (ps:List (Int×Int)):List Int:=(az (2*k+1)).map λn=>((cJ v k ps).take (n+1)).sum
noncomputable def gx (v:Int) (k:Nat) (ps:List (Int×Int)):List (List Int):=(az k).map λi=>((cJ v k ps).drop (i+1)).take (k+1)
theorem xr (v:Int) (k:Nat) (ps:List (Int×Int)):(cJ v k ps).length=2*k+1:=by simp[cJ]
theorem Pa (l:List Int):fi (l.map .int)=some l:=by
 induction l with
 | nil=>rfl
 | cons a l ih=>simp only[a8,Dg,tI,ao,ih]
theorem NY {l:List Int}(h:l.length≤bh):bi (ae "sum") [.af (il l)]=some (.int l.sum):=by
 simp only[Mt,jO,↓reduceIte,il,ag,h,Pa]
theorem tX {A:Nat}{x:Int}(h:b6 A x):∀ n:Nat,b6 (A*n+1) (x^n)
 | 0=>by unfold b6;simp
 | n+1=>by
  rw[Int.pow_succ]
  exact i9 (by rw[Nat.mul_succ];exact rl 0x35890b101431016242802 rfl _ _) (jP (tX h n) h)
theorem Pk {v:Int}{p:Int×Int}{k n:Nat}(hv:v∈([1,2,3]:List Int)) (hu:-3≤p.1∧p.1≤4) (hc:p.2.natAbs<4) (hk:k≤3) (hn:n≤2*k):b6 21 (p.2*p.1^n)∧b6 13 (v^(2*k-n))∧b6 19 (p.1^n)∧b6 2 p.2:=by
 have b1:b6 3 p.1:=by unfold b6;exact rl 0x72401eabf1591515716310 rfl _ hu
 have b2:b6 2 p.2:=by unfold b6;exact H3 _ hc
 have b3:b6 2 v:=by unfold b6;exact zw _ (by simpa using hv:v=1∨v=2∨v=3)
 exact⟨i9 (by exact rl 0x3525124a200 rfl) (jP b2 (i9 (by exact rl 0xd48c4c48703405b8121016a46802 rfl _ _ hk hn) (tX b1 n):b6 19 (p.1^n))),i9 (by exact rl 0x6a4a162438159181202d48d0102 rfl _ _ hk) (tX b3 _),(i9 (by exact rl 0xd48c4c48703405b8121016a46802 rfl _ _ hk hn) (tX b1 n):b6 19 (p.1^n)),b2⟩
noncomputable def gZ (v:Int) (ps:List (Int×Int)):Prop:=∀ p∈ps,(-3≤p.1∧p.1≤4)∧p.2.natAbs<4
theorem Zi (ps:List (Int×Int)):mA (ps.map λp=>OT.af (pr p))=ps.map pr:=by
 induction ps with
 | nil=>rfl
 | cons a l ih=>exact congrArg (eZ _) ih
theorem ZE (ps:List (Int×Int)):gM (ps.map λp=>OT.af (pr p))=true:=by
 induction ps with
 | nil=>rfl
 | cons a l ih=>exact ih
noncomputable def LM:List (Str×Nat):=[(S "pool",1),(S "pairs",1)]
theorem vP {x:String} (h1:x≠"pool") (h2:x≠"pairs"):gG LM (ae "x")=0∧gG LM (ae x)=0:=by
 refine⟨by simp only[LM,gG,rn,S,jO,↓reduceIte,String.reduceEq],?_⟩
 simp only[LM,gG,rn,S,h1,h2,jO,↓reduceIte]
structure LX (v:Int) (k:Nat) (ps:List (Int×Int)) (ρ:au):Prop where
 fv:aj (ae "v") ρ=some (.af (.int v))
 fk:aj (ae "k") ρ=some (.af (.int (k:Int)))
 fp:aj (ae "pairs") ρ=some (.af (.list (ps.map pr)))
 ff:aj (ae "f") ρ=some (.af (il (Mine.Internal.fp (ps.map (·.1)))))
 fg:aj (ae "goal") ρ=some (.af (qv (d9 v ps)))
 fa:aj (ae "ahead") ρ=some (.af (.int (cK ps)))
 fo:aj (ae "onward") ρ=some (.af (.int (cF v ps)))
theorem LX.put {v:Int}{k:Nat}{ps:List (Int×Int)}{ρ:au}(x:LX v k ps ρ){y:String}{t:OT}(hy:y∉["v","k","pairs","f","goal","ahead","onward"]):LX v k ps (put (ae y) t ρ):=by
 simp only[aC,bT,or_false,not_or] at hy
 refine Jz hy λh1 h2 h3 h4 h5 h6 h7=>?_;clear hy
 exact⟨by rw[fF,if_neg (λe=>h1 e.symm)];exact x.fv,by rw[fF,if_neg (λe=>h2 e.symm)];exact x.fk,by rw[fF,if_neg (λe=>h3 e.symm)];exact x.fp,by rw[fF,if_neg (λe=>h4 e.symm)];exact x.ff,
  by rw[fF,if_neg (λe=>h5 e.symm)];exact x.fg,by rw[fF,if_neg (λe=>h6 e.symm)];exact x.fa,by rw[fF,if_neg (λe=>h7 e.symm)];exact x.fo⟩
theorem Lh {K m k cw:Nat}{cells:List Int}{v:Int}{ps:List (Int×Int)}{ρ:au}(hv:v∈([1,2,3]:List Int)) (hk:k≤3) (hg:gZ v ps) (hp:ps.length≤3) (r:LR cells v k ps cw ρ) :
  ∃ ρ',ex (λg us=>aw T K m g us) [] LM K (ay (av 104).body [5]) ρ=some (.bU ρ')∧LX v k ps ρ'∧aj (ae "row") ρ'=some (.af (il (cJ v k ps))):=by
 refine Qy r λr1 r2 r3 r4 r5 r6 r7 r8 r9=>?_;clear r
 simp only[lk] at r1 r2 r3 r4 r5 r6 r7 r8 r9
 have f2:=pg r2 rfl
 have f3:=pg r3 rfl
 have f5:=pg r5 (by simp only[mr,ZE])
 have f6:=pg r6 rfl
 have f7:=pg r7 rfl
 have f8:=pg r8 rfl
 have f9:=pg r9 rfl
 simp only[mx,yD,Zi] at f2 f3 f5 f6 f7 f8 f9
 have mk:cj 2 (k:Int)=true:=gT (A:=2) (B:=20) (by unfold b6;decide) (by unfold b6;simp;exact vJ _ hk) (by exact Fy)
 have t1:eN (λg us=>aw T K m g us) [] (b8 (ay (av 104).body [5])) ρ=some (.af (il (cJ v k ps)),bo (b8 (ay (av 104).body [5])),bX [] ρ):=by
  refine uF ?_ rfl ?_
  ·show(ev _ (.ListComp (.Call (.Name _ _) [.ListComp _ [⟨.Tuple [.Name _ _,.Name _ _] _ _,.Name _ _,[],_⟩] _ _] [] _) [⟨.Name _ _,.Call (.Name _ _) [_] [] _,[],_⟩] _ _) _).bind _=_
   have k2:eJ (λg us=>aw T K m g us) (jG (b8 (ay (av 104).body [5])) [1]) ρ=some ((az (2*k+1)).map λ(i:Nat)=>DV.int (i:Int)):=by
    refine t4 rfl ?_ (by exact AO _ hk)
    exact qe λq=>q r3 (fY mk)
   refine(ak uA)▸?_
   split
   ·simp only[nv,ny]
    erw [k2]
    rw[iY,a8]
    simp only[ao,Bs,cW,seen,jD,jl,Cg,cy,kS,aS,bj,r2,r3,r5,jO,↓reduceIte,String.reduceEq,pS,oP,gR,qS,j',uA,eK,fy,cT,a5,cb,cD]
    rfl
   ·rfl
  ·refine(ak (show il (cJ v k ps)=.list ((az (2*k+1)).map λn=>.int (rv v k ps n)) by rw[il,cJ,aN];rfl))▸?_
   refine mI (α:=Nat) (λi=>.int (i:Int)) (λn=>.int (rv v k ps n)) ?_ ?_ (by simp;exact AO _ hk) ?_
   ·simp only[cb,cD,f2,f3,f5,bI];rfl
   ·refine t4 rfl ?_ (by exact AO _ hk)
    exact qe λq=>q f3 (fY mk)
   ·intro n hn
    have qp:n≤2*k:=by have:=bY.mp hn;exact Fp _ _ this
    refine⟨[((ae "n"),.af (.int (n:Int))),((ae "k"),.af (.int (k:Int))),((ae "pairs"),.af (.list (ps.map pr))),((ae "v"),.af (.int v))],?_,?_⟩
    ·simp only[cW,iS,seen,jD,jl,mf,Cg,cy,ao,aD,aS,bj,f2,f3,f5,gn,jO,↓reduceIte,String.reduceEq,bB]
    ·have tu:ev (λg us=>aw T K m g us) (jG (b8 (ay (av 104).body [5])) [0,1]) [((ae "n"),.af (.int (n:Int))),((ae "k"),.af (.int (k:Int))),((ae "pairs"),.af (.list (ps.map pr))),((ae "v"),.af (.int v))]=some (.af (il (ps.map λp=>p.2*p.1^n*v^(2*k-n)))):=by
      refine(ak (show il (ps.map λp=>p.2*p.1^n*v^(2*k-n))=.list (ps.map λp=>.int (p.2*p.1^n*v^(2*k-n))) by rw[il,aN];rfl))▸?_
      refine mI (α:=Int×Int) pr (λp=>.int (p.2*p.1^n*v^(2*k-n))) ?_ ?_ (by exact AN _ hp) ?_
      ·kernel_rfl
      ·exact qi λq=>q rfl
      ·intro p hp
       refine dJ (hg p hp) λg1 g2=>?_
       refine jR (Pk hv g1 g2 hk qp) λb1 b2 b3 b4=>?_
       have m1:=gT b1 b2 (by exact rl 0x1a90148639ce73a44400 rfl)
       have p1:eC p.1 (n:Int)=true:=by
        unfold eC
        simp only[aY,decide_eq_true_eq];exact rl 0x3ee480000000000004eabf258001820318202bfc5645455c58db8121016a46812 rfl _ _ _ hk qp g1
       have e2:(2:Int)*(k:Int)-(n:Int)=((2*k-n:Nat):Int):=rl 0x270b2038122b040742821b81210102 rfl _ _ qp
       have p2:eC v ((2*k-n:Nat):Int)=true:=by
        unfold eC
        simp only[aY,decide_eq_true_eq];exact rl 0x7dc900000000000009d57e4b00030b230240630b23024057f0fc3358d53589535854d48d0112 rfl _ _ _ hk (by simpa using hv:v=1∨v=2∨v=3)
       have e3:(2*(k:Int)-(n:Int)).toNat=2*k-n:=by refine(ak e2)▸?_;rfl
       rw[←e2] at p2
       first | rw[←e3] at m1 | rw[←e3] at (gT b4 b3 (by exact rl 0x1a90148639ce73a4a200 rfl))
       refine⟨[((ae "c"),.af (.int p.2)),((ae "u"),.af (.int p.1)),((ae "k"),.af (.int (k:Int))),((ae "n"),.af (.int (n:Int))),((ae "v"),.af (.int v))],?_,?_⟩
       ·kernel_rfl
       ·exact qe λq=>a7 (q rfl rfl rfl (mH p1) (fY (gT b4 b3 (by exact rl 0x1a90148639ce73a4a200 rfl))) rfl rfl (fY mk) rfl (mH p2) (fY m1)) (by simp only[e3,du])
     exact qe λq=>q tu (@NY (ps.map λp=>p.2*p.1^n*v^(2*k-n)) (by rw[ag];exact AN _ hp))
 refine⟨put (ae "row") (.af (il (cJ v k ps))) (bX [] ρ),?_,LX.put ⟨f2,f3,f5,f6,f7,f8,f9⟩ (by decide),by exact lq⟩
 exact qx λq=>q false false t1
end
section
theorem Ul {l:List Int}{a b:Nat}(hl:l.length≤bh) (ha:a≤l.length) (hb:b≤l.length):m7 (l.map .int) (some (a:Int)) (some (b:Int)) none=some (((l.drop a).take (b-a)).map .int):=by
 have e1:kms_lo (some (a:Int)) l.length=a:=by simp only[kms_lo];rw[if_neg (by exact rl 0x1792e0801 rfl _)];simp;exact rl 0x7a03f2a1016a10102 rfl _ _ ha
 simp only[nZ,ag,hl,if_true,e1,(Bu hb),eP,oF]
theorem Jn {l:List Int}{b:Nat}(hl:l.length≤bh) (hb:b≤l.length):m7 (l.map .int) none (some (b:Int)) none=some ((l.take b).map .int):=by
 simp only[nZ,ag,hl,if_true,Gk,(Bu hb),eP,jL,lD]
section
variable {K m k:Nat}{v:Int}{ps:List (Int×Int)}{ρ:au}
theorem Lg (hk:k≤3) (x:LX v k ps ρ) (hr:aj (ae "row") ρ=some (.af (il (cJ v k ps)))) :
  ex (λg us=>aw T K m g us) [] LM K (ay (av 104).body [6]) ρ=some (.bU (put (ae "sums") (.af (il (jk v k ps))) ρ)):=by
 have rz:=xr v k ps
 refine lH (vP (x:="sums") (by decide) (by decide)).2 ?_
 rw[show il (jk v k ps)=.list ((az (2*k+1)).map λn=>.int (((cJ v k ps).take (n+1)).sum)) by rw[il,jk,aN];rfl]
 refine mI (α:=Nat) (λi=>.int (i:Int)) (λn=>.int (((cJ v k ps).take (n+1)).sum)) ?_ ?_ (by simp;exact AO _ hk) ?_
 ·simp only[cb,cD,hr,bI];rfl
 ·refine t4 rfl ?_ (by exact AO _ hk)
  exact qe λq=>q x.fk (fY (gT (A:=2) (B:=20) (by unfold b6;decide) (by unfold b6;simp;exact vJ _ hk) (by exact Fy):cj 2 (k:Int)=true))
 ·intro n hn
  have qp:n≤2*k:=by have:=bY.mp hn;exact Fp _ _ this
  have s1:=@Jn (cJ v k ps) (n+1) (by exact Fo _ _ hk rz) (by exact rl 0x3502624280b7024202f624381210203 rfl _ _ _ rz qp)
  have b1:=@NY ((cJ v k ps).take (n+1)) (by exact(ak cn)▸(rl 0x6a4000000027ca80b12143d890e0481202d48d0203 rfl _ _ _ hk rz))
  generalize cJ v k ps=row at *
  refine⟨[((ae "n"),.af (.int (n:Int))),((ae "row"),.af (il row))],?_,?_⟩
  ·simp only[cW,iS,seen,jD,jl,mf,cy,ao,aD,aS,bj,hr,gn,jO,↓reduceIte,String.reduceEq,bB]
  ·simp only[il] at b1
   exact qe λq=>q true rfl rfl ((show((n+1:Nat):Int)=(n:Int)+1 by exact Fn _)▸s1) b1
theorem Lf (hk:k≤3) (x:LX v k ps ρ) (hr:aj (ae "row") ρ=some (.af (il (cJ v k ps)))) :
  ex (λg us=>aw T K m g us) [] LM K (ay (av 104).body [7]) ρ=some (.bU (put (ae "steps") (.af (dm (gx v k ps))) ρ)):=by
 have pJ:=x.fk
 have rz:=xr v k ps
 refine lH (vP (x:="steps") (by decide) (by decide)).2 ?_
 rw[show dm (gx v k ps)=.list ((az k).map λi=>il (((cJ v k ps).drop (i+1)).take (k+1))) by rw[dm,gx,aN];rfl]
 refine mI (α:=Nat) (λi=>.int (i:Int)) (λi=>il (((cJ v k ps).drop (i+1)).take (k+1))) ?_ ?_ (by simp;exact AN _ hk) ?_
 ·simp only[cb,cD,hr,pJ,bI];rfl
 ·refine t4 rfl ?_ (by exact AN _ hk)
  exact qe λq=>q pJ
 ·intro n hn
  have qp:=bY.mp hn
  have s1:=@Ul (cJ v k ps) (n+1) (n+k+2) (by exact Fo _ _ hk rz) (by exact rl 0xd409890a02e4202f624381210203 rfl _ _ _ rz qp) (by exact rl 0x35026244c4202e4202f624381210203 rfl _ _ _ rz qp)
  have s1:=(show n+k+2-(n+1)=k+1 by exact rl 0x1ec48516624280b1226210102 rfl _ _)▸(show((n+k+2:Nat):Int)=(n:Int)+(k:Int)+2 by exact rl 0x27458a9040608831226202802 rfl _ _)▸(show((n+1:Nat):Int)=(n:Int)+1 by exact Fn _)▸s1
  generalize cJ v k ps=row at *
  refine⟨[((ae "one"),.af (.int (n:Int))),((ae "k"),.af (.int (k:Int))),((ae "row"),.af (il row))],?_,?_⟩
  ·simp only[cW,iS,seen,jD,jl,cy,aS,bj,hr,pJ,gn,jO,↓reduceIte,String.reduceEq,bB]
  ·exact qe λq=>q true rfl rfl rfl rfl s1
end
noncomputable def kc (v:Int) (k:Nat) (ps:List (Int×Int)):List (List Int):=(jk v k ps).take (k+1)::gx v k ps
noncomputable def lT (v:Int) (k:Nat) (ps:List (Int×Int)):List (List Int):=ax (k+1) 1::gx v k ps
theorem Gb {B:Nat}:∀ {l:List Int},(∀ x∈l,b6 B x)→l.sum.natAbs≤l.length*2^B
 | [],_=>by simp
 | a::l,h=>by
  have ih:=Gb (l:=l) λx hx=>h x (.tail _ hx)
  have h1:a.natAbs<2^B:=h a (.head _)
  have:=vF a l.sum
  rw[List.sum_cons,aF,eG]
  lia
theorem TQ {v:Int}{k n:Nat}{ps:List (Int×Int)}(hv:v∈([1,2,3]:List Int)) (hk:k≤3) (hg:gZ v ps) (hp:ps.length≤3) (hn:n≤2*k):b6 36 (rv v k ps n):=by
 have h:(rv v k ps n).natAbs≤ps.length*2^34:=by
  have:=@Gb 34 (ps.map λp=>p.2*p.1^n*v^(2*k-n)) (λx hx=>by
   obtain⟨p,h1,rfl⟩:=aE.mp hx
   refine dJ (hg p h1) λg1 g2=>?_
   refine jR (Pk hv g1 g2 hk hn) λb1 b2 b3 b4=>?_
   exact jP b1 b2)
  rwa [ag] at this
 unfold b6
 exact rl 0x1c90000000000000000f54dc80000000000000123aa6a46811 rfl _ _ hp h
theorem sG {v:Int}{k:Nat}{ps:List (Int×Int)}(hv:v∈([1,2,3]:List Int)) (hk:k≤3) (hg:gZ v ps) (hp:ps.length≤3):∀ x∈cJ v k ps,b6 36 x:=by
 intro x hx
 obtain⟨n,h1,rfl⟩:=aE.mp hx
 exact TQ hv hk hg hp (by have:=bY.mp h1;exact Fp _ _ this)
theorem Wx {v:Int}{k:Nat}{ps:List (Int×Int)}(hv:v∈([1,2,3]:List Int)) (hk:k≤3) (hg:gZ v ps) (hp:ps.length≤3):∀ x∈jk v k ps,b6 40 x:=by
 intro x hx
 obtain⟨n,h1,rfl⟩:=aE.mp hx
 have h2:((cJ v k ps).take (n+1)).length≤7:=by rw[cn,xr];exact rl 0xd49fe5624381202c4850d48d0102 rfl _ _ hk
 unfold b6
 exact rl 0x72400000000000000002ea9a93a1b90000000000000000a3aa11 rfl _ _ (@Gb 36 ((cJ v k ps).take (n+1)) λx hx=>sG hv hk hg hp x (cN hx)) h2
theorem Ip {B n:Nat}{m:List (List Int)}(hs:Sq n m) (h:∀ r∈m,∀ x∈r,b6 B x):Bd B n m:=by
 intro i j hi hj
 exact h _ (bt (xq (m:=m) (i:=i) (by exact(ak hs.1)▸hi))) _ (bt (rU (l:=gr m i) (i:=j) (by exact(ak ((hs.2 i hi)))▸hj)))
theorem IE {n:Nat}{m:List (List Int)} (h1:m.length=n) (h2:∀ r∈m,r.length=n):Sq n m:=by
 refine⟨h1,λi hi=>h2 _ (bt (xq (by exact(ak h1)▸hi)))⟩
theorem GK {v:Int}{k:Nat}{ps:List (Int×Int)}{r:List Int}(h:r∈gx v k ps):r.length=k+1∧∀ x∈r,x∈cJ v k ps:=by
 obtain⟨i,h1,rfl⟩:=aE.mp h
 have hi:=bY.mp h1
 refine⟨by rw[cn,vC,xr];exact rl 0xf624280fcb662428624381202c485017202802 rfl _ _ hi,λx hx=>List.mem_of_mem_drop (cN hx)⟩
theorem Gp {v:Int}{k:Nat}{ps:List (Int×Int)}(hv:v∈([1,2,3]:List Int)) (hk:k≤3) (hg:gZ v ps) (hp:ps.length≤3):Sq (k+1) (kc v k ps)∧Bd 60 (k+1) (kc v k ps):=by
 have hs:Sq (k+1) (kc v k ps):=by
  refine IE (by simp[kc,gx]) λr hr=>?_
  rcases aC.mp hr with rfl | h
  ·rw[cn];simp[jk];exact rl 0x7a3e5c090801 rfl _
  ·exact(GK h).1
 refine⟨hs,Ip hs λr hr x hx=>?_⟩
 rcases aC.mp hr with rfl | h
 ·exact i9 (by exact rl 0x35243a40500 rfl) (Wx hv hk hg hp x (cN hx))
 ·exact i9 (by exact tU) (sG hv hk hg hp x ((GK h).2 x hx))
theorem Gd {v:Int}{k:Nat}{ps:List (Int×Int)}(hv:v∈([1,2,3]:List Int)) (hk:k≤3) (hg:gZ v ps) (hp:ps.length≤3):Sq (k+1) (lT v k ps)∧Bd 60 (k+1) (lT v k ps):=by
 have hs:Sq (k+1) (lT v k ps):=by
  refine IE (by simp[lT,gx]) λr hr=>?_
  rcases aC.mp hr with rfl | h
  ·exact(ak aH)▸rfl
  ·exact(GK h).1
 refine⟨hs,Ip hs λr hr x hx=>?_⟩
 rcases aC.mp hr with rfl | h
 ·refine(ak (cM hx))▸?_;unfold b6;decide
 ·exact i9 (by exact tU) (sG hv hk hg hp x ((GK h).2 x hx))
theorem Le {K m k:Nat}{v:Int}{ps:List (Int×Int)}{ρ:au}(hm:2≤m) (hv:v∈([1,2,3]:List Int)) (hk:k≤3) (hg:gZ v ps) (hp:ps.length≤3) (x:LX v k ps ρ) (hs:aj (ae "sums") ρ=some (.af (il (jk v k ps)))) (ht:aj (ae "steps") ρ=some (.af (dm (gx v k ps)))) :
  ex (λg us=>aw T K m g us) [] LM K (ay (av 104).body [8]) ρ=some (.bU (put (ae "bottom") (.af (.int (fc (k+1) (lT v k ps)))) (put (ae "top") (.af (.int (fc (k+1) (kc v k ps)))) ρ))):=by
 refine dJ (Gp hv hk hg hp) λa1 a2=>?_
 refine dJ (Gd hv hk hg hp) λb1 b2=>?_
 have c1:=@GU K m (k+1) _ hm (by exact HZ _ hk) a1 a2
 have c2:=@GU K m (k+1) _ hm (by exact HZ _ hk) b1 b2
 simp only[S] at c1 c2
 have s1:=@Jn (jk v k ps) (k+1) (by exact Fo _ _ hk (by simp[jk]:(jk v k ps).length=2*k+1)) (by exact rl 0x6a02c4850f624381210102 rfl _ _ (by simp[jk]:(jk v k ps).length=2*k+1))
 rw[show((k+1:Nat):Int)=(k:Int)+1 by exact Fn _] at s1
 have GZ:((gx v k ps).map il).length=k:=by simp[gx]
 have t1:eN (λg us=>aw T K m g us) [] (fB (b8 (ay (av 104).body [8])) 0) ρ=some (.af (.int (fc (k+1) (kc v k ps))),bo (fB (b8 (ay (av 104).body [8])) 0),ρ):=by
  refine uC ?_
  show ev _ (.Call (.Name _ _) [.BinOp (.List [.Subscript (.Name _ _) (.Slice none (some (.BinOp _ _ _ _)) none _) _] _) _ (.Name _ _) _] [] _) _=_
  have e:dm (kc v k ps)=.list ([.list (((jk v k ps).take (k+1)).map .int)]++(gx v k ps).map il):=rfl
  rw[e] at c1
  simp only[oP,gR,qS,j',D8,pZ,eK,fy,Eg,Ef,hs,ht,x.fk,il,dm,pO,rI,uX,uW,cy,gA,gN,s1,jO,↓reduceIte,String.reduceEq,aF,aW,cT,a5,show 0+1≤bh by exact AM] at GZ c1 ⊢
  simp only[GZ,show 0+1+k≤bh by exact rl 0xd4800000004621216a46801 rfl _ hk,if_true,aD,ao,gA,gN,cy,a8,dM,c1]
 have t2:eN (λg us=>aw T K m g us) [] (fB (b8 (ay (av 104).body [8])) 1) (ρ)=some (.af (.int (fc (k+1) (lT v k ps))),bo (fB (b8 (ay (av 104).body [8])) 1),ρ):=by
  refine uC ?_
  show ev _ (.Call (.Name _ _) [.BinOp (.List [.BinOp (.List [_] _) _ (.BinOp _ _ _ _) _] _) _ (.Name _ _) _] [] _) _=_
  have e:dm (lT v k ps)=.list ([.list ((ax (k+1) 1).map .int)]++(gx v k ps).map il):=rfl
  rw[e] at c2
  have e2:(0:Int)≤(k:Int)+1∧(k:Int)+1≤1000∧(0+1)*((k:Int)+1).toNat≤256:=rl 0x1ffb52001301f51618222b014e1a2c304468b0c10b6a46801 rfl _ hk
  have e3:((k:Int)+1).toNat=k+1:=rl 0x3d890a3d45860801 rfl _
  simp only[oP,gR,qS,j',pZ,eK,fy,ht,x.fk,dm,rI,EH,uX,cy,gA,gN,jO,↓reduceIte,String.reduceEq,aF,aW,cT,a5,show 0+1≤bh by exact AM,e2,e3,Iy] at GZ c2 ⊢
  simp only[GZ,show(0+1)*(k+1)≤256 by exact rl 0x352001301624286a46801 rfl _ hk,show 0+1+k≤bh by exact rl 0xd4800000004621216a46801 rfl _ hk,if_true,aD,ao,gA,gN,cy,uW,a8,dM,c2,show 0+1≤bh by exact AM,aF,aW]
 have v2:=(vP (x:="bottom") (by decide) (by decide)).2
 show ex _ _ _ _ (.Assign [_] (.Tuple [fB (b8 (ay (av 104).body [8])) 0,fB (b8 (ay (av 104).body [8])) 1] _ _) _) _=_
 simp only[md,q8,xF,sM,sN,z7,((vP (x:="top") (by decide) (by decide)).2),v2,jO,↓reduceIte,t1,t2,cy,uS,uT,aF,aW,show 0+1+1≤bh by exact w9]
end
section
noncomputable def di (row:List Int) (n:Nat):List (List Int):=(az n).map λi=>(az n).map λj=>gi row (i+j)
theorem y5x:T (S "_law_places")=some (av 103):=by kernel_rfl
theorem y5B:(av 103).params=[S "row",S "size"]:=by kernel_rfl
theorem y4s:(av 103).PN=[]:=by kernel_rfl
theorem y5I:(av 103).M=[]:=by kernel_rfl
theorem P8 {K n size:Nat}{row:List Int}(hn:1≤n) (hs:2*size≤row.length+1) (hl:row.length≤100) :
  aw T K n (S "_law_places") [.af (il row),.af (.int (size:Int))]=some (dm (di row size),[.af (il row),.af (.int (size:Int))]):=by
 apply nS hn;intro m hn
 refine eR y5x y5B y4s y5I rfl rfl ?_
 have z:cm [S "row",S "size"] [OT.af (il row),.af (.int (size:Int))]=[((ae "row"),.af (il row)),((ae "size"),.af (.int (size:Int)))]:=rfl
 refine(ak z)▸?_
 refine⟨[((ae "row"),.af (il row)),((ae "size"),.af (.int (size:Int)))],?_⟩
 refine fZ (jQ ?_)
 rw[show dm (di row size)=.list ((az size).map λi=>il ((az size).map λj=>gi row (i+j))) by rw[dm,di,aN];rfl]
 refine mI (α:=Nat) (λi=>.int (i:Int)) (λi=>il ((az size).map λj=>gi row (i+j))) ?_ ?_ (by simp;exact Fl _ _ hs hl) ?_
 ·kernel_rfl
 ·refine t4 rfl ?_ (by exact Fl _ _ hs hl)
  exact qe λq=>q rfl
 ·intro i hi
  have jc:=bY.mp hi
  refine⟨[((ae "one"),.af (.int (i:Int))),((ae "row"),.af (il row)),((ae "size"),.af (.int (size:Int)))],?_,?_⟩
  ·kernel_rfl
  ·rw[show il ((az size).map λj=>gi row (i+j))=.list ((az size).map λj=>.int (gi row (i+j))) by rw[il,aN];rfl]
   refine mI (α:=Nat) (λi=>.int (i:Int)) (λj=>.int (gi row (i+j))) ?_ ?_ (by simp;exact Fl _ _ hs hl) ?_
   ·simp only[cb,cD,gn,jO,↓reduceIte,String.reduceEq,bI];rfl
   ·refine t4 rfl ?_ (by exact Fl _ _ hs hl)
    exact qe λq=>q rfl
   ·intro j hj
    have kE:=bY.mp hj
    refine⟨[((ae "other"),.af (.int (j:Int))),((ae "one"),.af (.int (i:Int))),((ae "row"),.af (il row))],?_,?_⟩
    ·simp only[cW,iS,seen,jD,jl,cy,aS,bj,gn,jO,↓reduceIte,String.reduceEq,bB]
    ·exact qe λq=>q rfl rfl rfl (@uD row (i+j) ((i:Int)+(j:Int)) (by exact j6 _ hl) (by exact rl 0x1c81310143903405c81a1ac48502c090304 rfl _ _ _ _ hs jc kE) (by exact rl 0x9c1880a2904060802 rfl _ _))
theorem v3 {row:List Int}{n:Nat}(h:∀ x∈row,b6 60 x):Sq n (di row n)∧Bd 60 n (di row n):=by
 have hs:Sq n (di row n):=by
  refine IE (by simp[di]) λr hr=>?_
  obtain⟨i,_,rfl⟩:=aE.mp hr
  simp
 refine⟨hs,Ip hs λr hr x hx=>?_⟩
 obtain⟨i,_,rfl⟩:=aE.mp hr
 obtain⟨j,_,rfl⟩:=aE.mp hx
 unfold gi
 cases q:row[i+j]? with
 | none=>unfold b6;decide
 | some y=>exact h y (bt q)
theorem Vg (p q:Rat):jy .NotEq (qv p) (qv q)=some (!decide (p=q)):=by
 show(jy .Eq (qv p) (qv q)).map not=_
 rw[FU];rfl
section
variable {K m k:Nat}{v D:Int}{ps:List (Int×Int)}{ρ:au}
theorem A5 (hv:v∈([1,2,3]:List Int)){n:Nat}(hn:n≤30):eC v (n:Int)=true∧b6 61 (v^n):=by
 refine⟨?_,?_⟩
 ·unfold eC
  simp only[aY,decide_eq_true_eq];exact rl 0x1f7240000000000002755f92c000c1118217f0fc3358d53589535854d4986811 rfl _ _ hn (by simpa using hv:v=1∨v=2∨v=3)
 ·have:b6 2 v:=by unfold b6;exact zw _ (by simpa using hv:v=1∨v=2∨v=3)
  exact i9 (by exact rl 0x35253b121c090d4986801 rfl _ hn) (tX this n)
theorem Ld (hv:v∈([1,2,3]:List Int)) (rY:1≤k) (hk:k≤3) (hp:ps.length≤3) (lg:LG v ps) (x:LX v k ps ρ) (hD:aw T K m (S "discriminant") [.af (il (fp (ps.map (·.1))))]=some (.int D,[.af (il (fp (ps.map (·.1))))])) (bD:b6 60 D)
  (hb:aj (ae "bottom") ρ=some (.af (.int (v^(k*k-k)*cK ps*cF v ps*D)))) :
  ex (λg us=>aw T K m g us) [] LM K (ay (av 104).body [9]) ρ=some (.bU ρ):=by
 have pJ:=x.fk;have iK:=x.fv;have Af:=x.fa;have ho0:=x.fo;have DC:=x.ff
 have kk:k*k-k≤30∧k≤k*k∧k*k≤9:=by
  rcases(show k=1∨k=2∨k=3 by exact AL _ rY hk) with rfl | rfl | rfl<;>decide
 refine dJ (A5 hv kk.1) λp1 p2=>?_
 have za:=i9 (B:=7) (by exact rl 0xd49d98121216a46801 rfl _ hp) lg.za
 have zo:=i9 (B:=19) (by exact rl 0x1a918998321216a46801 rfl _ hp) lg.zo
 have m0:cj (k:Int) (k:Int)=true:=gT (A:=20) (B:=20) (by unfold b6;simp;exact vJ _ hk) (by unfold b6;simp;exact vJ _ hk) (by exact AK)
 have e1:(k:Int)*(k:Int)-(k:Int)=((k*k-k:Nat):Int):=by
  rcases(show k=1∨k=2∨k=3 by exact AL _ rY hk) with rfl | rfl | rfl<;>decide
 simp only[S] at hD
 show ex _ _ _ _ (.If _ _ [] _) _=_
 refine kL (c:=false) ?_ rfl
 simp only[zC,gR,qS,j',eK,fy,hb,pJ,iK,Af,ho0,DC,Mr,EJ,EI,m0,e1,p1,du,(gT p2 za (by exact rl 0x3520290c739ce74900100 rfl):cj (v^(k*k-k)) (cK ps)=true),(gT (jP p2 za) zo (by exact rl 0x3520290c739ce749c4100 rfl)),(gT (jP (jP p2 za) zo) bD (by exact rl 0x3520290c739ce748c4200 rfl):cj (v^(k*k-k)*cK ps*cF v ps) D=true),cT,a5,gA,gN,cy,cy,hD,I8,decide_true,cZ,jO,↓reduceIte,String.reduceEq]
theorem C9 (hm:2≤m) (hK:dB K) (hv:v∈([1,2,3]:List Int)) (hk:k≤3) (x:LX v k ps ρ){top bot:Int}(ht:aj (ae "top") ρ=some (.af (.int top))) (hb:aj (ae "bottom") ρ=some (.af (.int bot))) (bb:b6 150 bot) (b0:bot*v^(2*k)≠0)
  (he:aI top (bot*v^(2*k))=d9 v ps):ex (λg us=>aw T K m g us) [] LM K (ay (av 104).body [10]) ρ=some (.bU ρ):=by
 have pJ:=x.fk;have iK:=x.fv;have RK:=x.fg
 refine dJ (A5 hv (n:=2*k) (by exact rl 0x35261e0486a46801 rfl _ hk)) λp1 p2=>?_
 have hr:=@qW K m top (bot*v^(2*k)) hm b0 (hK.g (B:=211) (by exact rl 0x3520290c739ce748c4300 rfl) (jP bb p2))
 rw[he] at hr
 have cz:=Vg (d9 v ps) (d9 v ps)
 rw[decide_eq_true rfl] at cz
 generalize d9 v ps=G at *
 refine kL (c:=false) ?_ rfl
 exact qb λq=>q ht hb iK pJ (fY (gT (A:=20) (B:=20) (by unfold b6;decide) (by unfold b6;simp;exact vJ _ hk) (by exact AK):cj 2 (k:Int)=true)) (mH p1) (fY (gT bb p2 (by exact rl 0x3520290c739ce748c4300 rfl):cj bot (v^(2*k))=true)) hr RK cz
theorem C8 (hm:2≤m) (hv:v∈([1,2,3]:List Int)) (rY:1≤k) (hk:k≤3) (hg:gZ v ps) (hp:ps.length≤3) (lg:LG v ps) (x:LX v k ps ρ) (hr:aj (ae "row") ρ=some (.af (il (cJ v k ps)))) (hD:aw T K m (S "discriminant") [.af (il (fp (ps.map (·.1))))]=some (.int D,[.af (il (fp (ps.map (·.1))))])) (bD:b6 60 D)
  (he:fc k (di (cJ v k ps) k)=v^(k*k+k)*cK ps*D):ex (λg us=>aw T K m g us) [] LM K (ay (av 104).body [11]) ρ=some (.bU ρ):=by
 have pJ:=x.fk;have iK:=x.fv;have Af:=x.fa;have DC:=x.ff
 have kk:k*k+k≤30:=by
  rcases(show k=1∨k=2∨k=3 by exact AL _ rY hk) with rfl | rfl | rfl<;>decide
 refine dJ (A5 hv kk) λp1 p2=>?_
 have za:=i9 (B:=7) (by exact rl 0xd49d98121216a46801 rfl _ hp) lg.za
 have m0:cj (k:Int) (k:Int)=true:=gT (A:=20) (B:=20) (by unfold b6;simp;exact vJ _ hk) (by unfold b6;simp;exact vJ _ hk) (by exact AK)
 have m1:cj (v^(k*k+k)) (cK ps)=true:=gT p2 za (by exact rl 0x3520290c739ce74900100 rfl)
 have m3:cj (v^(k*k+k)*cK ps) D=true:=gT (jP p2 za) bD (by exact Fj)
 have e1:(k:Int)*(k:Int)+(k:Int)=((k*k+k:Nat):Int):=by lia
 have rL:=xr v k ps
 have c1:=@P8 K m k (cJ v k ps) (by exact rl 0x6a1216a12201 rfl _ hm) (by exact rl 0x1ac48501c090f624381210102 rfl _ _ rL) (by exact rl 0x6a4840a1ec487024050d48d0102 rfl _ _ hk rL)
 refine dJ (@v3 (cJ v k ps) k (λy hy=>i9 (by exact tU) (sG hv hk hg hp y hy))) λs1 s2=>?_
 have c2:=@GU K m k _ hm (by exact rl 0x6a4886a46801 rfl _ hk) s1 s2
 rw[he] at c2
 simp only[S] at hD c1 c2
 show ex _ _ _ _ (.If _ _ [] _) _=_
 refine kL (c:=false) ?_ rfl
 simp only[zC,gR,qS,j',eK,fy,hr,pJ,iK,Af,DC,rI,EJ,EI,uX,m0,e1,p1,du,m1,m3,cT,a5,gA,gN,cy,hD,c1,c2,I8,decide_true,cZ,jO,↓reduceIte,String.reduceEq]
theorem C7 (hm:2≤m) (hv:v∈([1,2,3]:List Int)) (hk:k≤3) (hg:gZ v ps) (hp:ps.length≤3) (x:LX v k ps ρ) (hr:aj (ae "row") ρ=some (.af (il (cJ v k ps))))
  (he:fc (k+1) (di (cJ v k ps) (k+1))=0):ex (λg us=>aw T K m g us) [] LM K (ay (av 104).body [12]) ρ=some (.bU ρ):=by
 have rL:=xr v k ps
 have c1:=@P8 K m (k+1) (cJ v k ps) (by exact rl 0x6a1216a12201 rfl _ hm) (by exact rl 0xd624280e04c4850f624381210102 rfl _ _ rL) (by exact rl 0x6a4840a1ec487024050d48d0102 rfl _ _ hk rL)
 refine dJ (@v3 (cJ v k ps) (k+1) (λy hy=>i9 (by exact tU) (sG hv hk hg hp y hy))) λs1 s2=>?_
 have c2:=@GU K m (k+1) _ hm (by exact HZ _ hk) s1 s2
 rw[he] at c2
 rw[show((k+1:Nat):Int)=(k:Int)+1 by exact Fn _] at c1
 refine kL (c:=false) ?_ rfl
 exact qb λq=>q hr x.fk c1 c2 (nf (by decide))
end
end
section
theorem tJ:(∀ d:DV,d.pure=true→vt d d=true)∧∀ l:List DV,dU l=true→iW l l=true:=
 DV.both (λZ=>rfl) (λZ=>nofun) (λZ Z=>decide_eq_true rfl) (λZ q=>q) (λZ q=>q) (λZ=>rfl) λZ Z p q h=>bQ.mpr ⟨p (a6 h).1,q (a6 h).2⟩
theorem W8 {l:List DV}(h:dU l=true):iW l l=true:=tJ.2 l h
theorem Yw {l:List DV}(h:∀ d∈l,d.pure=true):dU l=true:=by
 induction l with
 | nil=>rfl
 | cons a l ih=>exact bQ.mpr ⟨h a (.head _),ih λd hd=>h d (.tail _ hd)⟩
theorem Vk {n:Nat}{l:List DV}(h:∀ d∈l,d.dep≤n):gO l≤n:=by
 induction l with
 | nil=>exact fh _
 | cons a l ih=>exact nO.mpr ⟨h a (.head _),ih λd hd=>h d (.tail _ hd)⟩
theorem N1 {l:List DV}(h:∀ d∈l,d.pure=true∧d.dep≤4):jy .NotEq (.list l) (.list l)=some false:=by
 have h1:=Yw λd hd=>(h d hd).1
 have h2:=Vk λd hd=>(h d hd).2
 have h3:dZ (gO l) 8=true:=by rw[Sm];lia
 simp only[yP,Ei,h1,h3,W8 h1,Bool.and_self,if_true,cZ,aD]
theorem Vz (q:Rat):(qv q).pure=true∧(qv q).dep≤4:=⟨rfl,dj rfl⟩
noncomputable def jE (v:Int) (k:Nat) (ps:List (Int×Int)):List Rat:=((cJ v k ps).take (2*k)).map λr=>aI r (v^(2*k))
section
variable {K m k:Nat}{v:Int}{ps:List (Int×Int)}{ρ:au}
theorem C6 (hm:2≤m) (hK:dB K) (hv:v∈([1,2,3]:List Int)) (hk:k≤3) (x:LX v k ps ρ) (hr:aj (ae "row") ρ=some (.af (il (cJ v k ps)))) :
  ex (λg us=>aw T K m g us) [] LM K (ay (av 104).body [13]) ρ=some (.bU (put (ae "numbers") (.af (ql (jE v k ps))) ρ)):=by
 have ED:bh=1048576:=rfl
 have pJ:=x.fk;have iK:=x.fv
 have rL:=xr v k ps
 refine dJ (A5 hv (n:=2*k) (by exact rl 0x35261e0486a46801 rfl _ hk)) λp1 p2=>?_
 have rt:v=1∨v=2∨v=3:=by simpa using hv
 have m0:cj 2 (k:Int)=true:=gT (A:=20) (B:=20) (by unfold b6;decide) (by unfold b6;simp;exact vJ _ hk) (by exact AK)
 have e1:(2:Int)*(k:Int)=((2*k:Nat):Int):=rl 0x1386048d0a0801 rfl _
 have s1:=@Jn (cJ v k ps) (2*k) (by exact Fo _ _ hk rL) (by exact rl 0x3501c090f624381210102 rfl _ _ rL)
 rw[show((2*k:Nat):Int)=2*(k:Int) by exact rl 0x13d0a088604801 rfl _] at s1
 refine lH (vP (x:="numbers") (by decide) (by decide)).2 ?_
 rw[show ql (jE v k ps)=.list (((cJ v k ps).take (2*k)).map λr=>qv (aI r (v^(2*k)))) by rw[ql,jE,aN];rfl]
 refine mI (α:=Int) (λi=>.int i) (λr=>qv (aI r (v^(2*k)))) ?_ ?_ (by refine(ak cn)▸?_;exact rl 0xd4800000004f95181202d48d0102 rfl _ _ hk) ?_
 ·simp only[cb,cD,pJ,iK,bI];rfl
 ·exact qi λq=>q hr pJ (fY m0) s1
 ·intro r _
  refine⟨[((ae "one"),.af (.int r)),((ae "k"),.af (.int (k:Int))),((ae "v"),.af (.int v))],?_,?_⟩
  ·simp only[cW,iS,seen,jD,jl,mf,cy,ao,aD,aS,bj,pJ,iK,gn,jO,↓reduceIte,String.reduceEq,bB]
  ·exact qe λq=>q rfl rfl rfl (fY m0) (mH p1) (@qW K m r (v^(2*k)) hm (bO (by exact w7 _ rt):v^(2*k)≠0) (hK.g (B:=61) (by exact rl 0x1a90148639ce73a4a700 rfl) p2))
theorem O7 {l:List DV}(h:l.length≤bh):m7 l none none (some (-1))=some l.reverse:=by
 simp only[Kw,h,if_true]
theorem C5 {t:List Rat}(hm:1≤m) (ht:t.length≤10) (hn:aj (ae "told") ρ=some (.af (ql t))) :
  ex (λg us=>aw T K m g us) [] LM K (ay (av 104).body [15]) ρ=some (.bU (put (ae "g") (.af (ql ((t.reverse.map λq=>-q)++[1]))) ρ)):=by
 have t1:ev (λg us=>aw T K m g us) (jG (b8 (ay (av 104).body [15])) [0]) ρ=some (.af (ql (t.reverse.map λq=>-q))):=by
  rw[show ql (t.reverse.map λq=>-q)=.list (t.reverse.map λq=>qv (-q)) by rw[ql,aN];rfl]
  refine mI (α:=Rat) qv (λq=>qv (-q)) ?_ ?_ (by rw[dD];exact AJ _ ht) ?_
  ·simp only[cb,cD];rfl
  ·have s1:=@O7 (t.map qv) (by rw[ag];exact AJ _ ht)
   rw[←eE] at s1
   exact qi λq=>q hn s1
  ·intro q _
   have c:=@Ja K m 0 0 q hm
   refine⟨[((ae "one"),.af (qv q))],?_,?_⟩
   ·kernel_rfl
   ·exact qe λq=>q rfl c
 show ex _ _ _ _ (.Assign [_] (.BinOp (jG (b8 (ay (av 104).body [15])) [0]) _ _ _) _) _=_
 refine lH (vP (x:="g") (by decide) (by decide)).2 ?_
 simp only[oP,qS,pZ,NQ,eK,fy,t1,gA,gN,cy,jO,↓reduceIte,aF,aW,show 0+1≤bh by exact AM,show 0+1+1≤bh by exact w9,ql,rI,uW,ag,dD,show t.length+(0+1)≤bh by exact rl 0x1a9000000008c4850d4882801 rfl _ ht,bL]
 rfl
noncomputable def hJ (v:Int) (us:List Int):DV:=.list ((ft us).map λu=>.tup [qv (aI u v),.int 1])
theorem C4 {t g:List Rat}{w:List Int}{r:DV}(hm:2≤m) (hK:dB K) (hv:v∈([1,2,3]:List Int)) (hp:ps.length≤3) (x:LX v k ps ρ) (ht:t.length=k) (hk:k≤3) (hn:aj (ae "told") ρ=some (.af (ql t))) (hg:aj (ae "g") ρ=some (.af (ql g)))
  (hz:aw T K m (S "to_z") [.af (ql g)]=some (.tup [il w,r],[.af (ql g)])) (hrr:aw T K m (S "rational_roots") [.af (il w)]=some (hJ v (ps.map (·.1)),[.af (il w)])) :
  ex (λg us=>aw T K m g us) [] LM K (ay (av 104).body [16]) ρ=some (.bU ρ):=by
 have pJ:=x.fk;have iK:=x.fv;have hp0:=x.fp
 have i0:iJ (.af (.tup [il w,r])) (.af (.int 0))=some (.af (il w)):=by
  have i0:eI 2 (0:Int)=some 0:=kM (n:=2) (j:=0) (by exact w9) (by exact AQ)
  kernel_rfl
 have rhs:ev (λg us=>aw T K m g us) (jG (dG (ay (av 104).body [16])) [1,1]) ρ=some (.af (hJ v (ps.map (·.1)))):=by
  have tu:ev (λg us=>aw T K m g us) (jG (dG (ay (av 104).body [16])) [1,1,1,1]) ρ=some (.af (il (ps.map (·.1)))):=by
   rw[show il (ps.map (·.1))=.list (ps.map λp=>.int p.1) by rw[il,aN];rfl]
   refine mI (α:=Int×Int) pr (λp=>.int p.1) ?_ ?_ (by exact AN _ hp) ?_
   ·kernel_rfl
   ·exact qi λq=>q hp0
   ·intro p _
    refine⟨[((ae "c"),.af (.int p.2)),((ae "u"),.af (.int p.1))],?_,?_⟩
    ·kernel_rfl
    ·exact qe λq=>q rfl
  have bs:bi (ae "sorted") [.af (il (ps.map (·.1)))]=some (il (ft (ps.map (·.1)))):=by
   simp only[EK,jO,↓reduceIte,il,ag,show ps.length<64 by exact rl 0x1c9000286a46801 rfl _ hp,Pa]
  refine mI (α:=Int) (λi=>.int i) (λu=>.tup [qv (aI u v),.int 1]) ?_ ?_ (by exact rl 0x3520000000110f4050d48d0102 rfl _ _ hp (by simp[ft]:(ft (ps.map (·.1))).length=ps.length)) ?_
  ·simp only[cb,cD,iK,bI];rfl
  ·exact qi λq=>q tu bs
  ·intro u _
   refine⟨[((ae "u"),.af (.int u)),((ae "v"),.af (.int v))],?_,?_⟩
   ·simp only[cW,iS,seen,jD,jl,mf,cy,ao,aD,aS,bj,iK,gn,jO,↓reduceIte,String.reduceEq,bB]
   ·exact qe λq=>q rfl rfl (@qW K m u v hm (by exact w7 _ (by simpa using hv:v=1∨v=2∨v=3)) (hK.g (B:=2) (by exact rl 0xd480a431ce739d2200 rfl) (by exact zw _ (by simpa using hv:v=1∨v=2∨v=3))))
 have cz:jy .NotEq (hJ v (ps.map (·.1))) (hJ v (ps.map (·.1)))=some false:=by
  refine N1 λd hd=>?_
  obtain⟨u,_,rfl⟩:=aE.mp hd
  exact⟨rfl,dj rfl⟩
 refine kL (c:=false) ?_ rfl
 generalize hJ v (ps.map (·.1))=RD at *
 exact qb λq=>q hn (by simp only[jo,jI,ql,ag,jO,↓reduceIte,show t.length≤bh by exact rl 0x3520000000110d48d017a02802 rfl _ _ ht hk]:bi (ae "len") [.af (ql t)]=some (.int (t.length:Int))) pJ (nf (by exact rl 0x270406087a02802 rfl _ _ ht)) hg hz i0 hrr rhs cz
end
end
section
section
variable {K m k:Nat}{v:Int}{ps:List (Int×Int)}{ρ:au}{a q:List Rat}
theorem C1 (hm:8≤m) (hK:dB K) (rY:1≤k) (hk:k≤3) (e:vH k a q) (hz:dn 20 a) (x:LX v k ps ρ) (hn:aj (ae "numbers") ρ=some (.af (ql a))) :
  ex (λg us=>aw T K m g us) [] LM K (ay (av 104).body [17]) ρ=some (.bU (put (ae "fraction") (.af (.tup [ql (b9 (fw k a).rest (co (fw k a).other 0)⁻¹),ql q])) ρ)):=by
 refine oQ (Jf e) λs1 s2 s3 s4 s5=>?_
 have c:=@VP K m k a hm hK rY hk e.rz hz s1 s2
 rw[s3] at c
 refine lH (vP (x:="fraction") (by decide) (by decide)).2 ?_
 exact qe λq=>q hn x.fk x.fk c
theorem yh {A B:DV}:iJ (.af (.tup [A,B])) (.af (.int 0))=some (.af A)∧iJ (.af (.tup [A,B])) (.af (.int 1))=some (.af B):=by
 have i0:eI 2 (0:Int)=some 0:=kM (n:=2) (j:=0) (by decide) (by exact AQ)
 have i1:eI 2 (1:Int)=some 1:=kM (n:=2) (j:=1) (by decide) (by exact Fu)
 exact⟨by simp only[pF,aF,aW,aX,Nat.reduceAdd,i0,ao,eX,aD],
  by simp only[pF,aF,aW,aX,Nat.reduceAdd,i1,ao,eX,eY,aD]⟩
theorem C0 {A g:List Rat}(hl:g.length≤10) (hg:aj (ae "g") ρ=some (.af (ql g))) (hf:aj (ae "fraction") ρ=some (.af (.tup [ql A,ql g.reverse]))) :
  ex (λg us=>aw T K m g us) [] LM K (ay (av 104).body [18]) ρ=some (.bU ρ):=by
 have s1:=@O7 (g.map qv) (by rw[ag];exact AJ _ hl)
 rw[←eE] at s1
 have cz:jy .NotEq (.list (g.reverse.map qv)) (.list (g.reverse.map qv))=some false:=by
  refine N1 λd hd=>?_
  obtain⟨q,_,rfl⟩:=aE.mp hd
  exact Vz q
 have i1:=(@yh (ql A) (ql g.reverse)).2
 have ci:jy .Is (.tup [ql A,ql g.reverse]) .none=some false:=rfl
 refine kL (c:=false) ?_ rfl
 simp only[ql] at hf hg i1 ci
 exact qb λq=>q hf ci hf i1 true hg s1 cz
theorem T1 {C:ey}{l r:Expr}{p:Pos}{a b:DV}{c:Bool} (h1:ev C l ρ=some (.af a)) (h2:ev C r ρ=some (.af b)) (h:jy .Eq a b=some c):ev C (.Compare l [.Eq] [r] p) ρ=some (.af (.bool c)):=by
 simp only[Eb,h1,h2,ao,cy,h,aD]
theorem CZ {A B:List Rat}(hm:5≤m) (hK:dB K) (x:LX v k ps ρ) (hf:aj (ae "fraction") ρ=some (.af (.tup [ql A,ql B]))) (lA:A.length≤10) (lB:B.length≤10) (zA:dn 1000 A) (zB:dn 1000 B) (zg:sz 1000 (d9 v ps)) (zb:sz 20000 (qh B 1))
  (he:qh A 1=d9 v ps*qh B 1):∃ ρ',ex (λg us=>aw T K m g us) [] LM K (ay (av 104).body [19]) ρ=some (.ret (.bool true) ρ'):=by
 have c1:=@N' K m 1000 A (by exact zk _ hm) hK zA (by have:=aZ (1000+2) lA;exact MP _ lA) (by exact AJ _ lA)
 have c2:=@N' K m 1000 B (by exact zk _ hm) hK zB (by have:=aZ (1000+2) lB;exact MP _ lB) (by exact AJ _ lB)
 have cz:=FU (qh A 1) (d9 v ps*qh B 1)
 rw[decide_eq_true he] at cz
 refine⟨ρ,?_⟩
 refine jQ (T1 ?_ ?_ cz)
 ·exact qe λq=>q hf ((@yh (ql A) (ql B)).1) c1
 ·exact qe λq=>q x.fg hf ((@yh (ql A) (ql B)).2) c2 (@zS K m _ _ _ _ hK zg zb (by exact rl 0xd480a431ce739d200802500 rfl) (by exact Fz _ hm))
end
structure A2 (K m:Nat) (v:Int) (k:Nat) (ps:List (Int×Int)) (D:Int) (q:List Rat) (w:List Int) (r:DV):Prop where
 bot:fc (k+1) (lT v k ps)=v^(k*k-k)*cK ps*cF v ps*D
 bD:b6 60 D
 b0:v^(k*k-k)*cK ps*cF v ps*D*v^(2*k)≠0
 top:aI (fc (k+1) (kc v k ps)) (v^(k*k-k)*cK ps*cF v ps*D*v^(2*k))=d9 v ps
 pk:fc k (di (cJ v k ps) k)=v^(k*k+k)*cK ps*D
 pk1:fc (k+1) (di (cJ v k ps) (k+1))=0
 ex:vH k (jE v k ps) q
 zn:dn 20 (jE v k ps)
 zq:dn 100 q
 My:qh (b9 (fw k (jE v k ps)).rest (co (fw k (jE v k ps)).other 0)⁻¹) 1=d9 v ps*qh q 1
 rH:aw T K m (S "discriminant") [.af (il (fp (ps.map (·.1))))]=some (.int D,[.af (il (fp (ps.map (·.1))))])
 toz:aw T K m (S "to_z") [.af (ql q.reverse)]=some (.tup [il w,r],[.af (ql q.reverse)])
 roots:aw T K m (S "rational_roots") [.af (il w)]=some (hJ v (ps.map (·.1)),[.af (il w)])
theorem X1 {k:Nat}{a q:List Rat}(e:vH k a q):((kQ a).reverse.map λq=>-q)++[1]=q.reverse:=by
 refine(ak (Pl e))▸?_
 apply lW
 ·simp[e.ql]
 ·intro i h1 h2
  have hl:=e.ql
  rw[rN]
  by_cases hi:i<k
  ·rw[List.getElem_append_left (by simpa using hi)]
   rw[bF,rN,bF,dN,←mc (l:=q) (by exact rl 0x1c815916485027b1214050203 rfl _ _ _ hl)]
   simp only[ag,cC]
   rw[show k-1-i+1=q.length-1-i by exact rl 0x1f645921405890d91648502720487b1214090103 (by kernel_rfl) _ _ _ hl hi]
   grind
  ·have:i=k:=by simp at h1;exact rl 0x7a02873121405177202802 rfl _ _ hi h1
   subst this
   rw[List.getElem_append_right (by simp)]
   simp only[ag,dD,cC,Hz,List.getElem_cons_zero]
   rw[←mc (l:=q) (by exact rl 0xe406c8b24280bd890a10102 rfl _ _ hl),show q.length-1-i=0 by exact rl 0x7a6c8b24280bd890a10102 rfl _ _ hl,e.q0]
end
section
theorem O8 {A B:Nat}{c:Nat→Rat}{s:Int→Rat}{m:Int}(hc:∀ i,sz A (c i)) (hs:∀ i,sz B (s i)):∀ J,sz (1+J*(A+B+1)) (cH c s m J)
 | 0=>kz (by exact rl 0x1acc3121620284852102 rfl _ _) (rV 0)
 | J+1=>by
  rw[eG]
  exact kz (by exact rl 0x358c6242c409014242c4858c409016212103 rfl _ _ _) (rR (O8 hc hs (m:=m) J) (qc (hc J) (hs (m-J))))
theorem B9 {A:Nat}{l:List Rat}(h:dn (A+1) l) (m:Int):sz (A+1) (sq l m):=by
 unfold sq
 split
 ·exact xt h _
 ·exact rV A
theorem Pj {A:Nat}{l:List Rat}(h:dn (A+1) l):∀ n,sz (1+n*(A+2)) (jV l n)
 | 0=>kz (by exact rl 0x3598624484852101 rfl _) (rV 0)
 | n+1=>by
  rw[eG]
  exact kz (by exact rl 0x6b18c489014242c4858c485016212102 rfl _ _) (rR (Pj h n) (xt h n))
theorem Yh {K m k cw:Nat}{cells:List Int}{v D:Int}{ps:List (Int×Int)}{q:List Rat}{w:List Int}{r:DV}{ρ:au}(hm:8≤m) (hK:dB K) (hv:v∈([1,2,3]:List Int)) (rY:1≤k) (hk:k≤3) (hp:ps.length=k) (lg:LG v ps) (R:LR cells v k ps cw ρ) (F:A2 K m v k ps D q w r) :
  ∃ ρ',cA (λg us=>aw T K m g us) [] LM K [ay (av 104).body [5],ay (av 104).body [6],ay (av 104).body [7],ay (av 104).body [8],ay (av 104).body [9],ay (av 104).body [10],ay (av 104).body [11],ay (av 104).body [12],ay (av 104).body [13],ay (av 104).body [14],ay (av 104).body [15],ay (av 104).body [16],ay (av 104).body [17],ay (av 104).body [18],ay (av 104).body [19]] ρ=some (.ret (.bool true) ρ'):=by
 have Ab:ps.length≤3:=rl 0xd48d0f4050d48d0102 rfl _ _ hk hp
 have hg:gZ v ps:=by
  intro p Hc
  refine⟨?_,(Bv (lg.cs p Hc)).1⟩
  have hu:p.1∈iD v:=by
   have fs:∀ (n:Nat) (us:List Int),us∈tup v n→∀ u∈us,u∈iD v:=by
    intro n
    induction n with
    | zero=>intro us h u hu;simp only[A7,aK] at h;subst h;cases hu
    | succ n ih=>
     intro us h u hu
     refine aT (bN.mp h) λxH h1 h2=>?_
     obtain⟨u',h3,rfl⟩:=aE.mp h2
     rcases aP.mp hu with h | h
     ·exact ih xH h1 u h
     ·rw[aK.mp h];exact Gv h3
   exact fs _ _ lg.us _ (aE.mpr ⟨p,Hc,rfl⟩)
  refine fL (t6 hv hu) λh1 h2 Z=>?_
  exact⟨h1,h2⟩
 refine iw (@Lh K m k cw cells v ps ρ hv hk hg Ab R) λρ5 s5 x5 Cr=>?_
 have s6:=@Lg K m k v ps ρ5 hk x5 Cr
 generalize h6:put (ae "sums") (.af (il (jk v k ps))) ρ5=ρ6 at *
 have x6:LX v k ps ρ6:=by subst h6;exact x5.put (by decide)
 have Cq:aj (ae "row") ρ6=some (.af (il (cJ v k ps))):=by subst h6;exact(ln rfl Cr)
 have Kr:aj (ae "sums") ρ6=some (.af (il (jk v k ps))):=by subst h6;exact lq
 have s7:=@Lf K m k v ps ρ6 hk x6 Cq
 generalize h7:put (ae "steps") (.af (dm (gx v k ps))) ρ6=ρ7 at *
 have x7:LX v k ps ρ7:=by subst h7;exact x6.put (by decide)
 have KH:aj (ae "row") ρ7=some (.af (il (cJ v k ps))):=by subst h7;exact(ln rfl Cq)
 have Kq:aj (ae "sums") ρ7=some (.af (il (jk v k ps))):=by subst h7;exact(ln rfl Kr)
 have st7:aj (ae "steps") ρ7=some (.af (dm (gx v k ps))):=by subst h7;exact lq
 have s8:=@Le K m k v ps ρ7 (by exact zv _ hm) hv hk hg Ab x7 Kq st7
 rw[F.bot] at s8
 generalize h8:put (ae "bottom") (.af (.int (v^(k*k-k)*cK ps*cF v ps*D))) (put (ae "top") (.af (.int (fc (k+1) (kc v k ps)))) ρ7)=ρ8 at *
 have x8:LX v k ps ρ8:=by subst h8;exact(x7.put (by decide)).put (by decide)
 have xJ:aj (ae "row") ρ8=some (.af (il (cJ v k ps))):=by subst h8;exact(ln rfl (ln rfl KH))
 have EG:aj (ae "bottom") ρ8=some (.af (.int (v^(k*k-k)*cK ps*cF v ps*D))):=by subst h8;exact lq
 have Ko:aj (ae "top") ρ8=some (.af (.int (fc (k+1) (kc v k ps)))):=by subst h8;exact(ln rfl lq)
 have kk:k*k-k≤30:=by rcases(show k=1∨k=2∨k=3 by exact AL _ rY hk) with rfl | rfl | rfl<;>decide
 have bb:b6 150 (v^(k*k-k)*cK ps*cF v ps*D):=by
  have z1:=i9 (B:=7) (by exact rl 0x1a93b3024242f4050d48d0102 rfl _ _ hk hp) lg.za
  have z2:=i9 (B:=19) (by exact rl 0x3523133064242f4050d48d0102 rfl _ _ hk hp) lg.zo
  exact i9 (by exact rl 0xd4984248c4200 rfl) (jP (jP (jP (A5 hv kk).2 z1) z2) F.bD)
 have s12:=@C7 K m k v ps ρ8 (by exact zv _ hm) hv hk hg Ab x8 xJ F.pk1
 have s13:=@C6 K m k v ps ρ8 (by exact zv _ hm) hK hv hk x8 xJ
 have nl:=F.ex.rz
 have e:=F.ex
 have zn:=F.zn
 have My:=F.My
 generalize jE v k ps=a at *
 generalize RX:put (ae "numbers") (.af (ql a)) ρ8=sv at *
 have x13:LX v k ps sv:=by subst RX;exact x8.put (by decide)
 have Rq:aj (ae "numbers") sv=some (.af (ql a)):=by subst RX;exact lq
 have s14:ex (λg us=>aw T K m g us) [] LM K (ay (av 104).body [14]) sv=some (.bU (put (ae "told") (.af (ql (kQ a))) sv)):=by
  refine lH (vP (x:="told") (by decide) (by decide)).2 ?_
  exact qe λq=>q Rq (@y23 K m a (by exact rl 0xd424cd4240101 rfl _ hm) hK zn (by exact rl 0x352643f024050d48d0102 rfl _ _ hk nl))
 have tl:(kQ a).length=k:=by rw[Pl e];simp
 generalize L1:put (ae "told") (.af (ql (kQ a))) sv=su at *
 have x14:LX v k ps su:=by subst L1;exact x13.put (by decide)
 have n14:aj (ae "numbers") su=some (.af (ql a)):=by subst L1;exact(ln rfl Rq)
 have Ra:aj (ae "told") su=some (.af (ql (kQ a))):=by subst L1;exact lq
 have Ky:=@C5 K m su (kQ a) (by exact rl 0xd4242d4240101 rfl _ hm) (by exact rl 0x1a91050f4050d48d0102 rfl _ _ hk tl) Ra
 have Ky:=(X1 e)▸Ky
 generalize Hk:put (ae "g") (.af (ql q.reverse)) su=o9 at *
 have Kc:LX v k ps o9:=by subst Hk;exact x14.put (by decide)
 have n15:aj (ae "numbers") o9=some (.af (ql a)):=by subst Hk;exact(ln rfl n14)
 have t15:aj (ae "told") o9=some (.af (ql (kQ a))):=by subst Hk;exact(ln rfl Ra)
 have R8:aj (ae "g") o9=some (.af (ql q.reverse)):=by subst Hk;exact lq
 have s17:=@C1 K m k v ps o9 a q hm hK rY hk e zn Kc n15
 refine oQ (Jf e) λf1 f2 f3 f4 f5=>?_
 have lA:(b9 (fw k a).rest (co (fw k a).other 0)⁻¹).length≤k:=br (BC _ _) f4
 have zA:dn 1000 (b9 (fw k a).rest (co (fw k a).other 0)⁻¹):=by
  intro y hy
  obtain⟨i,hi,rfl⟩:=j4 hy
  refine(mc hi)▸(ak (f5 i (by exact rl 0xe40901721016a04803 rfl _ _ _ lA hi)))▸?_
  have:(i+1)*(100+20+1)≤3*(100+20+1):=aZ _ (by exact rl 0xd48d890a04e405026a1016a46803 rfl _ _ _ hk lA hi)
  exact kz (by exact rl 0x352029c2cc84e1624281242e405026a1016a46803 rfl _ _ _ hk lA hi) (@O8 100 20 (co q) (sq a) i (λj=>xt F.zq j) (λj=>B9 zn j) (i+1))
 generalize b9 (fw k a).rest (co (fw k a).other 0)⁻¹=A at *
 generalize L0:put (ae "fraction") (.af (.tup [ql A,ql q])) o9=sr at *
 have x17:LX v k ps sr:=by subst L0;exact Kc.put (by decide)
 have g17:aj (ae "g") sr=some (.af (ql q.reverse)):=by subst L0;exact(ln rfl R8)
 have DT:aj (ae "fraction") sr=some (.af (.tup [ql A,ql q])):=by subst L0;exact lq
 have KO:=e.ql
 obtain⟨ρ',s19⟩:=@CZ K m k v ps sr A q (by exact rl 0xd424ad4240101 rfl _ hm) hK x17 DT (by exact rl 0x1a9105016a1016a46802 rfl _ _ hk lA) (by exact rl 0xd488287b1214050d48d0102 rfl _ _ hk KO) zA (lY (by exact rl 0x1a9014e14908100 rfl) F.zq) (kz (by exact rl 0x1a9014e1660814242f4050d48d0102 rfl _ _ hk hp) lg.zg) (by
  rw[PS]
  have h:=@Pj 99 q F.zq q.length
  have:q.length*(99+2)≤4*(99+2):=aZ _ (by exact rl 0x6a4887b1214050d48d0102 rfl _ _ hk KO)
  exact kz (by exact rl 0x3520200e4664a40a1217b1214050d48d0102 rfl _ _ hk KO) h) My
 exact⟨ρ',cV s5 (cV s6 (cV s7 (cV s8 (cV (@Ld K m k v D ps ρ8 hv rY hk Ab lg x8 F.rH F.bD EG) (cV (@C9 K m k v ps ρ8 (by exact zv _ hm) hK hv hk x8 _ _ Ko EG bb F.b0 F.top) (cV (@C8 K m k v D ps ρ8 (by exact zv _ hm) hv rY hk hg Ab lg x8 xJ F.rH F.bD F.pk) (cV s12 (cV s13 (cV s14 (cV Ky (cV (@C4 K m k v ps o9 (kQ a) q.reverse w r (by exact zv _ hm) hK hv Ab Kc tl hk t15 R8 F.toz F.roots) (cV s17 (cV (@C0 K m sr A q.reverse (by exact(ak dD)▸(ak e.ql)▸(rl 0x6a441624286a46801 rfl _ hk)) g17 (by rw[List.reverse_reverse];exact DT)) (fZ s19))))))))))))))⟩
theorem Yi {K m:Nat}{ns:List Int}(hm:8≤m) (hK:dB K) (hn:ns.length≤63) (hF:∀ (v:Int) (ps:List (Int×Int)),v∈([1,2,3]:List Int)→1≤ps.length→ps.length≤3→LG v ps→∃ D q w r,A2 K m v ps.length ps D q w r) :
  aw T K (m+1) (S "law") [.af (il ns)]=some (.bool true,[.af (il ns)]):=by
 refine eR ES E4 Tf E8 rfl rfl ?_
 rw[(rfl:cm [S "script"] [OT.af (il ns)]=[((ae "script"),.af (il ns))])]
 refine QG (@Yg K m ns [((ae "script"),.af (il ns))] (by exact rl 0xd4248d4240101 rfl _ hm) hK hn rfl) λv ps cw ρ hv h1 h3 lg R hs=>?_
 refine F4 (hF v ps hv h1 h3 lg) λD q w r F=>?_
 refine gF (@Yh K m ps.length cw (ns.take 8) v D ps q w r ρ hm hK hv h1 h3 rfl lg R F) λρ' ht=>?_
 refine⟨ρ',?_⟩
 exact(ak ((by rfl:(av 104).body=[ay (av 104).body [0],ay (av 104).body [1],ay (av 104).body [2],ay (av 104).body [3],ay (av 104).body [4],ay (av 104).body [5],ay (av 104).body [6],ay (av 104).body [7],ay (av 104).body [8],ay (av 104).body [9],ay (av 104).body [10],ay (av 104).body [11],ay (av 104).body [12],ay (av 104).body [13],ay (av 104).body [14],ay (av 104).body [15],ay (av 104).body [16],ay (av 104).body [17],ay (av 104).body [18],ay (av 104).body [19]])))▸(hs _ _ ht)
end
section
noncomputable def X (v u:Int):Rat:=(u:Rat)/(v:Rat)
noncomputable def qF (v:Int):List Int→List Rat
 | [u]=>[1,-X v u]
 | [u,w]=>[1,-(X v u+X v w),X v u*X v w]
 | [u,w,x]=>[1,-(X v u+X v w+X v x),X v u*X v w+X v u*X v x+X v w*X v x,-(X v u*X v w*X v x)]
 | _=>[]
theorem KR {v:Int}:∀ u,qF v ([u])=([1,-X v u]):=λ_=>rfl
theorem KQ {v:Int}:∀ u w,qF v ([u,w])=([1,-(X v u+X v w),X v u*X v w]):=λ_ _=>rfl
theorem KP {v:Int}:∀ u w x,qF v ([u,w,x])=([1,-(X v u+X v w+X v x),X v u*X v w+X v u*X v x+X v w*X v x,-(X v u*X v w*X v x)]):=λ_ _ _=>rfl
noncomputable def dF:List Int→Int
 | [_]=>1
 | [u,w]=>(u-w)^2
 | [u,w,x]=>(u-w)^2*(u-x)^2*(w-x)^2
 | _=>0
theorem Jw {v:Int}{ps:List (Int×Int)}(hv:v∈([1,2,3]:List Int)) (lg:LG v ps):gZ v ps∧(∀ p∈ps,p.1∈iD v∧p.2≠0):=by
 have hu:∀ p∈ps,p.1∈iD v:=λp Hc=>by
  have fs:∀ (n:Nat) (us:List Int),us∈tup v n→∀ u∈us,u∈iD v:=by
   intro n
   induction n with
   | zero=>intro us h u hu;simp only[A7,aK] at h;subst h;cases hu
   | succ n ih=>
    intro us h u hu
    refine aT (bN.mp h) λxH h1 h2=>?_
    obtain⟨u',h3,rfl⟩:=aE.mp h2
    rcases aP.mp hu with h | h
    ·exact ih xH h1 u h
    ·exact(ak (aK.mp h))▸(Gv h3)
  exact fs _ _ lg.us _ (aE.mpr ⟨p,Hc,rfl⟩)
 refine⟨λp hp=>?_,λp hp=>⟨hu p hp,(Bv (lg.cs p hp)).2⟩⟩
 refine fL (t6 hv (hu p hp)) λh1 h2 Z=>?_
 exact⟨⟨h1,h2⟩,(Bv (lg.cs p hp)).1⟩
theorem JP {v:Int}:∀ (n:Nat) (us:List Int),us∈tup v n→us.Nodup
 | 0,us,h=>by simp only[A7,aK] at h;subst h;exact dg
 | n+1,us,h=>by
  refine aT (bN.mp h) λxH h1 h2=>?_
  obtain⟨u,h3,rfl⟩:=aE.mp h2
  rw[cP]
  refine⟨JP n xH h1,by simp,λa ha b hb e=>?_⟩
  have e:=(aK.mp hb)▸e
  subst e
  have:=(aA.mp (gC.mp h3).2) a ha
  simp at this
theorem rd {v u:Int}(hv:v∈([1,2,3]:List Int)) (hu:-3≤u∧u≤4):sz 3 (X v u):=by
 unfold X
 rw[←aO]
 exact xw (by exact w7 _ (by simpa using hv:v=1∨v=2∨v=3)) (by unfold b6;exact rl 0x72401eabf1591515716310 rfl _ hu) (by unfold b6;exact rl 0x1c9007aaf87e19ac6a9ac4a9ac2a10 rfl _ (by simpa using hv:v=1∨v=2∨v=3))
theorem Yz {v:Int}{k n:Nat}{ps:List (Int×Int)}(hv:v∈([1,2,3]:List Int)) (hk:k≤3) (hg:gZ v ps) (hp:ps.length≤3) (hn:n≤2*k):b6 16 (rv v k ps n):=by
 have h:(rv v k ps n).natAbs≤ps.length*2^14:=by
  have:=@Gb 14 (ps.map λp=>p.2*p.1^n*v^(2*k-n)) (λx hx=>by
   obtain⟨p,h1,rfl⟩:=aE.mp hx
   refine dJ (hg p h1) λg1 g2=>?_
   have a1:(p.1^n).natAbs≤4^n:=by rw[Aw];exact tO (by exact rl 0x3524eabf1591515716310 rfl _ g1) n
   have a2:(v^(2*k-n)).natAbs≤4^(2*k-n):=by rw[Aw];exact tO (by exact rl 0xd493aaf87e19ac6a9ac4a9ac2a10 rfl _ (by simpa using hv:v=1∨v=2∨v=3)) _
   have a3:(p.1^n).natAbs*(v^(2*k-n)).natAbs≤4^n*4^(2*k-n):=nN a1 a2
   rw[←MG,show n+(2*k-n)=2*k by exact rl 0x3f02432c80e048405b81210102 rfl _ _ hn] at a3
   unfold b6
   rw[fJ,fJ,Nat.mul_assoc]
   exact rl 0x72400000886a4000006801 rfl _ (nN (by exact rl 0x1a91f54e493aa10 rfl _ g2) (by exact rl 0xd48000005016a400000286a10102 rfl _ _ a3 (cO (by decide) (by exact rl 0x1a9360486a46801 rfl _ hk):4^(2*k)≤4^6)):p.2.natAbs*((p.1^n).natAbs*(v^(2*k-n)).natAbs)≤3*4096))
  rwa [ag] at this
 unfold b6
 exact rl 0x7240000002ea9b900000223aa6a46811 rfl _ _ hp h
theorem Ji {v:Int}{k:Nat}{ps:List (Int×Int)}(hv:v∈([1,2,3]:List Int)) (hk:k≤3) (hg:gZ v ps) (hp:ps.length≤3):dn 20 (jE v k ps):=by
 intro q hq
 obtain⟨r,h1,rfl⟩:=aE.mp hq
 obtain⟨n,h2,rfl⟩:=aE.mp (cN h1)
 have:=bY.mp h2
 refine kz (A:=16) (by exact rl 0x35241240200 rfl) (xw (bO (by exact w7 _ (by simpa using hv:v=1∨v=2∨v=3))) (Yz hv hk hg hp (by exact Fp _ _ this)) ?_)
 have b:b6 2 v:=by unfold b6;exact zw _ (by simpa using hv:v=1∨v=2∨v=3)
 exact i9 (by exact rl 0x6a40262438160486a46801 rfl _ hk) (tX b _)
structure CF (K m:Nat) (v:Int) (us:List Int):Prop where
 rH:aw T K m (S "discriminant") [.af (il (fp us))]=some (.int (dF us),[.af (il (fp us))])
 tr:∃ w r,aw T K m (S "to_z") [.af (ql (qF v us).reverse)]=some (.tup [il w,r],[.af (ql (qF v us).reverse)])∧aw T K m (S "rational_roots") [.af (il w)]=some (hJ v us,[.af (il w)])
theorem Je {A B W P N:Rat}(h:A*P=B*W*N) (hB:B≠0) (hW:W≠0) (hP:P≠0):A/(B*W)=N/P:=by
 have:B*W≠0:=λe=>(bZ.mp e).elim hB hW
 generalize B*W=Q at *
 grind
theorem GO {V:Rat}(h:V≠0):∀ n:Nat,V^n≠0
 | 0=>by rw[Rat.pow_zero];decide
 | n+1=>by
  rw[Rat.pow_succ]
  exact λe=>(bZ.mp e).elim (GO h n) h
theorem g1 {C U V:Rat}(hV:V≠0) (h:U≠V):C*V/(V-U)=C/(1-U/V):=by
 grind
theorem n2 {C D U V W:Rat} (h1:V-U≠0) (h2:V-W≠0):(C*V*(V-W)+D*V*(V-U))/((V-U)*(V-W))=0+C*V/(V-U)+D*V/(V-W):=by grind
theorem n3 {C D E U V W Y:Rat} (h1:V-U≠0) (h2:V-W≠0) (h3:V-Y≠0):(C*V*((V-W)*(V-Y))+D*V*((V-U)*(V-Y))+E*V*((V-U)*(V-W)))/((V-U)*(V-W)*(V-Y))=0+C*V/(V-U)+D*V/(V-W)+E*V/(V-Y):=by
 generalize V-U=P at *
 generalize V-W=Q at *
 generalize V-Y=R at *
 grind
theorem q9 {v u:Int}(hv:v≠0) (hu:u≠0) (h:u≠v):X v u≠0∧X v u≠1∧(v:Rat)-(u:Rat)≠0∧(v:Rat)≠0∧(u:Rat)≠(v:Rat):=by
 have V0:(v:Rat)≠0:=by exact_mod_cast hv
 have U0:(u:Rat)≠0:=by exact_mod_cast hu
 have UV:(u:Rat)≠(v:Rat):=by exact_mod_cast h
 refine⟨λe=>U0 ?_,λe=>UV ?_,λe=>UV ?_,V0,UV⟩
 ·unfold X at e;grind
 ·unfold X at e;grind
 ·grind
theorem vQ {v u w:Int}(hv:v≠0) (h:u≠w):X v u≠X v w:=by
 have V0:(v:Rat)≠0:=by exact_mod_cast hv
 have UW:(u:Rat)≠(w:Rat):=by exact_mod_cast h
 intro e
 apply UW
 unfold X at e
 grind
theorem K1 {C U V:Rat}(hV:V≠0):C*V^2/V^2=C∧C*U*V/V^2=C*(U/V):=by
 constructor<;>grind
theorem K0 {C D U V W:Rat}(hV:V≠0):(C*V^4+D*V^4)/V^4=C+D∧(C*U*V^3+D*W*V^3)/V^4=C*(U/V)+D*(W/V)∧(C*U^2*V^2+D*W^2*V^2)/V^4=C*(U/V*(U/V))+D*(W/V*(W/V)) ∧
  (C*U^3*V+D*W^3*V)/V^4=C*(U/V*(U/V)*(U/V))+D*(W/V*(W/V)*(W/V)):=by
 refine⟨?_,?_,?_,?_⟩<;>grind
theorem KZ {C D E U V W Y:Rat}(hV:V≠0):(C*V^6+D*V^6+E*V^6)/V^6=C+D+E∧(C*U*V^5+D*W*V^5+E*Y*V^5)/V^6=C*(U/V)+D*(W/V)+E*(Y/V)∧(C*U^2*V^4+D*W^2*V^4+E*Y^2*V^4)/V^6=C*(U/V*(U/V))+D*(W/V*(W/V))+E*(Y/V*(Y/V)) ∧
  (C*U^3*V^3+D*W^3*V^3+E*Y^3*V^3)/V^6=C*(U/V*(U/V)*(U/V))+D*(W/V*(W/V)*(W/V))+E*(Y/V*(Y/V)*(Y/V)) ∧
  (C*U^4*V^2+D*W^4*V^2+E*Y^4*V^2)/V^6=C*(U/V*(U/V)*(U/V)*(U/V))+D*(W/V*(W/V)*(W/V)*(W/V))+E*(Y/V*(Y/V)*(Y/V)*(Y/V)) ∧
  (C*U^5*V+D*W^5*V+E*Y^5*V)/V^6=C*(U/V*(U/V)*(U/V)*(U/V)*(U/V))+D*(W/V*(W/V)*(W/V)*(W/V)*(W/V))+E*(Y/V*(Y/V)*(Y/V)*(Y/V)*(Y/V)):=by
 refine⟨?_,?_,?_,?_,?_,?_⟩<;>grind
section
variable {K m:Nat}{v:Int}
theorem T5 (hv:v∈([1,2,3]:List Int)){u c:Int}(lg:LG v [(u,c)]) (cf:CF K m v [u]):∃ D q W r,A2 K m v 1 [(u,c)] D q W r:=by
 refine dJ (Jw hv lg) λhg hb=>?_
 refine dJ (hb (u,c) (.head _)) λDJ vm=>?_
 refine jR (t6 hv DJ) λu1 u2 u3 u4=>?_
 have iK:v≠0:=w7 _ (by simpa using hv:v=1∨v=2∨v=3)
 refine mZ cf.tr λW r B8 B7=>?_
 have r0:rv v 1 [(u,c)] 0=c*v^2:=by
  show c*u^0*v^2+0=_
  grind
 have r1:rv v 1 [(u,c)] 1=c*u*v:=by
  show c*u^1*v^1+0=_
  grind
 have r2:rv v 1 [(u,c)] 2=c*u^2:=by
  show c*u^2*v^0+0=_
  grind
 refine dJ (Gd (k:=1) hv (by exact zc) hg (by simp)) λp1 p2=>?_
 refine dJ (Gp (k:=1) hv (by exact zc) hg (by simp)) λp3 p4=>?_
 refine dJ (@v3 (cJ v 1 [(u,c)]) 1 (λy hy=>i9 (by exact tU) (sG hv (by exact zc) hg (by simp) y hy))) λp5 p6=>?_
 refine dJ (@v3 (cJ v 1 [(u,c)]) 2 (λy hy=>i9 (by exact tU) (sG hv (by exact zc) hg (by simp) y hy))) λp7 p8=>?_
 have sY:jE v 1 [(u,c)]=[aI (rv v 1 [(u,c)] 0) (v^2),aI (rv v 1 [(u,c)] 1) (v^2)]:=rfl
 have oj:fc 2 (lT v 1 [(u,c)])=d2 1 1 (rv v 1 [(u,c)] 1) (rv v 1 [(u,c)] 2):=(rT (by exact Fi) p1).trans rfl
 have od:fc 2 (kc v 1 [(u,c)])=d2 (rv v 1 [(u,c)] 0) (rv v 1 [(u,c)] 0+rv v 1 [(u,c)] 1) (rv v 1 [(u,c)] 1) (rv v 1 [(u,c)] 2):=by
  refine(rT (by exact Fi) p3).trans ?_
  show d2 (rv v 1 [(u,c)] 0+0) (rv v 1 [(u,c)] 0+(rv v 1 [(u,c)] 1+0)) (rv v 1 [(u,c)] 1) (rv v 1 [(u,c)] 2)=_
  rw[show rv v 1 [(u,c)] 0+0=rv v 1 [(u,c)] 0 by simp only[dw]]
  rw[show rv v 1 [(u,c)] 0+(rv v 1 [(u,c)] 1+0)=rv v 1 [(u,c)] 0+rv v 1 [(u,c)] 1 by simp only[dw]]
 have Du:fc 1 (di (cJ v 1 [(u,c)]) 1)=rv v 1 [(u,c)] 0:=(rT (by exact rl 0xd4912100 rfl) p5).trans rfl
 have Dt:fc 2 (di (cJ v 1 [(u,c)]) 2)=d2 (rv v 1 [(u,c)] 0) (rv v 1 [(u,c)] 1) (rv v 1 [(u,c)] 1) (rv v 1 [(u,c)] 2):=(rT (by exact Fi) p7).trans rfl
 generalize rv v 1 [(u,c)] 0=R0 at *
 generalize rv v 1 [(u,c)] 1=R1 at *
 generalize rv v 1 [(u,c)] 2=R2 at *
 refine oQ (q9 iK u4 u3) λv5 BM xE V0 BL=>?_
 have kD:jE v 1 [(u,c)]=[(c:Rat),(c:Rat)*X v u]:=by
  rw[sY,r0,r1,aO,aO]
  unfold X
  push_cast
  refine dJ (K1 (C:=c) (U:=u) V0) λq0 q1=>?_
  exact(ak q0)▸(ak q1)▸rfl
 have wC:d9 v [(u,c)]=0+(c:Rat)*v/(v-u):=by
  show 0+aI (c*v) (v-u)=_
  rw[aO]
  push_cast
  rfl
 have gl:d9 v [(u,c)]=0+(c:Rat)/(1-X v u):=by
  rw[wC,g1 V0 BL]
  rfl
 have ah:cK [(u,c)]=1*c:=rfl
 have on:cF v [(u,c)]=1*u*(u-v):=rfl
 subst r0 r1 r2
 have bE:=b1 c u v
 have tE:=t1 c u v
 have zE:=z1 c u v
 have hE:=h1a c v
 have qt:v^(1*1-1)*cK [(u,c)]*cF v [(u,c)]*1=d2 1 1 (c*u*v) (c*u^2):=by
  refine(ak bE)▸(ak ah)▸(ak on)▸?_
  clear bE tE zE hE
  grind
 have ne:d2 1 1 (c*u*v) (c*u^2)≠0:=by
  exact(ak bE)▸(aG vm (aG u4 (by exact tT _ _ u3)))
 refine⟨1,qF v [u],W,r,⟨?_,?_,?_,?_,?_,?_,?_,Ji hv (by exact zc) hg (by simp),?_,?_,cf.rH,B8,B7⟩⟩
 ·exact(ak qt)▸(ak oj)▸rfl
 ·unfold b6;decide
 ·exact(ak qt)▸(aG ne (bO iK))
 ·rw[qt,od,wC,aO]
  clear qt oj od bE zE hE
  have h:=congrArg (λz:Int=>(z:Rat)) tE
  generalize d2 1 1 (c*u*v) (c*u^2)=BB at *
  generalize (d2 (c*v^2) (c*v^2+c*u*v) (c*u*v) (c*u^2))=AA at *
  push_cast at h ⊢
  rw[(Je (A:=AA) (B:=BB) (W:=(v:Rat)^2) (P:=((v:Rat)-u)) (N:=((c:Rat)*v)) h (by exact_mod_cast ne) (GO V0 _) (xE:((v:Rat)-u)≠0))]
  grind
 ·refine(ak Du)▸(ak ah)▸?_;grind
 ·exact(ak Dt)▸(ak zE)▸rfl
 ·rw[kD];exact(DZ (by exact_mod_cast vm:(c:Rat)≠0) v5)
 ·intro q hq
  simp only[KR,aC,bT,or_false] at hq
  rcases hq with rfl | rfl
  ·exact uE 99
  ·exact kz (by exact rl 0x35242052300 rfl) (xl (rd hv ⟨u1,u2⟩))
 ·rw[kD,J5 (DZ (by exact_mod_cast vm:(c:Rat)≠0) v5),gl]
  exact Kg BM
theorem T6 (hv:v∈([1,2,3]:List Int)){u w c d:Int}(lg:LG v [(u,c),(w,d)]) (cf:CF K m v [u,w]):∃ D q W r,A2 K m v 2 [(u,c),(w,d)] D q W r:=by
 refine dJ (Jw hv lg) λhg hb=>?_
 refine dJ (hb (u,c) (.head _)) λDJ vm=>?_
 refine jR (t6 hv DJ) λu1 u2 u3 u4=>?_
 refine dJ (hb (w,d) (.tail _ (.head _))) λLQ DG=>?_
 refine jR (t6 hv LQ) λw1 w2 w3 w4=>?_
 have iK:v≠0:=w7 _ (by simpa using hv:v=1∨v=2∨v=3)
 refine mZ cf.tr λW r B8 B7=>?_
 have nd:=JP _ _ lg.us
 simp only[a8,dM,a9,aC,bT,or_false,not_false_eq_true,dg,and_true] at nd
 have r0:rv v 2 [(u,c),(w,d)] 0=c*v^4+d*v^4:=by
  show c*u^0*v^4+(d*w^0*v^4+0)=_
  grind
 have r1:rv v 2 [(u,c),(w,d)] 1=c*u*v^3+d*w*v^3:=by
  show c*u^1*v^3+(d*w^1*v^3+0)=_
  grind
 have r2:rv v 2 [(u,c),(w,d)] 2=c*u^2*v^2+d*w^2*v^2:=by
  show c*u^2*v^2+(d*w^2*v^2+0)=_
  grind
 have r3:rv v 2 [(u,c),(w,d)] 3=c*u^3*v+d*w^3*v:=by
  show c*u^3*v^1+(d*w^3*v^1+0)=_
  grind
 have r4:rv v 2 [(u,c),(w,d)] 4=c*u^4+d*w^4:=by
  show c*u^4*v^0+(d*w^4*v^0+0)=_
  grind
 refine dJ (Gd (k:=2) hv (by exact AI) hg (by simp)) λp1 p2=>?_
 refine dJ (Gp (k:=2) hv (by exact AI) hg (by simp)) λp3 p4=>?_
 refine dJ (@v3 (cJ v 2 [(u,c),(w,d)]) 2 (λy hy=>i9 (by exact tU) (sG hv (by exact AI) hg (by simp) y hy))) λp5 p6=>?_
 refine dJ (@v3 (cJ v 2 [(u,c),(w,d)]) 3 (λy hy=>i9 (by exact tU) (sG hv (by exact AI) hg (by simp) y hy))) λp7 p8=>?_
 have sY:jE v 2 [(u,c),(w,d)]=[aI (rv v 2 [(u,c),(w,d)] 0) (v^4),aI (rv v 2 [(u,c),(w,d)] 1) (v^4),aI (rv v 2 [(u,c),(w,d)] 2) (v^4),aI (rv v 2 [(u,c),(w,d)] 3) (v^4)]:=rfl
 have oj:fc 3 (lT v 2 [(u,c),(w,d)])=d3 1 1 1 (rv v 2 [(u,c),(w,d)] 1) (rv v 2 [(u,c),(w,d)] 2) (rv v 2 [(u,c),(w,d)] 3) (rv v 2 [(u,c),(w,d)] 2) (rv v 2 [(u,c),(w,d)] 3) (rv v 2 [(u,c),(w,d)] 4):=(rT (by exact Fh) p1).trans rfl
 have od:fc 3 (kc v 2 [(u,c),(w,d)])=d3 (rv v 2 [(u,c),(w,d)] 0) (rv v 2 [(u,c),(w,d)] 0+rv v 2 [(u,c),(w,d)] 1) (rv v 2 [(u,c),(w,d)] 0+rv v 2 [(u,c),(w,d)] 1+rv v 2 [(u,c),(w,d)] 2) (rv v 2 [(u,c),(w,d)] 1) (rv v 2 [(u,c),(w,d)] 2) (rv v 2 [(u,c),(w,d)] 3) (rv v 2 [(u,c),(w,d)] 2) (rv v 2 [(u,c),(w,d)] 3) (rv v 2 [(u,c),(w,d)] 4):=by
  refine(rT (by exact Fh) p3).trans ?_
  show d3 (rv v 2 [(u,c),(w,d)] 0+0) (rv v 2 [(u,c),(w,d)] 0+(rv v 2 [(u,c),(w,d)] 1+0)) (rv v 2 [(u,c),(w,d)] 0+(rv v 2 [(u,c),(w,d)] 1+(rv v 2 [(u,c),(w,d)] 2+0))) (rv v 2 [(u,c),(w,d)] 1) (rv v 2 [(u,c),(w,d)] 2) (rv v 2 [(u,c),(w,d)] 3) (rv v 2 [(u,c),(w,d)] 2) (rv v 2 [(u,c),(w,d)] 3) (rv v 2 [(u,c),(w,d)] 4)=_
  rw[show rv v 2 [(u,c),(w,d)] 0+0=rv v 2 [(u,c),(w,d)] 0 by simp only[dw]]
  rw[show rv v 2 [(u,c),(w,d)] 0+(rv v 2 [(u,c),(w,d)] 1+0)=rv v 2 [(u,c),(w,d)] 0+rv v 2 [(u,c),(w,d)] 1 by simp only[dw]]
  rw[show rv v 2 [(u,c),(w,d)] 0+(rv v 2 [(u,c),(w,d)] 1+(rv v 2 [(u,c),(w,d)] 2+0))=rv v 2 [(u,c),(w,d)] 0+rv v 2 [(u,c),(w,d)] 1+rv v 2 [(u,c),(w,d)] 2 by exact rl 0x13a285450554a516a1282a30 rfl _ _ _]
 have Du:fc 2 (di (cJ v 2 [(u,c),(w,d)]) 2)=d2 (rv v 2 [(u,c),(w,d)] 0) (rv v 2 [(u,c),(w,d)] 1) (rv v 2 [(u,c),(w,d)] 1) (rv v 2 [(u,c),(w,d)] 2):=(rT (by exact Fi) p5).trans rfl
 have Dt:fc 3 (di (cJ v 2 [(u,c),(w,d)]) 3)=d3 (rv v 2 [(u,c),(w,d)] 0) (rv v 2 [(u,c),(w,d)] 1) (rv v 2 [(u,c),(w,d)] 2) (rv v 2 [(u,c),(w,d)] 1) (rv v 2 [(u,c),(w,d)] 2) (rv v 2 [(u,c),(w,d)] 3) (rv v 2 [(u,c),(w,d)] 2) (rv v 2 [(u,c),(w,d)] 3) (rv v 2 [(u,c),(w,d)] 4):=(rT (by exact Fh) p7).trans rfl
 generalize rv v 2 [(u,c),(w,d)] 0=R0 at *
 generalize rv v 2 [(u,c),(w,d)] 1=R1 at *
 generalize rv v 2 [(u,c),(w,d)] 2=R2 at *
 generalize rv v 2 [(u,c),(w,d)] 3=R3 at *
 generalize rv v 2 [(u,c),(w,d)] 4=R4 at *
 refine oQ (q9 iK u4 u3) λv5 BM xE V0 BL=>?_
 refine oQ (q9 iK w4 w3) λBK J7 BJ V0 J6=>?_
 have Cc:(c:Rat)≠0:=by exact_mod_cast vm
 have Cd:(d:Rat)≠0:=by exact_mod_cast DG
 have kD:jE v 2 [(u,c),(w,d)]=[(c:Rat)+(d:Rat),(c:Rat)*X v u+(d:Rat)*X v w,(c:Rat)*(X v u*X v u)+(d:Rat)*(X v w*X v w),(c:Rat)*(X v u*X v u*X v u)+(d:Rat)*(X v w*X v w*X v w)]:=by
  rw[sY,r0,r1,r2,r3,aO,aO,aO,aO]
  unfold X
  push_cast
  refine jR (K0 (C:=c) (D:=d) (U:=u) (W:=w) V0) λq0 q1 q2 q3=>?_
  rw[q0,q1,q2,q3]
 have wC:d9 v [(u,c),(w,d)]=0+(c:Rat)*v/(v-u)+(d:Rat)*v/(v-w):=by
  show 0+aI (c*v) (v-u)+aI (d*v) (v-w)=_
  rw[aO,aO]
  push_cast
  rfl
 have gl:d9 v [(u,c),(w,d)]=0+(c:Rat)/(1-X v u)+(d:Rat)/(1-X v w):=by
  rw[wC,g1 V0 BL,g1 V0 J6]
  rfl
 have ah:cK [(u,c),(w,d)]=1*c*d:=rfl
 have on:cF v [(u,c),(w,d)]=1*u*(u-v)*w*(w-v):=rfl
 have bE:=b2 c d u w v R0 R1 R2 R3 R4 r0 r1 r2 r3 r4
 have tE:=t2 c d u w v R0 R1 R2 R3 R4 r0 r1 r2 r3 r4
 have zE:=z2 c d u w v R0 R1 R2 R3 R4 r0 r1 r2 r3 r4
 have hE:=h2a c d u w v R0 R1 R2 r0 r1 r2
 have qt:v^(2*2-2)*cK [(u,c),(w,d)]*cF v [(u,c),(w,d)]*(u-w)^2=d3 1 1 1 R1 R2 R3 R2 R3 R4:=by
  refine(ak bE)▸(ak ah)▸(ak on)▸?_
  clear bE tE zE hE
  generalize (u-w)^2=DD
  grind
 have ne:d3 1 1 1 R1 R2 R3 R2 R3 R4≠0:=by
  exact(ak bE)▸(aG (aG (aG (bO iK) (aG vm DG)) (aG (aG u4 (by exact tT _ _ u3)) (aG w4 (by exact tT _ _ w3)))) (bO (by exact tT _ _ nd)))
 refine⟨(u-w)^2,qF v [u,w],W,r,⟨?_,?_,?_,?_,?_,?_,?_,Ji hv (by exact AI) hg (by simp),?_,?_,cf.rH,B8,B7⟩⟩
 ·exact(ak qt)▸(ak oj)▸rfl
 ·have b1:b6 3 (u-w):=by unfold b6;exact Fg _ _ u1 u2 w1 w2
  exact i9 (by exact rl 0x1a921d2700 rfl) (tX b1 2)
 ·exact(ak qt)▸(aG ne (bO iK))
 ·rw[qt,od,wC,aO]
  clear qt oj od bE zE hE
  have h:=congrArg (λz:Int=>(z:Rat)) tE
  generalize d3 1 1 1 R1 R2 R3 R2 R3 R4=BB at *
  generalize (d3 (R0) (R0+R1) (R0+R1+R2) R1 R2 R3 R2 R3 R4)=AA at *
  push_cast at h ⊢
  have hP:(((v:Rat)-u)*((v:Rat)-w))≠0:=λe=>(bZ.mp e).elim xE BJ
  have f:=Je (A:=AA) (B:=BB) (W:=(v:Rat)^4) (P:=(((v:Rat)-u)*((v:Rat)-w))) (N:=((c:Rat)*v*((v:Rat)-w)+(d:Rat)*v*((v:Rat)-u))) h (by exact_mod_cast ne) (GO V0 _) hP
  rw[f]
  exact n2 xE BJ
 ·rw[Du,hE,ah]
  generalize (u-w)^2=DD
  grind
 ·rw[Dt,zE]
 ·rw[kD];exact(DY Cc Cd v5 BK (vQ iK (nd:u≠w)))
 ·intro q hq
  simp only[KQ,aC,bT,or_false] at hq
  have s1:=rd hv ⟨u1,u2⟩
  have s2:=rd hv ⟨w1,w2⟩
  rcases hq with rfl | rfl | rfl
  ·exact uE 99
  ·exact kz (by exact rl 0x35242052700 rfl) (xl (rR s1 s2))
  ·exact kz (by exact rl 0x35242052600 rfl) (qc s1 s2)
 ·rw[kD,J5 (DY Cc Cd v5 BK (vQ iK (nd:u≠w))),gl]
  exact Kf BM J7
theorem T7 (hv:v∈([1,2,3]:List Int)){u w y c d e:Int}(lg:LG v [(u,c),(w,d),(y,e)]) (cf:CF K m v [u,w,y]):∃ D q W r,A2 K m v 3 [(u,c),(w,d),(y,e)] D q W r:=by
 refine dJ (Jw hv lg) λhg hb=>?_
 refine dJ (hb (u,c) (.head _)) λDJ vm=>?_
 refine jR (t6 hv DJ) λu1 u2 u3 u4=>?_
 refine dJ (hb (w,d) (.tail _ (.head _))) λLQ DG=>?_
 refine jR (t6 hv LQ) λw1 w2 w3 w4=>?_
 refine dJ (hb (y,e) (.tail _ (.tail _ (.head _)))) λhby RM=>?_
 refine jR (t6 hv hby) λy1 y2 y3 y4=>?_
 have iK:v≠0:=w7 _ (by simpa using hv:v=1∨v=2∨v=3)
 refine mZ cf.tr λW r B8 B7=>?_
 have nd:=JP _ _ lg.us
 simp only[a8,dM,a9,aC,bT,or_false,not_or,not_false_eq_true,dg,and_true] at nd
 obtain⟨⟨uw,uy⟩,wy⟩:=nd
 have r0:rv v 3 [(u,c),(w,d),(y,e)] 0=c*v^6+d*v^6+e*v^6:=by
  show c*u^0*v^6+(d*w^0*v^6+(e*y^0*v^6+0))=_
  grind
 have r1:rv v 3 [(u,c),(w,d),(y,e)] 1=c*u*v^5+d*w*v^5+e*y*v^5:=by
  show c*u^1*v^5+(d*w^1*v^5+(e*y^1*v^5+0))=_
  grind
 have r2:rv v 3 [(u,c),(w,d),(y,e)] 2=c*u^2*v^4+d*w^2*v^4+e*y^2*v^4:=by
  show c*u^2*v^4+(d*w^2*v^4+(e*y^2*v^4+0))=_
  grind
 have r3:rv v 3 [(u,c),(w,d),(y,e)] 3=c*u^3*v^3+d*w^3*v^3+e*y^3*v^3:=by
  show c*u^3*v^3+(d*w^3*v^3+(e*y^3*v^3+0))=_
  grind
 have r4:rv v 3 [(u,c),(w,d),(y,e)] 4=c*u^4*v^2+d*w^4*v^2+e*y^4*v^2:=by
  show c*u^4*v^2+(d*w^4*v^2+(e*y^4*v^2+0))=_
  grind
 have r5:rv v 3 [(u,c),(w,d),(y,e)] 5=c*u^5*v+d*w^5*v+e*y^5*v:=by
  show c*u^5*v^1+(d*w^5*v^1+(e*y^5*v^1+0))=_
  grind
 have r6:rv v 3 [(u,c),(w,d),(y,e)] 6=c*u^6+d*w^6+e*y^6:=by
  show c*u^6*v^0+(d*w^6*v^0+(e*y^6*v^0+0))=_
  grind
 refine dJ (Gd (k:=3) hv (by exact AH) hg (by simp)) λp1 p2=>?_
 refine dJ (Gp (k:=3) hv (by exact AH) hg (by simp)) λp3 p4=>?_
 refine dJ (@v3 (cJ v 3 [(u,c),(w,d),(y,e)]) 3 (λy hy=>i9 (by exact tU) (sG hv (by exact AH) hg (by simp) y hy))) λp5 p6=>?_
 refine dJ (@v3 (cJ v 3 [(u,c),(w,d),(y,e)]) 4 (λy hy=>i9 (by exact tU) (sG hv (by exact AH) hg (by simp) y hy))) λp7 p8=>?_
 have sY:jE v 3 [(u,c),(w,d),(y,e)]=[aI (rv v 3 [(u,c),(w,d),(y,e)] 0) (v^6),aI (rv v 3 [(u,c),(w,d),(y,e)] 1) (v^6),aI (rv v 3 [(u,c),(w,d),(y,e)] 2) (v^6),aI (rv v 3 [(u,c),(w,d),(y,e)] 3) (v^6),aI (rv v 3 [(u,c),(w,d),(y,e)] 4) (v^6),aI (rv v 3 [(u,c),(w,d),(y,e)] 5) (v^6)]:=rfl
 have oj:fc 4 (lT v 3 [(u,c),(w,d),(y,e)])=d4 1 1 1 1 (rv v 3 [(u,c),(w,d),(y,e)] 1) (rv v 3 [(u,c),(w,d),(y,e)] 2) (rv v 3 [(u,c),(w,d),(y,e)] 3) (rv v 3 [(u,c),(w,d),(y,e)] 4) (rv v 3 [(u,c),(w,d),(y,e)] 2) (rv v 3 [(u,c),(w,d),(y,e)] 3) (rv v 3 [(u,c),(w,d),(y,e)] 4) (rv v 3 [(u,c),(w,d),(y,e)] 5) (rv v 3 [(u,c),(w,d),(y,e)] 3) (rv v 3 [(u,c),(w,d),(y,e)] 4) (rv v 3 [(u,c),(w,d),(y,e)] 5) (rv v 3 [(u,c),(w,d),(y,e)] 6):=(rT (by exact rl 0xd4912400 rfl) p1).trans rfl
 have od:fc 4 (kc v 3 [(u,c),(w,d),(y,e)])=d4 (rv v 3 [(u,c),(w,d),(y,e)] 0) (rv v 3 [(u,c),(w,d),(y,e)] 0+rv v 3 [(u,c),(w,d),(y,e)] 1) (rv v 3 [(u,c),(w,d),(y,e)] 0+rv v 3 [(u,c),(w,d),(y,e)] 1+rv v 3 [(u,c),(w,d),(y,e)] 2) (rv v 3 [(u,c),(w,d),(y,e)] 0+rv v 3 [(u,c),(w,d),(y,e)] 1+rv v 3 [(u,c),(w,d),(y,e)] 2+rv v 3 [(u,c),(w,d),(y,e)] 3) (rv v 3 [(u,c),(w,d),(y,e)] 1) (rv v 3 [(u,c),(w,d),(y,e)] 2) (rv v 3 [(u,c),(w,d),(y,e)] 3) (rv v 3 [(u,c),(w,d),(y,e)] 4) (rv v 3 [(u,c),(w,d),(y,e)] 2) (rv v 3 [(u,c),(w,d),(y,e)] 3) (rv v 3 [(u,c),(w,d),(y,e)] 4) (rv v 3 [(u,c),(w,d),(y,e)] 5) (rv v 3 [(u,c),(w,d),(y,e)] 3) (rv v 3 [(u,c),(w,d),(y,e)] 4) (rv v 3 [(u,c),(w,d),(y,e)] 5) (rv v 3 [(u,c),(w,d),(y,e)] 6):=by
  refine(rT (by exact rl 0xd4912400 rfl) p3).trans ?_
  show d4 (rv v 3 [(u,c),(w,d),(y,e)] 0+0) (rv v 3 [(u,c),(w,d),(y,e)] 0+(rv v 3 [(u,c),(w,d),(y,e)] 1+0)) (rv v 3 [(u,c),(w,d),(y,e)] 0+(rv v 3 [(u,c),(w,d),(y,e)] 1+(rv v 3 [(u,c),(w,d),(y,e)] 2+0))) (rv v 3 [(u,c),(w,d),(y,e)] 0+(rv v 3 [(u,c),(w,d),(y,e)] 1+(rv v 3 [(u,c),(w,d),(y,e)] 2+(rv v 3 [(u,c),(w,d),(y,e)] 3+0)))) (rv v 3 [(u,c),(w,d),(y,e)] 1) (rv v 3 [(u,c),(w,d),(y,e)] 2) (rv v 3 [(u,c),(w,d),(y,e)] 3) (rv v 3 [(u,c),(w,d),(y,e)] 4) (rv v 3 [(u,c),(w,d),(y,e)] 2) (rv v 3 [(u,c),(w,d),(y,e)] 3) (rv v 3 [(u,c),(w,d),(y,e)] 4) (rv v 3 [(u,c),(w,d),(y,e)] 5) (rv v 3 [(u,c),(w,d),(y,e)] 3) (rv v 3 [(u,c),(w,d),(y,e)] 4) (rv v 3 [(u,c),(w,d),(y,e)] 5) (rv v 3 [(u,c),(w,d),(y,e)] 6)=_
  rw[show rv v 3 [(u,c),(w,d),(y,e)] 0+0=rv v 3 [(u,c),(w,d),(y,e)] 0 by simp only[dw]]
  rw[show rv v 3 [(u,c),(w,d),(y,e)] 0+(rv v 3 [(u,c),(w,d),(y,e)] 1+0)=rv v 3 [(u,c),(w,d),(y,e)] 0+rv v 3 [(u,c),(w,d),(y,e)] 1 by simp only[dw]]
  rw[show rv v 3 [(u,c),(w,d),(y,e)] 0+(rv v 3 [(u,c),(w,d),(y,e)] 1+(rv v 3 [(u,c),(w,d),(y,e)] 2+0))=rv v 3 [(u,c),(w,d),(y,e)] 0+rv v 3 [(u,c),(w,d),(y,e)] 1+rv v 3 [(u,c),(w,d),(y,e)] 2 by exact rl 0x13a285450554a516a1282a30 rfl _ _ _]
  rw[show rv v 3 [(u,c),(w,d),(y,e)] 0+(rv v 3 [(u,c),(w,d),(y,e)] 1+(rv v 3 [(u,c),(w,d),(y,e)] 2+(rv v 3 [(u,c),(w,d),(y,e)] 3+0)))=rv v 3 [(u,c),(w,d),(y,e)] 0+rv v 3 [(u,c),(w,d),(y,e)] 1+rv v 3 [(u,c),(w,d),(y,e)] 2+rv v 3 [(u,c),(w,d),(y,e)] 3 by exact rl 0x4e8a1d142a282aa52945a86a1282a40 rfl _ _ _ _]
 have Du:fc 3 (di (cJ v 3 [(u,c),(w,d),(y,e)]) 3)=d3 (rv v 3 [(u,c),(w,d),(y,e)] 0) (rv v 3 [(u,c),(w,d),(y,e)] 1) (rv v 3 [(u,c),(w,d),(y,e)] 2) (rv v 3 [(u,c),(w,d),(y,e)] 1) (rv v 3 [(u,c),(w,d),(y,e)] 2) (rv v 3 [(u,c),(w,d),(y,e)] 3) (rv v 3 [(u,c),(w,d),(y,e)] 2) (rv v 3 [(u,c),(w,d),(y,e)] 3) (rv v 3 [(u,c),(w,d),(y,e)] 4):=(rT (by exact Fh) p5).trans rfl
 have Dt:fc 4 (di (cJ v 3 [(u,c),(w,d),(y,e)]) 4)=d4 (rv v 3 [(u,c),(w,d),(y,e)] 0) (rv v 3 [(u,c),(w,d),(y,e)] 1) (rv v 3 [(u,c),(w,d),(y,e)] 2) (rv v 3 [(u,c),(w,d),(y,e)] 3) (rv v 3 [(u,c),(w,d),(y,e)] 1) (rv v 3 [(u,c),(w,d),(y,e)] 2) (rv v 3 [(u,c),(w,d),(y,e)] 3) (rv v 3 [(u,c),(w,d),(y,e)] 4) (rv v 3 [(u,c),(w,d),(y,e)] 2) (rv v 3 [(u,c),(w,d),(y,e)] 3) (rv v 3 [(u,c),(w,d),(y,e)] 4) (rv v 3 [(u,c),(w,d),(y,e)] 5) (rv v 3 [(u,c),(w,d),(y,e)] 3) (rv v 3 [(u,c),(w,d),(y,e)] 4) (rv v 3 [(u,c),(w,d),(y,e)] 5) (rv v 3 [(u,c),(w,d),(y,e)] 6):=(rT (by exact rl 0xd4912400 rfl) p7).trans rfl
 generalize rv v 3 [(u,c),(w,d),(y,e)] 0=R0 at *
 generalize rv v 3 [(u,c),(w,d),(y,e)] 1=R1 at *
 generalize rv v 3 [(u,c),(w,d),(y,e)] 2=R2 at *
 generalize rv v 3 [(u,c),(w,d),(y,e)] 3=R3 at *
 generalize rv v 3 [(u,c),(w,d),(y,e)] 4=R4 at *
 generalize rv v 3 [(u,c),(w,d),(y,e)] 5=R5 at *
 generalize rv v 3 [(u,c),(w,d),(y,e)] 6=R6 at *
 refine oQ (q9 iK u4 u3) λv5 BM xE V0 BL=>?_
 refine oQ (q9 iK w4 w3) λBK J7 BJ V0 J6=>?_
 refine oQ (q9 iK y4 y3) λQ2 xy1 Q1 V0 xy3=>?_
 have Cc:(c:Rat)≠0:=by exact_mod_cast vm
 have Cd:(d:Rat)≠0:=by exact_mod_cast DG
 have Ce:(e:Rat)≠0:=by exact_mod_cast RM
 have kD:jE v 3 [(u,c),(w,d),(y,e)]=[(c:Rat)+(d:Rat)+(e:Rat),(c:Rat)*X v u+(d:Rat)*X v w+(e:Rat)*X v y,(c:Rat)*(X v u*X v u)+(d:Rat)*(X v w*X v w)+(e:Rat)*(X v y*X v y),(c:Rat)*(X v u*X v u*X v u)+(d:Rat)*(X v w*X v w*X v w)+(e:Rat)*(X v y*X v y*X v y),(c:Rat)*(X v u*X v u*X v u*X v u)+(d:Rat)*(X v w*X v w*X v w*X v w)+(e:Rat)*(X v y*X v y*X v y*X v y),(c:Rat)*(X v u*X v u*X v u*X v u*X v u)+(d:Rat)*(X v w*X v w*X v w*X v w*X v w)+(e:Rat)*(X v y*X v y*X v y*X v y*X v y)]:=by
  rw[sY,r0,r1,r2,r3,r4,r5,aO,aO,aO,aO,aO,aO]
  unfold X
  push_cast
  refine tY (KZ (C:=c) (D:=d) (E:=e) (U:=u) (W:=w) (Y:=y) V0) λq0 q1 q2 q3 q4 q5=>?_
  rw[q0,q1,q2,q3,q4,q5]
 have wC:d9 v [(u,c),(w,d),(y,e)]=0+(c:Rat)*v/(v-u)+(d:Rat)*v/(v-w)+(e:Rat)*v/(v-y):=by
  show 0+aI (c*v) (v-u)+aI (d*v) (v-w)+aI (e*v) (v-y)=_
  rw[aO,aO,aO]
  push_cast
  rfl
 have gl:d9 v [(u,c),(w,d),(y,e)]=0+(c:Rat)/(1-X v u)+(d:Rat)/(1-X v w)+(e:Rat)/(1-X v y):=by
  rw[wC,g1 V0 BL,g1 V0 J6,g1 V0 xy3]
  rfl
 have ah:cK [(u,c),(w,d),(y,e)]=1*c*d*e:=rfl
 have on:cF v [(u,c),(w,d),(y,e)]=1*u*(u-v)*w*(w-v)*y*(y-v):=rfl
 have bE:=b3 c d e u w y v R1 R2 R3 R4 R5 R6 r1 r2 r3 r4 r5 r6 iK
 have tE:=t3 c d e u w y v R0 R1 R2 R3 R4 R5 R6 r0 r1 r2 r3 r4 r5 r6 iK
 have zE:=z3 c d e u w y v R0 R1 R2 R3 R4 R5 R6 r0 r1 r2 r3 r4 r5 r6 iK
 have hE:=h3a c d e u w y v R0 R1 R2 R3 R4 r0 r1 r2 r3 r4
 have qt:v^(3*3-3)*cK [(u,c),(w,d),(y,e)]*cF v [(u,c),(w,d),(y,e)]*((u-w)^2*(u-y)^2*(w-y)^2)=d4 1 1 1 1 R1 R2 R3 R4 R2 R3 R4 R5 R3 R4 R5 R6:=by
  rw[bE,ah,on]
  clear bE tE zE hE
  generalize ((u-w)^2*(u-y)^2*(w-y)^2)=DD
  grind
 have ne:d4 1 1 1 1 R1 R2 R3 R4 R2 R3 R4 R5 R3 R4 R5 R6≠0:=by
  rw[bE]
  exact aG (aG (aG (bO iK) (aG (aG vm DG) RM)) (aG (aG (aG u4 (by exact tT _ _ u3)) (aG w4 (by exact tT _ _ w3))) (aG y4 (by exact tT _ _ y3)))) (aG (aG (bO (by exact tT _ _ uw)) (bO (by exact tT _ _ uy))) (bO (by exact tT _ _ wy)))
 refine⟨((u-w)^2*(u-y)^2*(w-y)^2),qF v [u,w,y],W,r,⟨?_,?_,?_,?_,?_,?_,?_,Ji hv (by exact AH) hg (by simp),?_,?_,cf.rH,B8,B7⟩⟩
 ·exact(ak qt)▸(ak oj)▸rfl
 ·have b1:b6 3 (u-w):=by unfold b6;exact Fg _ _ u1 u2 w1 w2
  have b2:b6 3 (u-y):=by unfold b6;exact Fg _ _ u1 u2 y1 y2
  have b3:b6 3 (w-y):=by unfold b6;exact Fg _ _ w1 w2 y1 y2
  exact i9 (by exact rl 0x35243a4a200 rfl) (jP (jP (tX b1 2) (tX b2 2)) (tX b3 2))
 ·rw[qt];exact aG ne (bO iK)
 ·rw[qt,od,wC,aO]
  clear qt oj od bE zE hE
  have h:=congrArg (λz:Int=>(z:Rat)) tE
  have nz:((d4 1 1 1 1 R1 R2 R3 R4 R2 R3 R4 R5 R3 R4 R5 R6:Int):Rat)≠0:=by exact_mod_cast ne
  generalize d4 1 1 1 1 R1 R2 R3 R4 R2 R3 R4 R5 R3 R4 R5 R6=BB at *
  generalize (d4 (R0) (R0+R1) (R0+R1+R2) (R0+R1+R2+R3) R1 R2 R3 R4 R2 R3 R4 R5 R3 R4 R5 R6)=AA at *
  push_cast at h ⊢
  have hP:(((v:Rat)-u)*((v:Rat)-w)*((v:Rat)-y))≠0:=λe=>(bZ.mp e).elim (λe=>(bZ.mp e).elim xE BJ) Q1
  have f:=Je (A:=AA) (B:=BB) (W:=(v:Rat)^6) (P:=(((v:Rat)-u)*((v:Rat)-w)*((v:Rat)-y))) (N:=((c:Rat)*v*(((v:Rat)-w)*((v:Rat)-y))+(d:Rat)*v*(((v:Rat)-u)*((v:Rat)-y))+(e:Rat)*v*(((v:Rat)-u)*((v:Rat)-w)))) h nz (GO V0 _) hP
  rw[f]
  exact n3 xE BJ Q1
 ·rw[Du,hE,ah]
  generalize ((u-w)^2*(u-y)^2*(w-y)^2)=DD
  grind
 ·rw[Dt,zE]
 ·rw[kD];exact(DX Cc Cd Ce v5 BK Q2 (vQ iK uw) (vQ iK uy) (vQ iK wy))
 ·intro q hq
  simp only[KP,aC,bT,or_false] at hq
  have s1:=rd hv ⟨u1,u2⟩
  have s2:=rd hv ⟨w1,w2⟩
  have s3:=rd hv ⟨y1,y2⟩
  rcases hq with rfl | rfl | rfl | rfl
  ·exact uE 99
  ·exact kz (by exact rl 0x6a4840a46100 rfl) (xl (rR (rR s1 s2) s3))
  ·exact kz (by exact rl 0x6a4840a48200 rfl) (rR (rR (qc s1 s2) (qc s1 s3)) (qc s2 s3))
  ·exact kz (by exact rl 0x6a4840a42100 rfl) (xl (qc (qc s1 s2) s3))
 ·rw[kD,J5 (DX Cc Cd Ce v5 BK Q2 (vQ iK uw) (vQ iK uy) (vQ iK wy)),gl]
  exact Ke BM J7 xy1
end
end
section
theorem uH {α σ:Type}(inj:α→DV) (R:σ→au→Prop) (step:σ→α→Option σ){bd:DV→au→Option au}{b:au→Option Out} :
  ∀ (l:List α) (s s':σ) (ρ:au),l.foldlM step s=some s'→R s ρ→(∀ s a s₁ ρ,a∈l→R s ρ→step s a=some s₁→∃ ρ',R s₁ ρ'∧(bd (inj a) ρ).bind b=some (.bU ρ')) →
  ∃ ρ',R s' ρ'∧fN bd b (l.map inj) ρ=some (.bU ρ')
 | [],s,s',ρ,h,h0,_=>by
  cases h
  exact⟨ρ,h0,rfl⟩
 | a::l,s,s',ρ,h,h0,hs=>by
  rw[List.foldlM_cons] at h
  refine kC (step s a) (λcI=>?_) (λs₁ cI=>?_)
  ·have h:=cI▸h;cases h
  ·have h:=cI▸h
   refine aT (hs s a s₁ ρ (.head _) h0 cI) λρ₁ h1 h2=>?_
   refine aT (uH inj R step l s₁ s' ρ₁ h h1 λs a s₁ ρ h'=>hs s a s₁ ρ (.tail _ h')) λρ' h3 h4=>?_
   refine⟨ρ',h3,?_⟩
   rw[a8,zT]
   cases hb:bd (inj a) ρ with
   | none=>have h2:=hb▸h2;cases h2
   | some ρ₂=>
    rw[hb] at h2
    simp only[ao] at h2 ⊢
    exact(ak h2)▸h4
noncomputable def kR {σ:Type}(go:σ→Bool) (nx:σ→Option σ):Nat→σ→Option σ
 | 0,_=>none
 | n+1,s=>if go s then (nx s).bind (kR go nx n) else some s
theorem Ot {σ:Type}{go:σ→Bool}{nx:σ→Option σ}:∀ n s,kR go nx (n+1) s=(if go s then (nx s).bind (kR go nx n) else some s):=λ_ _=>rfl
theorem vY {σ:Type}(R:σ→au→Prop) (go:σ→Bool) (nx:σ→Option σ){t:au→Option Bool}{b:au→Option Out}
  (ht:∀ s ρ,R s ρ→t ρ=some (go s)) (hb:∀ s s' ρ,R s ρ→go s=true→nx s=some s'→∃ ρ',b ρ=some (.bU ρ')∧R s' ρ') :
  ∀ (F n:Nat) (s z:σ) (ρ:au),F≤n→kR go nx F s=some z→R s ρ→∃ ρ',R z ρ'∧eT t b n ρ=some (.bU ρ')
 | 0,n,s,z,ρ,_,h,_=>by cases h
 | F+1,0,s,z,ρ,h,_,_=>by lia
 | F+1,n+1,s,z,ρ,hF,h,r=>by
  rw[xx]
  refine(ak (ht s ρ r))▸?_
  rw[Ot] at h
  cases hg:go s with
  | false=>
   have h:=hg▸h
   cases h
   exact⟨ρ,r,by simp⟩
  | true=>
   have h:=(if_pos rfl)▸hg▸h
   cases hn:nx s with
   | none=>have h:=hn▸h;cases h
   | some s'=>
    have h:=hn▸h
    refine aT (hb s s' ρ r hg hn) λρ₁ h1 h2=>?_
    simp only[ao,if_true,h1]
    exact vY R go nx ht hb F n s' z ρ₁ (by exact AX _ _ hF) h h2
noncomputable def ng (a b:Int):Option Int:=if cj a b then some (a*b) else none
theorem xv {a b c:Int}(h:ng a b=some c):cj a b=true∧c=a*b:=by
 unfold ng at h
 split at h
 ·rename_i h1;cases h;exact⟨h1,rfl⟩
 ·cases h
theorem lZ {l:List Int}(h:l.length≤bh):bi (ae "len") [.af (il l)]=some (.int (l.length:Int)):=by simp only[jo,jI,il,ag,jO,↓reduceIte,h]
theorem vX {l:List Int}(hl:l.length≤bh) (h0:0<l.length):iJ (.af (il l)) (.af (.int (-1)))=some (.af (.int (gi l (l.length-1)))):=by
 have e:eI l.length (-1)=some (l.length-1):=by
  unfold eI
  rw[if_pos hl,if_neg (by decide),if_pos (by exact rl 0x4690471615b90901 rfl _ h0)]
  congr 1;exact rl 0x7d92147a904716101 rfl _
 simp only[ro,il,ag,e,ao,aU,rU (show l.length-1<l.length by exact xf _ h0),aD]
section
variable {K n:Nat}{p:List Int}
theorem Y8:T (S "zdegree")=some (av 22):=by kernel_rfl
theorem Y2:(av 22).params=[S "p"]:=by kernel_rfl
theorem y8J:(av 22).PN=[]:=by kernel_rfl
theorem YF:(av 22).M=[]:=by kernel_rfl
theorem oT (hn:1≤n) (hp:p.length≤1000):aw T K n (S "zdegree") [.af (il p)]=some (.int ((p.length:Int)-1),[.af (il p)]):=by
 apply nS hn;intro m hn
 refine eR Y8 Y2 y8J YF rfl rfl ⟨[((ae "p"),.af (il p))],?_⟩
 refine fZ (jQ ?_)
 exact qe λq=>q rfl (@lZ p (by exact mY _ hp))
theorem Uv:T (S "zlead")=some (av 23):=by kernel_rfl
theorem Ut:(av 23).params=[S "p"]:=by kernel_rfl
theorem Xi:(av 23).PN=[]:=by kernel_rfl
theorem U1:(av 23).M=[]:=by kernel_rfl
theorem Gs (hn:1≤n) (hp:p.length≤1000) (h0:0<p.length):aw T K n (S "zlead") [.af (il p)]=some (.int (gi p (p.length-1)),[.af (il p)]):=by
 apply nS hn;intro m hn
 refine eR Uv Ut Xi U1 rfl rfl ⟨[((ae "p"),.af (il p))],?_⟩
 refine fZ (jQ ?_)
 exact qe λq=>q rfl (@lZ p (by exact mY _ hp)) (ct (Fq _ h0:(0:Int)<(p.length:Int))) rfl (@vX p (by exact mY _ hp) h0)
theorem Tq:T (S "zneg")=some (av 25):=by kernel_rfl
theorem SH:(av 25).params=[S "p"]:=by kernel_rfl
theorem Uq:(av 25).PN=[]:=by kernel_rfl
theorem Tb:(av 25).M=[]:=by kernel_rfl
theorem VY (hn:1≤n) (hp:p.length≤1000):aw T K n (S "zneg") [.af (il p)]=some (il (p.map λx=>-x),[.af (il p)]):=by
 apply nS hn;intro m hn
 refine eR Tq SH Uq Tb rfl rfl ⟨[((ae "p"),.af (il p))],?_⟩
 refine fZ (jQ ?_)
 refine(ak (show il (p.map λx=>-x)=.list (p.map λx=>.int (-x)) by rw[il,aN];rfl))▸?_
 refine mI (α:=Int) (λi=>.int i) (λx=>.int (-x)) ?_ ?_ (by exact mY _ hp) ?_
 ·kernel_rfl
 ·exact qi λq=>q rfl
 ·intro x _
  refine⟨[((ae "number"),.af (.int x))],?_,?_⟩
  ·kernel_rfl
  ·exact qe λq=>q rfl
noncomputable def jT (p:List Int) (k:Int):List Int:=if k=0 then [] else p.map λx=>x*k
theorem Xz:T (S "zscale")=some (av 27):=by kernel_rfl
theorem Xr:(av 27).params=[S "p",S "k"]:=by kernel_rfl
theorem YX:(av 27).PN=[]:=by kernel_rfl
theorem Xh:(av 27).M=[]:=by kernel_rfl
theorem zW {k:Int}(hn:1≤n) (hp:p.length≤1000) (hm:∀ x∈p,cj x k=true):aw T K n (S "zscale") [.af (il p),.af (.int k)]=some (il (jT p k),[.af (il p),.af (.int k)]):=by
 apply nS hn;intro m hn
 refine eR Xz Xr YX Xh rfl rfl ⟨[((ae "p"),.af (il p)),((ae "k"),.af (.int k))],?_⟩
 have fs:ev (λg us=>aw T K m g us) (Lp (b8 (ay (av 27).body [0]))) [((ae "p"),.af (il p)),((ae "k"),.af (.int k))]=some (.af (il (p.map λx=>x*k))):=by
  rw[show il (p.map λx=>x*k)=.list (p.map λx=>.int (x*k)) by rw[il,aN];rfl]
  refine mI (α:=Int) (λi=>.int i) (λx=>.int (x*k)) ?_ ?_ (by exact mY _ hp) ?_
  ·kernel_rfl
  ·exact qi λq=>q rfl
  ·intro x hx
   refine⟨[((ae "number"),.af (.int x)),((ae "k"),.af (.int k))],?_,?_⟩
   ·kernel_rfl
   ·exact qe λq=>q rfl rfl (fY (hm x hx))
 refine fZ (jQ ?_)
 by_cases h0:k=0
 ·exact qe λq=>a7 (q rfl (nf (by exact FE _ h0))) (by(simp only[h0];kernel_rfl))
 ·exact qe λq=>a7 (q rfl (nt h0) fs) (by simp[h0,jT])
noncomputable def nF (p:List Int) (k:Nat):List Int:=if p.length=0 then [] else ax k 0++p
theorem Xy:T (S "zraise")=some (av 28):=by kernel_rfl
theorem Xp:(av 28).params=[S "p",S "many"]:=by kernel_rfl
theorem YM:(av 28).PN=[]:=by kernel_rfl
theorem Xg:(av 28).M=[]:=by kernel_rfl
theorem JU {k:Nat}(hn:1≤n) (hp:p.length≤1000) (hk:k≤256):aw T K n (S "zraise") [.af (il p),.af (.int (k:Int))]=some (il (nF p k),[.af (il p),.af (.int (k:Int))]):=by
 apply nS hn;intro m hn
 refine eR Xy Xp YM Xg rfl rfl ⟨[((ae "p"),.af (il p)),((ae "many"),.af (.int (k:Int)))],?_⟩
 have b:=@lZ p (by exact mY _ hp)
 have b2:bi (ae "list") [.af (il p)]=some (il p):=by simp only[vw,pO,il,ag,jO,↓reduceIte,show p.length≤bh by exact mY _ hp]
 show cA _ _ _ _ (.Return (some _) _::[]) [((ae "p"),.af (il p)),((ae "many"),.af (.int (k:Int)))]=_
 refine fZ (jQ ?_)
 have e2:(0:Int)≤(k:Int)∧(k:Int)≤1000∧(0+1)*(k:Int).toNat≤256:=rl 0x3ff6a4002603e8222b014e18223042da90008801 rfl _ hk
 by_cases h0:p.length=0
 ·have Hl:¬ (0:Int)<(p.length:Int):=by exact rl 0xbca085bd2801 rfl _ h0
  simp only[oP,gR,qS,xg,j',pZ,eK,fy,It,gn,cT,a5,b,cy,gA,gN,IG,jO,↓reduceIte,String.reduceEq,aW,show 0≤bh by exact rl 0x1a9000000008900 rfl,nF,h0]
  rfl
 ·have Hl:(0:Int)<(p.length:Int):=by exact rl 0x9410bbbd2801 rfl _ h0
  have e3:k+p.length≤bh:=rl 0x35200000001188405a9000880b52029c2802 rfl _ _ hp hk
  simp only[il] at b b2
  simp only[oP,gR,qS,xg,j',pZ,eK,fy,It,gn,cT,a5,b,b2,cy,gA,gN,IG,Hl,decide_true,jO,↓reduceIte,String.reduceEq,aF,aW,show 0+1≤bh by exact AM,nF,h0,rI,EH,uW,e2,Iy,il,ag,aH,bL,du,show(0+1)*k≤256 by exact rl 0x1a9000980a1a90008801 rfl _ hk,e3]
end
end
section
section
variable {K n:Nat}{p:List Int}
noncomputable def sA (a b:List Int):List Int:=fS (λq:Int=>decide (q=0)) ((az (max a.length b.length)).map λi=>gi a i+gi b i)
theorem Ua {l:List Int}{i:Nat}(h:¬ i<l.length):gi l i=0:=by simp[gi,fQ (by exact zp _ _ h:l.length≤i)]
theorem To:T (S "zadd")=some (av 24):=by kernel_rfl
theorem SF:(av 24).params=[S "a",S "b"]:=by kernel_rfl
theorem Ve:(av 24).PN=[]:=by kernel_rfl
theorem S9:(av 24).M=[]:=by kernel_rfl
theorem VW {a b:List Int}(hn:2≤n) (hK:dB K) (ha:a.length≤1000) (hb:b.length≤1000):aw T K n (S "zadd") [.af (il a),.af (il b)]=some (il (sA a b),[.af (il a),.af (il b)]):=by
 apply nS hn;intro m hn
 have b1:=@lZ a (by exact mY _ ha)
 have b2:=@lZ b (by exact mY _ hb)
 have nu:max a.length b.length≤1000:=nO.mpr ⟨ha,hb⟩
 have hq:=@PD K m ((az (max a.length b.length)).map λi=>gi a i+gi b i) (by exact vN _ hn) (by simp;exact rl 0xd4800000004f91014352029c3f2202802 rfl _ _ nu) (by unfold dB at hK;simp;exact rl 0xe40be44050d480a70fc880a1a81240000000000000000203 rfl _ _ _ hK nu)
 rw[show fS (λq:Int=>decide (q=0)) ((az (max a.length b.length)).map λi=>gi a i+gi b i)=sA a b from rfl] at hq
 generalize hM:max a.length b.length=Mx at *
 have z:cm [S "a",S "b"] [OT.af (il a),.af (il b)]=[((ae "a"),.af (il a)),((ae "b"),.af (il b))]:=rfl
 refine eR To SF Ve S9 rfl rfl ?_
 refine(ak z)▸?_
 generalize hρ:put (ae "size") (.af (.int (Mx:Int))) ([((ae "a"),.af (il a)),((ae "b"),.af (il b))]:au)=ρ
 have l1:aj (ae "a") ρ=some (.af (il a)):=by subst hρ;exact(ln rfl rfl)
 have l2:aj (ae "b") ρ=some (.af (il b)):=by subst hρ;exact(ln rfl rfl)
 have l3:aj (ae "size") ρ=some (.af (.int (Mx:Int))):=by subst hρ;exact lq
 have fs:ev (λg us=>aw T K m g us) (fB (b8 (ay (av 24).body [1])) 0) ρ=some (.af (il ((az Mx).map λi=>gi a i+gi b i))):=by
  rw[show il ((az Mx).map λi=>gi a i+gi b i)=.list ((az Mx).map λi=>.int (gi a i+gi b i)) by rw[il,aN];rfl]
  refine mI (α:=Nat) (λi=>.int (i:Int)) (λi=>.int (gi a i+gi b i)) ?_ ?_ (by simp;exact mY _ nu) ?_
  ·kernel_rfl
  ·refine t4 rfl ?_ (by exact mY _ nu)
   exact qe λq=>q l3
  ·intro i _
   refine⟨[((ae "at"),.af (.int (i:Int))),((ae "a"),.af (il a)),((ae "b"),.af (il b))],?_,?_⟩
   ·kernel_rfl
   ·have one:∀ (l:List Int) (x:String) (ρ:au) (p1 p2 p3 p4 p5 p6 p7 p8 p9 Rk:Pos) (kd:Nat),l.length≤1000→bi (ae "len") [.af (il l)]=some (.int (l.length:Int))→aj (ae x) ρ=some (.af (il l))→aj (ae "at") ρ=some (.af (.int (i:Int))) →
      ev (λg us=>aw T K m g us) (.IfExp (.Compare (.Name (ae "at") p1) [.Lt] [.Call (.Name (ae "len") p2) [.Name (ae x) p3] [] p4] p5) (.Subscript (.Name (ae x) p6) (.Name (ae "at") p7) p8) (.Constant (.int 0) kd p9) Rk) ρ=some (.af (.int (gi l i))):=by
     intro l x ρ p1 p2 p3 p4 p5 p6 p7 p8 p9 Rk kd hl hb h1 h2
     by_cases h:i<l.length
     ·have h':(i:Int)<(l.length:Int):=by exact vL _ _ h
      simp only[oP,gR,xg,j',Iz,eK,fy,Iu,h1,h2,cT,a5,hb,cy,II,h',decide_true,(@uD l i (i:Int) (by exact mY _ hl) h rfl),jO,↓reduceIte,String.reduceEq]
     ·have h':¬ (i:Int)<(l.length:Int):=by exact AZ _ _ h
      refine(ak (Ua h))▸?_
      simp only[oP,gR,xg,j',Iz,eK,fy,Iu,h1,h2,cT,a5,hb,cy,II,h',decide_false,jO,↓reduceIte,String.reduceEq]
    rw[qS]
    rw[(one a "a" [((ae "at"),.af (.int (i:Int))),((ae "a"),.af (il a)),((ae "b"),.af (il b))]) _ _ _ _ _ _ _ _ _ _ _ ha b1 rfl (by simp only[gn,↓reduceIte]:aj (ae "at") ([((ae "at"),.af (.int (i:Int))),((ae "a"),.af (il a)),((ae "b"),.af (il b))]:au)=some (.af (.int (i:Int)))),(one b "b" [((ae "at"),.af (.int (i:Int))),((ae "a"),.af (il a)),((ae "b"),.af (il b))]) _ _ _ _ _ _ _ _ _ _ _ hb b2 rfl (by simp only[gn,↓reduceIte]:aj (ae "at") ([((ae "at"),.af (.int (i:Int))),((ae "a"),.af (il a)),((ae "b"),.af (il b))]:au)=some (.af (.int (i:Int))))]
    rfl
 refine⟨ρ,cV (ρ':=ρ) ?_ (fZ (jQ ?_))⟩
 ·refine hρ▸?_
  refine lH rfl ?_
  have e:(if (a.length:Int)<(b.length:Int) then (b.length:Int) else (a.length:Int))=(Mx:Int):=by split<;>lia
  exact qe λq=>q rfl b1 rfl b2 (by simp only[tL,e]:bi (ae "max") [.af (.int (a.length:Int)),.af (.int (b.length:Int))]=some (.int (Mx:Int)))
 ·exact qe λq=>q fs hq
theorem Ts:T (S "zsub")=some (av 26):=by kernel_rfl
theorem SI:(av 26).params=[S "a",S "b"]:=by kernel_rfl
theorem Ur:(av 26).PN=[]:=by kernel_rfl
theorem Tc:(av 26).M=[]:=by kernel_rfl
theorem Jb {a b:List Int}(hn:3≤n) (hK:dB K) (ha:a.length≤1000) (hb:b.length≤1000):aw T K n (S "zsub") [.af (il a),.af (il b)]=some (il (sA a (b.map λx=>-x)),[.af (il a),.af (il b)]):=by
 apply nS hn;intro m hn
 refine eR Ts SI Ur Tc rfl rfl ⟨[((ae "a"),.af (il a)),((ae "b"),.af (il b))],?_⟩
 refine fZ (jQ ?_)
 exact qe λq=>q rfl rfl (@VY K m b (by exact rl 0x35090b5890a12301 rfl _ hn) hb) (@VW K m a (b.map λx=>-x) (by exact vM _ hn) hK ha (by rw[ag];exact hb))
theorem y4i:T (S "check_bottom")=some (av 59):=by kernel_rfl
theorem y4n:(av 59).params=[S "p"]:=by kernel_rfl
theorem y47:(av 59).PN=[]:=by kernel_rfl
theorem y4w:(av 59).M=[]:=by kernel_rfl
theorem QY (hn:1≤n) (hp:p.length≤1000) (h0:0<p.length):aw T K n (S "check_bottom") [.af (il p)]=some (.none,[.af (il p)]):=by
 apply nS hn;intro m hn
 refine W4 y4i y4n y47 y4w rfl rfl ⟨[((ae "p"),.af (il p))],?_⟩
 refine cV (kL (c:=false) ?_ rfl) m5
 exact qb λq=>q rfl (@lZ p (by exact mY _ hp)) (cf (xc _ h0:¬ (p.length:Int)=0))
noncomputable def G2 (x:Int):Int:=if 0<x then 1 else if x<0 then -1 else 0
theorem Y7:T (S "sign_of")=some (av 74):=by kernel_rfl
theorem Y1:(av 74).params=[S "number"]:=by kernel_rfl
theorem y8K:(av 74).PN=[]:=by kernel_rfl
theorem YE:(av 74).M=[]:=by kernel_rfl
theorem ZP {x:Int}(hn:1≤n):aw T K n (S "sign_of") [.af (.int x)]=some (.int (G2 x),[.af (.int x)]):=by
 apply nS hn;intro m hn
 refine eR Y7 Y1 y8K YE rfl rfl ⟨[((ae "number"),.af (.int x))],?_⟩
 refine fZ (jQ ?_)
 have e:b2i (decide (0<x))-b2i (decide (x<0))=G2 x:=by
  unfold G2 b2i
  rcases vG x 0 with h | h | h
  ·simp[h,show ¬ 0<x by exact rl 0x5e4a5c96a10 rfl _ h]
  ·subst h;rfl
  ·simp[h,show ¬ x<0 by exact rl 0x5e4b5494b10 rfl _ h]
 exact qe λq=>a7 (q rfl rfl rfl rfl rfl) (by simp only[e])
theorem y7c:T (S "linear_of")=some (av 89):=by kernel_rfl
theorem y7h:(av 89).params=[S "x"]:=by kernel_rfl
theorem y6v:(av 89).PN=[]:=by kernel_rfl
theorem y7q:(av 89).M=[]:=by kernel_rfl
theorem y6f {x:Rat}(hn:1≤n):aw T K n (S "linear_of") [.af (qv x)]=some (il [-x.num,(x.den:Int)],[.af (qv x)]):=by
 apply nS hn;intro m hn
 refine eR y7c y7h y6v y7q rfl rfl ⟨[((ae "x"),.af (qv x))],?_⟩
 refine fZ (jQ ?_)
 exact qe λq=>q rfl rfl rfl rfl
noncomputable def GX (t b:Int) (s:Int×Int) (c:Int):Option (Int×Int):=(ng s.1 t).bind λx=>(ng c s.2).bind λy=>(ng s.2 b).bind λz=>some (x+y,z)
noncomputable def GV (p:List Int) (x:Rat):Option Int:=(p.reverse.foldlM (GX x.num x.den) (0,1)).map λs=>G2 s.1
theorem y6o:T (S "value_sign")=some (av 75):=by kernel_rfl
theorem y6r:(av 75).params=[S "p",S "x"]:=by kernel_rfl
theorem y5D:(av 75).PN=[]:=by kernel_rfl
theorem y6z:(av 75).M=[]:=by kernel_rfl
theorem y5f {x:Rat}{r:Int}(hn:2≤n) (hp:p.length≤1000) (h:GV p x=some r):aw T K n (S "value_sign") [.af (il p),.af (qv x)]=some (.int r,[.af (il p),.af (qv x)]):=by
 apply nS hn;intro m hn
 unfold GV at h
 refine kC (p.reverse.foldlM (GX x.num x.den) (0,1)) (λhf=>?_) (λs hf=>?_)
 ·have h:=hf▸h;cases h
 ·rw[hf] at h
  cases h
  refine eR y6o y6r y5D y6z rfl rfl ?_
  refine(ak ((rfl:cm [S "p",S "x"] [OT.af (il p),.af (qv x)]=[((ae "p"),.af (il p)),((ae "x"),.af (qv x))])))▸?_
  generalize hρ:put (ae "scale") (.af (.int 1)) (put (ae "found") (.af (.int 0)) (put (ae "bottom") (.af (.int (x.den:Int))) (put (ae "top") (.af (.int x.num)) ([((ae "p"),.af (il p)),((ae "x"),.af (qv x))]:au))))=ρ
  have l1:aj (ae "p") ρ=some (.af (il p)):=by subst hρ;exact(ln rfl (ln rfl (ln rfl (ln rfl rfl))))
  obtain⟨ρ',⟨q1,q2,q3,q4⟩,hL⟩:=uH (bd:=bp (dH (ay (av 75).body [2]))) (b:=λρ'=>cA (λg us=>aw T K m g us) [] [] K (bG (ay (av 75).body [2])) ρ') (λi:Int=>DV.int i)
   (λ(s:Int×Int) ρ=>aj (ae "top") ρ=some (.af (.int x.num))∧aj (ae "bottom") ρ=some (.af (.int (x.den:Int)))∧aj (ae "found") ρ=some (.af (.int s.1))∧aj (ae "scale") ρ=some (.af (.int s.2)))
   (GX x.num x.den) p.reverse (0,1) s ρ hf (by subst hρ;refine⟨?_,?_,?_,?_⟩<;>(first | exact(ln rfl (ln rfl (ln rfl lq))) | exact(ln rfl (ln rfl lq)) | exact(ln rfl lq) | exact lq)) (by
    rintro s c s₁ ρ _ ⟨h1,h2,h3,h4⟩ cI
    unfold GX at cI
    simp only[aJ] at cI
    refine Yn cI λa1 e1 a2 e2 a3 e3 e4=>?_;clear cI
    cases e4
    obtain⟨m1,rfl⟩:=xv e1
    obtain⟨m2,rfl⟩:=xv e2
    obtain⟨m3,rfl⟩:=xv e3
    refine⟨put (ae "scale") (.af (.int (s.2*x.den))) (put (ae "found") (.af (.int (s.1*x.num+c*s.2))) (put (ae "coefficient") (.af (.int c)) ρ)),⟨?_,?_,?_,?_⟩,?_⟩
    ·exact(ln rfl (ln rfl (ln rfl h1)))
    ·exact(ln rfl (ln rfl (ln rfl h2)))
    ·exact(ln rfl lq)
    ·exact lq
    ·exact oV λq=>q true h3 h1 (fY m1) h4 (fY m2) true h4 h2 (fY m3))
  have lp:(p.map DV.int).length≤bh:=by rw[ag];exact mY _ hp
  rw[←hρ] at hL
  refine⟨ρ',?_⟩
  exact gL λq=>q true rfl (rfl:([ae "top",ae "bottom"]:List Str).length=[DV.int x.num,DV.int x.den].length) rfl lp hL (by exact(ak eE)▸rfl:(p.map DV.int).reverse=p.reverse.map DV.int) true q3 (@ZP K m s.1 (by exact vN _ hn))
end
end
section
noncomputable def hS (l:List Int):Bool:=decide (l.length≤200)&&l.all λx=>decide (x.natAbs<2^64)
theorem iP {l:List Int}(h:hS l=true):l.length≤200:=by
 unfold hS at h;simp only[aY,decide_eq_true_eq] at h;exact h.1
theorem xB {l:List Int}{k:Int}(h:hS l=true) (hk:k.natAbs<2^64):∀ x∈l,cj x k=true:=by
 unfold hS at h
 simp only[aY,decide_eq_true_eq,aA] at h
 exact λx hx=>gT (A:=64) (B:=64) (h.2 x hx) hk (by exact Fj)
section
variable {K n:Nat}
noncomputable def aV (l:List Int):Int:=gi l (l.length-1)
noncomputable def uz (b:List Int) (s:List Int×List Int):Bool:=decide (b.length≤s.1.length)
noncomputable def HJ (b:List Int) (s:List Int×List Int):Option (List Int×List Int):=
 if (hS s.1&&hS s.2&&decide (aV b≠0)&&decide ((aV s.1).fmod (aV b)=0)&&decide (s.1.length-b.length<s.2.length)&&decide (((aV s.1).fdiv (aV b)).natAbs<2^64))=true then
  some (sA s.1 ((nF (jT b ((aV s.1).fdiv (aV b))) (s.1.length-b.length)).map λx=>-x),s.2.set (s.1.length-b.length) ((aV s.1).fdiv (aV b)))
 else none
noncomputable def zx (a b:List Int):Option (List Int):=
 if (hS a&&hS b&&decide (0<b.length))=true then
  (kR (uz b) (HJ b) 100 (a,ax (a.length+1-b.length) 0)).bind λs=>if (hS s.2&&decide (s.1.length=0))=true then some (fS (λq:Int=>decide (q=0)) s.2) else none
 else none
theorem Po (a b:List Int):(sA a b).length≤max a.length b.length:=by
 unfold sA
 have:=t8 (λq:Int=>decide (q=0)) ((az (max a.length b.length)).map λi=>gi a i+gi b i)
 simpa using this
theorem Xx:T (S "zexact")=some (av 60):=by kernel_rfl
theorem Xo:(av 60).params=[S "a",S "b"]:=by kernel_rfl
theorem YL:(av 60).PN=[]:=by kernel_rfl
theorem Xf:(av 60).M=[(S "found",1)]:=by kernel_rfl
noncomputable def Hu (b:List Int) (s:List Int×List Int) (ρ:au):Prop:=aj (ae "b") ρ=some (.af (il b))∧aj (ae "rest") ρ=some (.af (il s.1))∧aj (ae "found") ρ=some (oz s.2)∧s.1.length≤1000
theorem WJ {b:List Int}{s:List Int×List Int}{ρ:au}(lb:b.length≤200) (h:Hu b s ρ):fx (λg us=>aw T K m g us) (dG (ay (av 60).body [2])) ρ=some (uz b s):=
 qb λq=>(q h.2.1 (@lZ s.1 (by exact mY _ h.2.2.2)) h.1 (@lZ b (by exact jN _ lb)) rfl).trans (congrArg some (decide_eq_decide.mpr dv))
theorem WK {b:List Int}{s s':List Int×List Int}{ρ:au}(hn:3+1≤m+1) (hK:dB K) (gb:hS b=true) (b0:0<b.length) (h:Hu b s ρ) (yu:uz b s=true) (cI:HJ b s=some s') :
  ∃ ρ',cA (λg us=>aw T K m g us) [] [(S "found",1)] K (bG (ay (av 60).body [2])) ρ=some (.bU ρ')∧Hu b s' ρ':=by
 have lb:=iP gb
 have yR:=@lZ b (by exact jN _ lb)
 refine jR h λh1 h2 h3 h4=>?_
 have pL:b.length≤s.1.length:=of_decide_eq_true yu
 refine gg cI λhc cI=>?_
 have cI:=ai cI
 subst cI
 have hc:=a6 hc
 have c6:=of_decide_eq_true hc.2
 have hc:=a6 hc.1
 have c5:=of_decide_eq_true hc.2
 have hc:=gI hc.1
 have c4:=of_decide_eq_true hc.2
 have c3:=of_decide_eq_true hc.1.2
 have hc:=a6 hc.1.1
 have c1:=hc.1
 have c2:=hc.2
 have ls:=iP c1
 have i1:=@vX s.1 (by exact jN _ ls) (by exact AU _ _ b0 pL)
 have i2:=@vX b (by exact jN _ lb) b0
 rw[show gi s.1 (s.1.length-1)=aV s.1 from rfl] at i1
 rw[show gi b (b.length-1)=aV b from rfl] at i2
 have l3:=Po s.1 ((nF (jT b ((aV s.1).fdiv (aV b))) (s.1.length-b.length)).map λx=>-x)
 have l4:(jT b ((aV s.1).fdiv (aV b))).length≤b.length:=by unfold jT;split<;>simp
 have l5:(nF (jT b ((aV s.1).fdiv (aV b))) (s.1.length-b.length)).length≤s.1.length:=by
  unfold nF;split
  ·simp
  ·rw[aR,aH];exact rl 0x3501622c81202d4090d4050203 rfl _ _ _ pL l4
 rw[ag] at l3
 have e1:=@zW K m b ((aV s.1).fdiv (aV b)) (by exact oN _ hn) (by exact ir _ lb) (xB gb c6)
 have e2:=@JU K m (jT b ((aV s.1).fdiv (aV b))) (s.1.length-b.length) (by exact oN _ hn) (by exact AG _ _ lb l4) (by exact HY _ _ ls)
 have e3:=@Jb K m s.1 (nF (jT b ((aV s.1).fdiv (aV b))) (s.1.length-b.length)) (by exact pd _ hn) hK (by exact ir _ ls) (by exact AG _ _ ls l5)
 have ep:(s.1.length:Int)-(b.length:Int)=((s.1.length-b.length:Nat):Int):=Il _ _ pL
 generalize hz:nF (jT b ((aV s.1).fdiv (aV b))) (s.1.length-b.length)=zz at *
 generalize jT b ((aV s.1).fdiv (aV b))=ZS at *
 generalize hPw:s.1.length-b.length=pw at *
 have i5:eI s.2.length (pw:Int)=some pw:=kM (by exact jN _ (iP c2)) c5
 have i7:(0:Int)≤(pw:Int):=zr _
 refine⟨put (ae "rest") (.af (il (sA s.1 (zz.map λx=>-x)))) (put (ae "found") (oz (s.2.set pw ((aV s.1).fdiv (aV b)))) (put (ae "power") (.af (.int (pw:Int))) (put (ae "number") (.af (.int ((aV s.1).fdiv (aV b)))) ρ))),?_,?_,?_,?_,?_⟩
 ·simp only[oz] at h3
  rw[←ep] at i5 i7 e2
  exact gL λq=>a7 (q h2 i1 h1 i2 (qd c3) (nf (by exact FE _ c4)) h2 i1 h1 i2 (nH c3) h2 (@lZ s.1 (by exact jN _ ls)) h1 yR true true h3 (qU i5) i7 (sF (rU c5:s.2[pw]?=some (gi s.2 pw))) true h2 h1 e1 e2 e3) (by simp only[QO.out,cR,sV,ep,oz,cL])
 ·exact(ln rfl (ln rfl (ln rfl (ln rfl h1))))
 ·exact lq
 ·exact(ln rfl lq)
 ·dsimp only;exact rl 0x352029c2813501437e4420281352008d0103 (by kernel_rfl) _ _ _ ls l3 l5
theorem Zh {a b r:List Int}(hn:4≤n) (hK:dB K) (h:zx a b=some r):aw T K n (S "zexact") [.af (il a),.af (il b)]=some (il r,[.af (il a),.af (il b)]):=by
 apply nS hn;intro m hn
 refine gg h λhg h=>bJ h λs hs h=>gg h λl7 h=>?_
 have hg:=gI hg
 have ga:=hg.1.1
 have gb:=hg.1.2
 have b0:=of_decide_eq_true hg.2
 have l7:=a6 l7
 have g2:=l7.1
 have g3:=of_decide_eq_true l7.2
 have h:=ai h
 subst h
 have la:=iP ga
 have lb:=iP gb
 refine eR Xx Xo YL Xf rfl rfl ?_
 have z:cm [S "a",S "b"] [OT.af (il a),.af (il b)]=[((ae "a"),.af (il a)),((ae "b"),.af (il b))]:=rfl
 refine(ak z)▸?_
 generalize dz:([((ae "a"),.af (il a)),((ae "b"),.af (il b))]:au)=ρ0
 have a1:aj (ae "a") ρ0=some (.af (il a)):=by subst dz;simp only[gn,↓reduceIte]
 have a2:aj (ae "b") ρ0=some (.af (il b)):=by subst dz;simp only[gn,↓reduceIte,String.reduceEq]
 clear dz z
 have yR:=@lZ b (by exact jN _ lb)
 refine aT (vY (t:=fx (λg us=>aw T K m g us) (dG (ay (av 60).body [2]))) (b:=λρ'=>cA (λg us=>aw T K m g us) [] [(S "found",1)] K (bG (ay (av 60).body [2])) ρ') (Hu b) (uz b) (HJ b) (λs ρ h=>WJ lb h) (λs s' ρ h=>WK hn hK gb b0 h)
  100 K (a,ax (a.length+1-b.length) 0) s (put (ae "found") (oz (ax (a.length+1-b.length) 0)) (put (ae "rest") (.af (il a)) ρ0)) (by unfold dB at hK;exact zu _ hK) hs
  (by refine⟨?_,?_,?_,by dsimp only;exact ir _ la⟩<;>(first | exact(ln rfl (ln rfl a2)) | exact(ln rfl lq) | exact lq))) λρ' hR hL=>?_
 refine jR hR λq1 q2 q3 q4=>?_
 simp only[oz] at q3
 have f3:=pg q3 (by simp only[mr,Qh])
 have f2:=pg q2 rfl
 simp only[mx,yD,OU] at f2 f3
 have hq:=@PD K m s.2 (by exact oN _ hn) (by exact jN _ (iP g2)) (by unfold dB at hK;exact rl 0x720286a4011a1a80a40000000000000000202 rfl _ _ hK (iP g2))
 simp only[S,il] at hq
 have R7:(s.1.length:Int)=0:=rl 0x4d7043d2801 rfl _ g3
 have e1:(if (0:Int)<(a.length:Int)-(b.length:Int)+1 then (a.length:Int)-(b.length:Int)+1 else 0)=((a.length+1-b.length:Nat):Int):=Rr _ _
 have b3:bi (ae "max") [.af (.int 0),.af (.int ((a.length:Int)-(b.length:Int)+1))]=some (.int ((a.length+1-b.length:Nat):Int)):=by simp only[tL,e1]
 rw[(by simp only[oz,dK]:oz (ax (a.length+1-b.length) 0)=.own ((ax (a.length+1-b.length) (DV.int 0)).map .af))] at hL
 have fs:eN (λg us=>aw T K m g us) [] (b8 (ay (av 60).body [3])) ρ'=some (.af (il (fS (λq:Int=>decide (q=0)) s.2)),bo (b8 (ay (av 60).body [3])),bX [] ρ'):=by
  refine uF ?_ rfl ?_
  ·show(ev _ (.IfExp (.Compare (.Call (.Name _ _) [.Name _ _] [] _) _ _ _) (.Call (.Name _ _) [.Name _ _] [] _) _ _) _).bind _=_
   simp only[oP,D9,gR,xg,j',eK,fy,El,q2,q3,cT,a5,(@lZ s.1 (by exact rl 0xd480000000443d2801 rfl _ g3)),gA,gN,cy,kS,fO,UP,R7,decide_true,jO,↓reduceIte,String.reduceEq]
  ·exact qe λq=>q f2 (@lZ s.1 (by exact rl 0xd480000000443d2801 rfl _ g3)) (ct (by exact AW _ R7)) f3 hq
 refine⟨bX [] ρ',?_⟩
 exact gL λq=>q true true a2 (@QY K m b (by exact oN _ hn) (by exact ir _ lb) b0) a1 (by simp only[vw,pO,il,ag,jO,↓reduceIte,show a.length≤bh by exact jN _ la]:bi (ae "list") [.af (il a)]=some (il a)) a1 (@lZ a (by exact jN _ la)) a2 yR b3 (vW rfl (rl 0x3520012c8624280b52008d0102 rfl _ _ la:a.length+1-b.length≤256)) hL false false fs
end
end
section
noncomputable def oc (a:Int):List Int→List Int
 | []=>[a]
 | b::l=>if a≤b then a::b::l else b::oc a l
theorem F2 {a:Int}:oc a []=([a]):=rfl
theorem A9 {a:Int}:∀ b l,oc a (b::l)=(if a≤b then a::b::l else b::oc a l):=λ_ _=>rfl
noncomputable def gH:List Int→List Int
 | []=>[]
 | a::l=>oc a (gH l)
theorem Oe :gH []=([]):=rfl
theorem Of :∀ a l,gH (a::l)=(oc a (gH l)):=λ_ _=>rfl
theorem JV (a:Int):∀ l,(oc a l).Perm (a::l)
 | []=>.refl _
 | b::l=>by
  rw[A9]
  split
  ·exact .refl _
  ·exact((JV a l).cons b).trans (.swap a b l)
theorem Qb:∀ l,(gH l).Perm l
 | []=>.refl _
 | a::l=>(JV a (gH l)).trans ((Qb l).cons a)
theorem QC (a:Int):∀ l:List Int,l.Pairwise (λa b=>decide (a≤b)=true)→(oc a l).Pairwise (λa b=>decide (a≤b)=true)
 | [],_=>by simp[F2]
 | b::l,h=>by
  rw[gP] at h
  rw[A9]
  split
  ·rename_i rB
   rw[gP]
   refine⟨λc hc=>?_,gP.mpr h⟩
   rcases aC.mp hc with rfl | hc
   ·simpa using rB
   ·have:=h.1 c hc
    simp only[decide_eq_true_eq] at this ⊢
    exact HX _ _ _ rB this
  ·rename_i rB
   rw[gP]
   refine⟨λc hc=>?_,QC a l h.2⟩
   rcases aC.mp ((JV a l).mem_iff.mp hc) with rfl | hc
   ·simp only[decide_eq_true_eq];exact rl 0x11528378a82a20 rfl _ _ rB
   ·exact h.1 c hc
theorem QD:∀ l:List Int,(gH l).Pairwise (λa b=>decide (a≤b)=true)
 | []=>.nil
 | a::l=>QC a _ (QD l)
theorem Qc (l:List Int):ft l=gH l:=by
 unfold ft
 refine ma (le:=λa b=>decide (a≤b)=true) ?_ ?_ (QD l) ((sd l _).trans (Qb l).symm)
 ·intro a b _ _ h1 h2
  simp only[decide_eq_true_eq] at h1 h2
  exact rl 0x9a82a8a9418a82a20 rfl _ _ h1 h2
 ·exact o7 (λa b c h1 h2=>by simp only[decide_eq_true_eq] at *;exact HX _ _ _ h1 h2) (λa b=>by simp only[Bool.or_eq_true,decide_eq_true_eq];exact rl 0x3e18a9418a82a20 rfl _ _) l
section
variable {K n:Nat}
noncomputable def z':Nat→Int→Int→Option Int
 | 0,_,_=>none
 | F+1,n,f=>if cj f f=true∧f≠0 then (if f*f≤n then (if n.fmod f=0 then some f else z' F n (f+(if f=2 then 1 else 2))) else some n) else none
theorem CY :∀ F n f,z' (F+1) n f=(if cj f f=true∧f≠0 then (if f*f≤n then (if n.fmod f=0 then some f else z' F n (f+(if f=2 then 1 else 2))) else some n) else none):=λ_ _ _=>rfl
theorem y41:T (S "least_divisor")=some (av 5):=by kernel_rfl
theorem y44:(av 5).params=[S "n",S "begin"]:=by kernel_rfl
theorem y2Z:(av 5).PN=[]:=by kernel_rfl
theorem y4b:(av 5).M=[]:=by kernel_rfl
theorem Pb {m:Nat}{nn:Int}:∀ (F N:Nat) (f r:Int) (ρ:au),F≤N→z' F nn f=some r→aj (ae "n") ρ=some (.af (.int nn))→aj (ae "found") ρ=some (.af (.int f)) →
  ∃ ρ',(eT (fx (λg us=>aw T K m g us) (dG (ay (av 5).body [1]))) (λρ'=>cA (λg us=>aw T K m g us) [] [] K (bG (ay (av 5).body [1])) ρ') N ρ=some (.ret (.int r) ρ'))∨(eT (fx (λg us=>aw T K m g us) (dG (ay (av 5).body [1]))) (λρ'=>cA (λg us=>aw T K m g us) [] [] K (bG (ay (av 5).body [1])) ρ') N ρ=some (.bU ρ')∧r=nn∧aj (ae "n") ρ'=some (.af (.int nn)))
 | 0,N,f,r,ρ,_,h,_,_=>by cases h
 | F+1,0,f,r,ρ,h,_,_,_=>by lia
 | F+1,N+1,f,r,ρ,hF,h,h1,h2=>by
  rw[CY] at h
  split at h
  case isFalse=>cases h
  rename_i hg
  refine dJ hg λg1 g2=>?_;clear hg
  rw[xx]
  have ht:fx (λg us=>aw T K m g us) (dG (ay (av 5).body [1])) ρ=some (decide (f*f≤nn)):=by
   exact qb λq=>q h2 h2 (fY g1) h1 rfl
  refine(ak ht)▸?_
  split at h
  case isFalse qq=>
   cases h
   rw[decide_eq_false qq]
   exact⟨ρ,.inr ⟨by simp,rfl,h1⟩⟩
  case isTrue qq=>
   rw[decide_eq_true qq]
   simp only[ao,if_true]
   have hb:∀ c:Bool,c=decide (nn.fmod f=0)→cA (λg us=>aw T K m g us) [] [] K (bG (ay (av 5).body [1])) ρ=if c then some (.ret (.int f) ρ) else some (.bU (put (ae "found") (.af (.int (f+(if f=2 then 1 else 2)))) ρ)):=by
    intro c hc
    cases c with
    | true=>
     have hm:=of_decide_eq_true hc.symm
     exact(ak (if_pos rfl))▸(gL λq=>q h1 h2 (qd g2) (ct (by exact FE _ hm)) true h2)
    | false=>
     refine(ak (if_neg kx))▸?_
     by_cases e2:f=2
     ·rw[if_pos e2]
      exact gL λq=>q h1 h2 (qd g2) (cf (of_decide_eq_false hc.symm)) h2 h2 (ct (by exact rl 0x9ac4a9ac4a10 rfl _ e2))
     ·rw[if_neg e2]
      exact gL λq=>q h1 h2 (qd g2) (cf (of_decide_eq_false hc.symm)) h2 h2 (cf e2)
   refine(ak (hb _ rfl))▸?_
   split at h
   case isTrue hm=>
    cases h
    rw[decide_eq_true hm]
    exact⟨ρ,.inl rfl⟩
   case isFalse hm=>
    rw[decide_eq_false hm]
    simp only[cg,if_false,ao]
    exact Pb F N _ r _ (by exact AX _ _ hF) h (by exact(ln rfl h1)) (by exact lq)
theorem QZ {nn b r:Int}(hn:1≤n) (hK:dB K) (h:z' 100 nn b=some r):aw T K n (S "least_divisor") [.af (.int nn),.af (.int b)]=some (.int r,[.af (.int nn),.af (.int b)]):=by
 apply nS hn;intro m hn
 refine eR y41 y44 y2Z y4b rfl rfl ?_
 refine(ak ((rfl:cm [S "n",S "begin"] [OT.af (.int nn),.af (.int b)]=[((ae "n"),.af (.int nn)),((ae "begin"),.af (.int b))])))▸?_
 refine gF (@Pb K m nn 100 K b r (put (ae "found") (.af (.int b)) [((ae "n"),.af (.int nn)),((ae "begin"),.af (.int b))]) (by unfold dB at hK;exact zu _ hK) h (by exact(ln rfl rfl)) (by exact lq)) λρ' hL=>?_
 refine⟨ρ',?_⟩
 rcases hL with hL | ⟨hL,rfl,hl⟩
 ·exact gL λq=>q true rfl hL
 ·exact gL λq=>q true rfl hL true hl
noncomputable def Cb (p:Int) (s:Int×Int):Bool:=decide (s.1.fmod p=0)
noncomputable def Rb (p:Int) (s:Int×Int):Option (Int×Int):=some (s.1.fdiv p,s.2+1)
structure PF where
 n:Int
 found:List (Int×Int)
 prime:Int
noncomputable def CK (s:PF):Bool:=decide (1<s.n)
noncomputable def G3 (s:PF):Option PF:=(z' 100 s.n s.prime).bind λp=>if p≠0∧s.found.length≤100 then (kR (Cb p) (Rb p) 100 (s.n,0)).bind λq=>some ⟨q.1,s.found++[(p,q.2)],if p=2 then 3 else p+2⟩ else none
noncomputable def KU (nn:Int):Option (List (Int×Int)):=(kR CK G3 100 ⟨nn,[],2⟩).map (·.found)
noncomputable def uc (l:List (Int×Int)):OT:=.own (l.map λp=>.af (pr p))
theorem V4 (ps:List (Int×Int)):mA (ps.map λp=>OT.af (pr p))=ps.map pr:=by
 induction ps with
 | nil=>rfl
 | cons a l ih=>exact congrArg (eZ _) ih
theorem TB (ps:List (Int×Int)):gM (ps.map λp=>OT.af (pr p))=true:=by
 induction ps with
 | nil=>rfl
 | cons a l ih=>exact ih
theorem y40:T (S "prime_factors")=some (av 6):=by kernel_rfl
theorem y43:(av 6).params=[S "n"]:=by kernel_rfl
theorem y2Y:(av 6).PN=[]:=by kernel_rfl
theorem y4a:(av 6).M=[(S "found",1)]:=by kernel_rfl
theorem Vs {m:Nat}{s s':PF}{ρ:au}(hm:1≤m) (hK:dB K) (h1:aj (ae "n") ρ=some (.af (.int s.n))) (h2:aj (ae "found") ρ=some (uc s.found)) (h3:aj (ae "prime") ρ=some (.af (.int s.prime))) (cI:G3 s=some s') :
  ∃ ρ',cA (λg us=>aw T K m g us) [] [(S "found",1)] K (bG (ay (av 6).body [1])) ρ=some (.bU ρ')∧aj (ae "n") ρ'=some (.af (.int s'.n))∧aj (ae "found") ρ'=some (uc s'.found)∧aj (ae "prime") ρ'=some (.af (.int s'.prime)):=by
 unfold G3 at cI
 rw[aJ] at cI
 refine aT cI λp hp cI=>?_
 split at cI
 case isFalse=>cases cI
 rename_i hg
 refine dJ hg λp0 fl=>?_;clear hg
 rw[aJ] at cI
 refine aT cI λq hq cI=>?_
 cases cI
 obtain⟨ρ2,⟨b1,b2,b3,b4⟩,hL⟩:=vY (t:=fx (λg us=>aw T K m g us) (dG (ay (av 6).body [1,1]))) (b:=λρ'=>cA (λg us=>aw T K m g us) [] [(S "found",1)] K (bG (ay (av 6).body [1,1])) ρ')
  (λ(t:Int×Int) ρ=>aj (ae "n") ρ=some (.af (.int t.1))∧aj (ae "many") ρ=some (.af (.int t.2))∧aj (ae "prime") ρ=some (.af (.int p))∧aj (ae "found") ρ=some (uc s.found)) (Cb p) (Rb p) (by
   rintro t ρ ⟨h1,h2,h3,h4⟩
   exact qb λq=>q h1 h3 (qd p0) rfl) (by
   rintro t t' ρ ⟨h1,h2,h3,h4⟩ _ cI
   cases cI
   refine⟨put (ae "many") (.af (.int (t.2+1))) (put (ae "n") (.af (.int (t.1.fdiv p))) ρ),?_,?_,?_,?_,?_⟩
   ·exact gL λq=>q h1 h3 (nH p0) h2
   ·exact(ln rfl lq)
   ·exact lq
   ·exact(ln rfl (ln rfl h3))
   ·exact(ln rfl (ln rfl h4)))
  100 K (s.n,0) q (put (ae "many") (.af (.int 0)) (put (ae "prime") (.af (.int p)) ρ)) (by unfold dB at hK;exact zu _ hK) hq ⟨ln rfl (ln rfl h1),lq,ln rfl lq,ln rfl (ln rfl h2)⟩
 refine⟨put (ae "prime") (.af (.int (if p=2 then 3 else p+2))) (put (ae "found") (uc (s.found++[(p,q.2)])) ρ2),?_,ln rfl (ln rfl b1),ln rfl lq,lq⟩
 simp only[uc] at b4
 have gl:(s.found.map λq=>OT.af (pr q)).length+1≤bh:=by rw[ag];exact rl 0x352000000011890a1a92102801 rfl _ fl
 by_cases e:p=2
 ·rw[if_pos e]
  exact gL λq=>a7 (q h1 h3 (@QZ K m s.n s.prime p hm hK hp) hL true b4 b3 b2 gl true b3 (ct (by exact rl 0x9ac4a9ac4a10 rfl _ e))) (by simp only[QO.out,cR,uc,bL,a8,dM,pr])
 ·rw[if_neg e]
  exact gL λq=>a7 (q h1 h3 (@QZ K m s.n s.prime p hm hK hp) hL true b4 b3 b2 gl true b3 (cf e) b3) (by simp only[QO.out,cR,uc,bL,a8,dM,pr])
theorem y2U {nn:Int}{r:List (Int×Int)}(hn:2≤n) (hK:dB K) (h:KU nn=some r):aw T K n (S "prime_factors") [.af (.int nn)]=some (.list (r.map pr),[.af (.int nn)]):=by
 apply nS hn;intro m hn
 unfold KU at h
 rw[iE] at h
 obtain⟨s,hs,rfl⟩:=h
 refine eR y40 y43 y2Y y4a rfl rfl ?_
 refine(ak ((rfl:cm [S "n"] [OT.af (.int nn)]=[((ae "n"),.af (.int nn))])))▸?_
 obtain⟨ρ',⟨q1,q2,q3⟩,hL⟩:=vY (t:=fx (λg us=>aw T K m g us) (dG (ay (av 6).body [1]))) (b:=λρ'=>cA (λg us=>aw T K m g us) [] [(S "found",1)] K (bG (ay (av 6).body [1])) ρ')
  (λ(s:PF) ρ=>aj (ae "n") ρ=some (.af (.int s.n))∧aj (ae "found") ρ=some (uc s.found)∧aj (ae "prime") ρ=some (.af (.int s.prime))) CK G3 (by
   rintro s ρ ⟨h1,h2,h3⟩
   exact qb λq=>q h1 rfl) (by
   rintro s s' ρ ⟨h1,h2,h3⟩ _ cI
   refine vT (@Vs K m s s' ρ (by exact vN _ hn) hK h1 h2 h3 cI) λρ' a b c d=>?_
   exact⟨ρ',a,b,c,d⟩)
  100 K ⟨nn,[],2⟩ s (put (ae "prime") (.af (.int 2)) (put (ae "found") (uc []) [((ae "n"),.af (.int nn))])) (by unfold dB at hK;exact zu _ hK) hs
  (by refine⟨?_,?_,?_⟩<;>(first | exact(ln rfl (ln rfl rfl)) | exact(ln rfl lq) | exact lq))
 simp only[uc] at q2
 have f:=pg q2 (by simp only[mr,TB])
 simp only[mx,V4] at f
 have fs:eN (λg us=>aw T K m g us) [] (b8 (ay (av 6).body [2])) ρ'=some (.af (.list (s.found.map pr)),bo (b8 (ay (av 6).body [2])),bX [] ρ'):=by
  refine uF ?_ rfl (qe λq=>q f)
  show(ev _ (.Name _ _) _).bind _=_
  simp only[gR,q2,jO,kS]
 refine⟨bX [] ρ',?_⟩
 exact gL λq=>q hL false false fs
end
end
section
theorem Qv {α:Type}(inj:α→DV) (g:α→List DV){k:DV→Option (List DV)}:∀ {l:List α},(∀ a∈l,k (inj a)=some (g a))→gV k (l.map inj)=some (l.flatMap g)
 | [],_=>rfl
 | a::l,h=>by
  rw[a8,Bs,h a (.head _),Qv inj g (l:=l) λb hb=>h b (.tail _ hb)]
  rfl
theorem XF {C:ey}{α β:Type}(inj:α→DV) (yj:β→DV) (bs:List β) (f:α→β→DV){elt t it t2 Rw:Expr}{sc:Scope}{p:Pos}{ia ib:Nat}{ρ:au}{l:List α}(hs:(sc.names.all λp=>p.2 != .free||(ρ.lookup p.1).isSome)=true)
  (nK:eJ C it ρ=some (l.map inj)) (hc:(l.flatMap λa=>bs.map (f a)).length≤bh) (hb:∀ a∈l,∃ ρ',cW t (inj a) (seen sc ρ)=some ρ'∧eJ C Rw ρ'=some (bs.map yj)∧∀ b∈bs,∃ wZ,cW t2 (yj b) ρ'=some wZ∧ev C elt wZ=some (.af (f a b))) :
  ev C (.ListComp elt [⟨t,it,[],ia⟩,⟨t2,Rw,[],ib⟩] sc p) ρ=some (.af (.list (l.flatMap λa=>bs.map (f a)))):=by
 simp only[uA,hs,if_true,nv,ny,nK,ao]
 rw[Qv inj (λa=>bs.map (f a)) (l:=l)]
 ·simp only[ao,hc,if_true]
 ·intro a ha
  refine iw (hb a ha) λρ' h1 h2 h3=>?_
  simp only[h1,pS,ao,h2]
  show gV _ _=_
  rw[xu yj (f a) (l:=bs)]
  intro b hb
  refine aT (h3 b hb) λwZ h4 h5=>?_
  simp only[h4,h5,ao,cy]
  rfl
section
variable {K n:Nat}
noncomputable def Hq (found:List Int) (p:Int×Int):Option (List Int):=
 if (hS found&&decide (1≤p.1)&&decide (p.1<2^30)&&decide (0≤p.2)&&decide (p.2≤20)&&decide (p.1^p.2.toNat<2^30))=true then some (found.flatMap λone=>(az (p.2.toNat+1)).map λt=>one*p.1^t) else none
noncomputable def Hp (nn:Int):Option (List Int):=(KU (nn.natAbs:Int)).bind λpf=>(pf.foldlM Hq [1]).bind λl=>if l.length<64 then some (gH l) else none
theorem y8D:T (S "divisors")=some (av 7):=by kernel_rfl
theorem y8H:(av 7).params=[S "n"]:=by kernel_rfl
theorem y7n:(av 7).PN=[]:=by kernel_rfl
theorem Z':(av 7).M=[]:=by kernel_rfl
theorem Vm {m:Nat}{found r:List Int}{p:Int×Int}{ρ:au} (h1:aj (ae "found") ρ=some (.af (il found))) (h:Hq found p=some r) :
  ∃ ρ',(bp (dH (ay (av 7).body [1])) (pr p) ρ).bind (λρ'=>cA (λg us=>aw T K m g us) [] [] K (bG (ay (av 7).body [1])) ρ')=some (.bU ρ')∧aj (ae "found") ρ'=some (.af (il r)):=by
 unfold Hq at h
 split at h
 case isFalse=>cases h
 rename_i hg
 simp only[aY,decide_eq_true_eq] at hg
 obtain⟨⟨⟨⟨⟨g1,g2⟩,g2'⟩,g3⟩,g4⟩,g5⟩:=hg
 cases h
 refine gF (dE g3) λk hk=>?_
 have yt:p.2.toNat=k:=rl 0x7a3ca9c10a11 rfl _ _ hk
 rw[yt] at g5 ⊢
 generalize hρ:put (ae "many") (.af (.int p.2)) (put (ae "prime") (.af (.int p.1)) ρ)=ρ1
 have a1:aj (ae "found") ρ1=some (.af (il found)):=by subst hρ;exact(ln rfl (ln rfl h1))
 have a2:aj (ae "prime") ρ1=some (.af (.int p.1)):=by subst hρ;exact(ln rfl lq)
 have a3:aj (ae "many") ρ1=some (.af (.int (k:Int))):=by subst hρ;simp only[fF,↓reduceIte,hk]
 have hb:∀ t,t≤k→p.1^t<2^30:=λt ht=>by
  refine Int.lt_of_le_of_lt ?_ g5
  obtain⟨d,rfl⟩:=iM ht
  rw[Int.pow_add]
  exact rl 0x22a0aa2a0ec2a20 rfl _ _ (Int.mul_le_mul_of_nonneg_left (by exact rl 0x454b0c94b10 rfl _ (sf (by exact rl 0x494b8a96110 rfl _ g2):0<p.1^d)) (by exact rl 0x22a5c94b10 rfl _ (sf (by exact rl 0x494b8a96110 rfl _ g2):0<p.1^t)):p.1^t*1≤p.1^t*p.1^d)
 have fs:ev (λg us=>aw T K m g us) (b8 (ay (av 7).body [1,0])) ρ1=some (.af (il (found.flatMap λone=>(az (k+1)).map λt=>one*p.1^t))):=by
  have dx:(found.flatMap λone=>(az (k+1)).map λt=>DV.int (one*p.1^t)).length≤bh:=by
   have:∀ l:List Int,(l.flatMap λone=>(az (k+1)).map λt=>DV.int (one*p.1^t)).length=l.length*(k+1):=by
    intro l
    induction l with
    | nil=>simp
    | cons a l ih=>rw[List.flatMap_cons,aR,ih,ag,cC,aF,eG];exact rl 0x3d8c485080b1016242802 rfl _ _
   rw[this]
   have:=nN (iP g1) (show k+1≤21 by exact rl 0xd4944c48513821515904a11 rfl _ _ g4 hk)
   exact rl 0x1a900000000886a4050802801 rfl _ this
  rw[show il (found.flatMap λone=>(az (k+1)).map λt=>one*p.1^t)=.list (found.flatMap λone=>(az (k+1)).map λt=>.int (one*p.1^t)) by rw[il,List.map_flatMap];simp only[aN];rfl]
  refine XF (α:=Int) (β:=Nat) (λi=>.int i) (λi=>.int (i:Int)) (az (k+1)) (λone t=>.int (one*p.1^t)) ?_ ?_ dx ?_
  ·simp only[cb,cD,a2,a3,bI];rfl
  ·exact qi λq=>q a1
  ·intro one LA
   have ho:one.natAbs<2^64:=by
    unfold hS at g1
    simp only[aY,decide_eq_true_eq,aA] at g1
    exact g1.2 one LA
   refine⟨[((ae "one"),.af (.int one)),((ae "many"),.af (.int (k:Int))),((ae "prime"),.af (.int p.1))],?_,?_,λt ht=>?_⟩
   ·simp only[cW,iS,seen,jD,jl,mf,cy,ao,aD,aS,bj,a2,a3,gn,jO,↓reduceIte,String.reduceEq,bB]
   ·refine t4 rfl ?_ (by exact rl 0x1a9000000008c48513821515904a11 rfl _ _ g4 hk)
    exact qe λq=>q rfl
   ·have RF:t≤k:=by have:=bY.mp ht;exact rl 0x3501439890a02802 rfl _ _ this
    have p1:eC p.1 (t:Int)=true:=by
     unfold eC
     simp only[aY,decide_eq_true_eq]
     exact rl 0x7dc900000000000009d507f2580018223042da80a270405515056192c0000000000000a8315904a22 rfl _ _ _ _ g4 g2' g2 hk RF
    refine⟨[((ae "times"),.af (.int (t:Int))),((ae "one"),.af (.int one)),((ae "many"),.af (.int (k:Int))),((ae "prime"),.af (.int p.1))],?_,?_⟩
    ·kernel_rfl
    ·exact qe λq=>q rfl rfl rfl (mH p1) (fY (gT (A:=64) (B:=31) ho (by unfold b6;exact rl 0x7240000000000001755252e4b00000000000002a10 rfl _ (hb t RF) (sf (by exact rl 0x494b8a96110 rfl _ g2):0<p.1^t)) (by exact rl 0x3520290c739ce749c6100 rfl):cj one (p.1^t)=true))
 refine⟨put (ae "found") (.af (il (found.flatMap λone=>(az (k+1)).map λt=>one*p.1^t))) ρ1,?_,by exact lq⟩
 show(bp (.Tuple [_,_] _ _) (pr p) ρ).bind (λρ'=>cA _ _ _ _ (.Assign [_] (b8 (ay (av 7).body [1,0])) _::[]) ρ')=_
 simp only[bp,K2,K6,BY,Em,pr,ao]
 rw[hρ]
 exact cV (lH rfl fs) m5
theorem QL {nn:Int}{r:List Int}(hn:3≤n) (hK:dB K) (h:Hp nn=some r):aw T K n (S "divisors") [.af (.int nn)]=some (il r,[.af (.int nn)]):=by
 apply nS hn;intro m hn
 unfold Hp at h
 rw[aJ] at h
 obtain⟨pf,h1,h⟩:=h
 rw[aJ] at h
 obtain⟨l,h2,h⟩:=h
 split at h
 case isFalse=>cases h
 rename_i hl
 cases h
 have c1:=@y2U K m _ _ (by exact vM _ hn) hK h1
 refine eR y8D y8H y7n Z' rfl rfl ?_
 refine(ak (rfl:cm [S "n"] [OT.af (.int nn)]=[((ae "n"),.af (.int nn))]))▸?_
 obtain⟨ρ',q,hL⟩:=uH (bd:=bp (dH (ay (av 7).body [1]))) (b:=λρ'=>cA (λg us=>aw T K m g us) [] [] K (bG (ay (av 7).body [1])) ρ') pr
  (λ(f:List Int) ρ=>aj (ae "found") ρ=some (.af (il f))) Hq pf [1] l (put (ae "found") (.af (il [1])) [((ae "n"),.af (.int nn))]) h2 (by exact lq) (by
   intro f p f' ρ _ h1 h2
   obtain⟨ρ',a,b⟩:=@Vm K m f f' p ρ h1 h2
   exact⟨ρ',b,a⟩)
 refine⟨ρ',cV (ρ':=put (ae "found") (.af (il [1])) [((ae "n"),.af (.int nn))]) (lH rfl ?_) (cV (ρ':=ρ') ?_ (fZ (jQ ?_)))⟩
 ·exact qe λq=>q
 ·refine hL▸?_
  exact vO (qi λq=>q (ln rfl rfl) rfl c1)
 ·have b1:bi (ae "sorted") [.af (il l)]=some (il (gH l)):=by
   rw[←Qc]
   have:fi (l.map .int)=some l:=by
    clear hl h2 hL q
    induction l with
    | nil=>rfl
    | cons a l ih=>simp only[a8,Dg,tI,ao,ih]
   simp only[EK,jO,↓reduceIte,il,ag,hl,this]
  simp only[gR,j',eK,fy,q,cT,a5,b1,jO,↓reduceIte,String.reduceEq]
end
end
section
section
variable {K n:Nat}
noncomputable def fs (q:Rat):List Int:=[q.num,(q.den:Int)]
noncomputable def mP (xs:List Rat) (x:Rat):List Rat:=if (xs.map fs).contains (fs x) then xs else xs++[x]
noncomputable def Mn (top:Int) (xs:List Rat) (b:Int):Option (List Rat):=if b≠0∧b.natAbs<2^64∧xs.length≤1000 then some (mP (mP xs (aI top b)) (aI (-top) b)) else none
noncomputable def Mm (bs:List Int) (xs:List Rat) (top:Int):Option (List Rat):=bs.foldlM (Mn top) xs
noncomputable def Se (f:List Int):Option (List Rat):=if hS f=true∧2≤f.length then (Hp ((aV f).natAbs:Int)).bind λbs=>(Hp ((gi f 0).natAbs:Int)).bind λts=>if bs.length≤1000∧ts.length≤1000 then ts.foldlM (Mm bs) [] else none else none
noncomputable def MC:List (Str×Nat):=[(S "met",3),(S "found",1)]
noncomputable def vv (xs:List Rat) (ρ:au):Prop:=aj (ae "met") ρ=some (.fI (xs.map fs))∧aj (ae "found") ρ=some (ow xs)
theorem y6p:T (S "candidates")=some (av 99):=by kernel_rfl
theorem y6s:(av 99).params=[S "f"]:=by kernel_rfl
theorem y5E:(av 99).PN=[]:=by kernel_rfl
theorem y6A:(av 99).M=[(S "met",3),(S "found",1)]:=by kernel_rfl
theorem EC {m:Nat}{xs:List Rat}{x:Rat}{ρ:au}(hl:xs.length≤1002) (h:vv xs ρ) :
  ∃ ρ',(bp (dH (ay (av 99).body [2,0,0])) (qv x) ρ).bind (λρ'=>cA (λg us=>aw T K m g us) [] MC K (bG (ay (av 99).body [2,0,0])) ρ')=some (.bU ρ')∧vv (mP xs x) ρ'∧aj (ae "top") ρ'=aj (ae "top") ρ∧aj (ae "bottoms") ρ'=aj (ae "bottoms") ρ∧aj (ae "bottom") ρ'=aj (ae "bottom") ρ:=by
 refine dJ h λh1 h2=>?_;clear h
 have ik:fi [.int x.num,.int (x.den:Int)]=some (fs x):=rfl
 show ∃ ρ',(bp (.Name _ _) _ _).bind (λρ'=>cA _ _ _ _ (.If _ [.Assign [_] _ _,.Expr _ _] [] _::[]) ρ')=_∧_
 simp only[bp,iS,ao]
 have ht:fx (λg us=>aw T K m g us) (dG (ay (av 99).body [2,0,0,0])) (put (ae "x") (.af (qv x)) ρ)=some (!(xs.map fs).contains (fs x)):=by
  show fx _ (.Compare (.Name _ _) [.NotIn] [.Name _ _] _) _=_
  exact bs (FY lq) (bs rfl (bs rfl (bs (ln rfl h1) (bs ik rfl))))
 unfold mP
 cases hc:(xs.map fs).contains (fs x) with
 | true=>
  have ht:=hc▸ht
  refine⟨put (ae "x") (.af (qv x)) ρ,cV (kL ht rfl) m5,?_,?_,?_,?_⟩
  ·exact⟨by exact(ln rfl h1),by exact(ln rfl h2)⟩
  ·exact(ln rfl rfl)
  ·exact(ln rfl rfl)
  ·exact(ln rfl rfl)
 | false=>
  rw[hc] at ht
  have hn:¬ fs x∈xs.map fs:=λh=>by
   have hc:=(dX.mpr h)▸hc;cases hc
  refine⟨put (ae "found") (ow (xs++[x])) (put (ae "met") (.fI (xs.map fs++[fs x])) (put (ae "x") (.af (qv x)) ρ)),cV (kL ht ?_) m5,?_,?_,?_,?_⟩
  ·rw[y9,if_pos rfl]
   refine cV (ρ':=put (ae "met") (.fI (xs.map fs++[fs x])) (put (ae "x") (.af (qv x)) ρ)) ?_ (cV ?_ m5)
   ·simp only[md,J9,pN,rE,Aj,Em,rF,D',gR,cy,fF,jO,↓reduceIte,String.reduceEq,h1,qv,ik,hn,ag,show xs.length≤bh by exact rl 0xd48000000044352229c2801 rfl _ hl]
   ·simp only[ow] at h2
    exact qx λq=>a7 (q true (ln rfl (ln rfl h2)) (ln rfl lq) (by(simp;exact rl 0x6a40000000231214352229c2801 rfl _ hl))) (by simp[QO.out,cR,ow,bL])
  ·exact⟨by simp only[fF,jO,↓reduceIte,String.reduceEq,bL],by exact lq⟩
  ·exact(ln rfl (ln rfl (ln rfl rfl)))
  ·exact(ln rfl (ln rfl (ln rfl rfl)))
  ·exact(ln rfl (ln rfl (ln rfl rfl)))
theorem YN (xs:List Rat) (x:Rat):(mP xs x).length≤xs.length+1:=by
 unfold mP;split<;>simp
theorem lf2 {bd:DV→au→Option au}{bb:au→Option Out}{d e:DV}{ρ ρ1 ρ2:au} (h1:(bd d ρ).bind bb=some (.bU ρ1)) (h2:(bd e ρ1).bind bb=some (.bU ρ2)):fN bd bb [d,e] ρ=some (.bU ρ2):=
 bJ h1 λx a1 a2=>bJ h2 λy b1 b2=>bs a1 (bs a2 (bs b1 (bs b2 rfl)))
theorem Ml {m:Nat}{xs ys:List Rat}{top b:Int}{bs:List Int}{ρ:au}(hm:2≤m) (hK:dB K) (h:vv xs ρ) (ht:aj (ae "top") ρ=some (.af (.int top))) (hb:aj (ae "bottoms") ρ=some (.af (il bs))) (hs:Mn top xs b=some ys) :
  ∃ ρ',(bp (dH (ay (av 99).body [2,0])) (.int b) ρ).bind (λρ'=>cA (λg us=>aw T K m g us) [] MC K (bG (ay (av 99).body [2,0])) ρ')=some (.bU ρ')∧vv ys ρ'∧aj (ae "top") ρ'=some (.af (.int top))∧aj (ae "bottoms") ρ'=some (.af (il bs)):=by
 refine gg hs λhg hs=>fL hg λb0 b1 b2=>?_
 have hs:=ai hs
 subst hs
 refine Bj (@EC K m xs (aI top b) _ (by exact rl 0x1a9114e14352029c2801 rfl _ b2) (⟨ln rfl h.1,ln rfl h.2⟩:vv xs (put (ae "bottom") (.af (.int b)) ρ))) λρ1 d1 d2 d3 d4 d5=>?_
 refine Bj (@EC K m _ (aI (-top) b) _ (by exact rl 0x1a9114e1405ac485080b52029c2802 rfl _ _ b2 (YN xs (aI top b))) d2) λρ2 e1 e2 e3 e4 e5=>?_
 refine⟨ρ2,cV (Mine.Internal.bs (qi λq=>q (ln rfl ht) lq (@qW K m top b hm b0 (hK.g (B:=64) (by exact zt) b1)) (ln rfl ht) lq (@qW K m (-top) b hm b0 (hK.g (B:=64) (by exact zt) b1))) (lf2 d1 e1)) m5,e2,(e3.trans d3).trans (ln rfl ht),(e4.trans d4).trans (ln rfl hb)⟩
theorem Mj {m:Nat}{xs ys:List Rat}{top:Int}{bs':List Int}{ρ:au}(hm:2≤m) (hK:dB K) (h:vv xs ρ) (hb:aj (ae "bottoms") ρ=some (.af (il bs'))) (hs:Mm bs' xs top=some ys) :
  ∃ ρ',(bp (dH (ay (av 99).body [2])) (.int top) ρ).bind (λρ'=>cA (λg us=>aw T K m g us) [] MC K (bG (ay (av 99).body [2])) ρ')=some (.bU ρ')∧vv ys ρ'∧aj (ae "bottoms") ρ'=some (.af (il bs')):=by
 refine aT (uH (bd:=bp (dH (ay (av 99).body [2,0]))) (b:=λρ'=>cA (λg us=>aw T K m g us) [] MC K (bG (ay (av 99).body [2,0])) ρ') (λi:Int=>DV.int i)
  (λ(xs:List Rat) ρ=>vv xs ρ∧aj (ae "top") ρ=some (.af (.int top))∧aj (ae "bottoms") ρ=some (.af (il bs'))) (Mn top) bs' xs ys (put (ae "top") (.af (.int top)) ρ) hs
  ⟨⟨ln rfl h.1,ln rfl h.2⟩,lq,ln rfl hb⟩ λxs b ys ρ Z h cI=>vT (@Ml K m xs ys top b bs' ρ hm hK h.1 h.2.1 h.2.2 cI) λρ' a b c d=>⟨ρ',⟨b,c,d⟩,a⟩) λρ' q hL=>⟨ρ',cV (Mine.Internal.bs (qi λq=>q (ln rfl hb)) hL) m5,q.1,q.2.2⟩
theorem y5j {f:List Int}{xs:List Rat}(hn:4≤n) (hK:dB K) (h:Se f=some xs):aw T K n (S "candidates") [.af (il f)]=some (ql xs,[.af (il f)]):=by
 apply nS hn;intro m hn
 refine gg h λhg h=>bJ h λbs h1 h=>bJ h λts h2 h=>gg h λl7 h=>dJ hg λg1 g2=>?_
 have fl:=iP g1
 have c0:=@oT K m f (by exact oN _ hn) (by exact ir _ fl)
 have c1:=@QL K m _ _ (by exact pd _ hn) hK h1
 have c2:=@QL K m _ _ (by exact pd _ hn) hK h2
 have i1:=@vX f (by exact jN _ fl) (by exact Ff _ g2)
 rw[show gi f (f.length-1)=aV f from rfl] at i1
 simp only[S] at c0 c1 c2
 refine eR y6p y6s y5E y6A rfl rfl ?_
 refine(ak ((rfl:cm [S "f"] [OT.af (il f)]=[((ae "f"),.af (il f))])))▸?_
 generalize hρ:put (ae "bottoms") (.af (il bs)) (put (ae "found") (ow []) (put (ae "met") (.fI []) ([((ae "f"),.af (il f))]:au)))=ρ
 have l1:aj (ae "f") ρ=some (.af (il f)):=by subst hρ;exact(ln rfl (ln rfl (ln rfl rfl)))
 obtain⟨ρ',⟨⟨q1,q2⟩,q3⟩,hL⟩:=uH (bd:=bp (dH (ay (av 99).body [2]))) (b:=λρ'=>cA (λg us=>aw T K m g us) [] MC K (bG (ay (av 99).body [2])) ρ') (λi:Int=>DV.int i)
  (λ(xs:List Rat) ρ=>vv xs ρ∧aj (ae "bottoms") ρ=some (.af (il bs))) (Mm bs) ts [] xs ρ h
  (by subst hρ;exact⟨⟨by exact(ln rfl (ln rfl lq)),by exact(ln rfl lq)⟩,by exact lq⟩) (by
   rintro xs t ys ρ _ ⟨h1,h2⟩ cI
   refine iw (@Mj K m xs ys t bs ρ (by exact rl 0x3509135890a12401 rfl _ hn) hK h1 h2 cI) λρ' a b c=>?_
   exact⟨ρ',⟨b,c⟩,a⟩)
 show ∃ ρ,cA _ _ MC _ (.If _ _ [] _::.Assign [_] (.Tuple [.Dict [] [] _,.List [] _,_] _ _) _::.For _ _ _ [] _::.Return (some _) _::[]) _=_
 refine⟨bX [] ρ',cV (ρ':=[((ae "f"),.af (il f))]) (kL (c:=false) ?_ rfl) (cV (ρ':=ρ) ?_ (cV (ρ':=ρ') ?_ (fZ ?_)))⟩
 ·have:¬ (f.length:Int)-1<1:=by exact rl 0x1792c35586086a12201 rfl _ g2
  exact qb λq=>q rfl c0 (cf this)
 ·have v1:gG MC (ae "met")=3:=by simp only[MC,gG,rn,S,jO,↓reduceIte]
  have t3:eN (λg us=>aw T K m g us) [] (fB (b8 (ay (av 99).body [1])) 2) [((ae "f"),.af (il f))]=some (.af (il bs),bo (fB (b8 (ay (av 99).body [1])) 2),[((ae "f"),.af (il f))]):=by
   refine uC ?_
   show ev _ (.Call (.Name _ _) [.Call (.Name _ _) [.Subscript (.Name _ _) _ _] [] _] [] _) _=_
   exact qe λq=>q rfl i1 rfl c1
  have t2:eN (λg us=>aw T K m g us) [] (fB (b8 (ay (av 99).body [1])) 1) [((ae "f"),.af (il f))]=some (.af (.list []),true,[((ae "f"),.af (il f))]):=by
   refine uC ?_
   show ev _ (.List [] _) _=_
   exact qe λq=>q
  have o0:ownOf true (.list [])=ow []:=rfl
  refine hρ▸?_
  show ex _ _ _ _ (.Assign [_] (.Tuple [.Dict [] [] _,fB (b8 (ay (av 99).body [1])) 1,fB (b8 (ay (av 99).body [1])) 2] _ _) _) _=_
  simp only[md,q8,BN,sM,sN,z7,Q6,v1,(by simp only[MC,gG,rn,S,jO,↓reduceIte,String.reduceEq]:gG MC (ae "found")=1),(by simp only[MC,gG,rn,S,jO,↓reduceIte,String.reduceEq]:gG MC (ae "bottoms")=0),vX3,t2,t3,cy,o0,uS,uT,jO,↓reduceIte,aF,aW,show 0+1+1+1≤bh by exact rl 0x3520000000112300 rfl]
 ·refine hL▸?_
  show ex _ _ _ _ (.For _ _ _ [] _) _=_
  exact vO (qi λq=>q l1 (@uD f 0 0 (by exact jN _ fl) (by exact Ff _ g2) rfl) rfl c2)
 ·simp only[ow] at q2
  have ff:=pg q2 (by simp only[mr,GF])
  simp only[mx,Gh] at ff
  have fs:eN (λg us=>aw T K m g us) [] (b8 (ay (av 99).body [3])) ρ'=some (.af (ql xs),bo (b8 (ay (av 99).body [3])),bX [] ρ'):=by
   refine uF ?_ rfl ?_
   ·show(ev _ (.Name _ _) _).bind _=_
    simp only[gR,q2,jO,kS]
   ·show ev _ (.Name _ _) _=_
    exact qe λq=>q ff
  show ex _ [] _ K (.Return (some (b8 (ay (av 99).body [3]))) _) _=_
  exact qx λq=>q false false fs
end
end
section
section
variable {K n:Nat}
noncomputable def Km (f:List Int):Option (List Rat):=
 if hS f=true∧f.length=2∧gi f 1≠0 then some [aI (-(gi f 0)) (gi f 1)]
 else if hS f=true∧3≤f.length∧(gi f 0).natAbs≤10000000000∧(aV f).natAbs≤10000000000 then Se f else none
theorem I0 {l:List Int}(h:hS l=true) (i:Nat):(gi l i).natAbs<2^64:=by
 unfold hS at h
 simp only[aY,decide_eq_true_eq,aA] at h
 unfold gi
 cases q:l[i]? with
 | none=>decide
 | some x=>exact h.2 x (bt q)
theorem y5u:T (S "tried_roots")=some (av 98):=by kernel_rfl
theorem y5y:(av 98).params=[S "f"]:=by kernel_rfl
theorem y4p:(av 98).PN=[]:=by kernel_rfl
theorem y5F:(av 98).M=[]:=by kernel_rfl
theorem y4e {f:List Int}{xs:List Rat}(hn:5≤n) (hK:dB K) (h:Km f=some xs):aw T K n (S "tried_roots") [.af (il f)]=some (ql xs,[.af (il f)]):=by
 apply nS hn;intro m hn
 refine eR y5u y5y y4p y5F rfl rfl ⟨[((ae "f"),.af (il f))],?_⟩
 unfold Km at h
 split at h
 case isTrue hg=>
  refine fL hg λg1 g2 g3=>?_;clear hg
  cases h
  have c1:=@qW K m (-(gi f 0)) (gi f 1) (by exact HT _ hn) g3 (hK.g (B:=64) (by exact zt) (I0 g1 1))
  have i0:=@uD f 0 0 (by exact rl 0x1a900000000887a44801 rfl _ g2) (by exact rl 0x39097a44801 rfl _ g2) rfl
  have i1:=@uD f 1 1 (by exact rl 0x1a900000000887a44801 rfl _ g2) (by exact rl 0x721217a44801 rfl _ g2) rfl
  refine fZ (kL (c:=true) ?_ ?_)
  ·have:(f.length:Int)-1=1:=by exact rl 0x9ac35586087a44801 rfl _ g2
   exact qb λq=>q rfl (@oT K m f (by exact w6 _ hn) (by exact rl 0x352029c287a44801 rfl _ g2)) (ct (by exact rl 0x9ac35586089ac355860801 rfl _ this))
  ·rw[if_pos rfl]
   refine fZ (jQ ?_)
   exact qe λq=>q rfl i0 rfl i1 c1
 case isFalse=>
  split at h
  case isFalse=>cases h
  case isTrue hg=>
   refine jR hg λg1 g2 g3 g4=>?_;clear hg
   have fl:=iP g1
   have c1:=@y5j K m f xs (by exact AY _ hn) hK h
   have i1:=@vX f (by exact jN _ fl) (by exact rl 0x39096a12301 rfl _ g2)
   rw[show gi f (f.length-1)=aV f from rfl] at i1
   refine cV (ρ':=[((ae "f"),.af (il f))]) (kL (c:=false) ?_ rfl) (fZ (kL (c:=true) ?_ ?_))
   ·have:¬ (f.length:Int)-1=1:=by exact rl 0x179ac35586086a12301 rfl _ g2
    exact qb λq=>q rfl (@oT K m f (by exact w6 _ hn) (by exact ir _ fl)) (cf this)
   ·have d1:¬ (f.length:Int)-1<1:=by exact rl 0x1792c35586086a12301 rfl _ g2
    have d2:(if ((gi f 0).natAbs:Int)<((aV f).natAbs:Int) then ((aV f).natAbs:Int) else ((gi f 0).natAbs:Int))≤10000000000:=by split<;>lia
    exact qb λq=>q rfl (@oT K m f (by exact w6 _ hn) (by exact ir _ fl)) (cf d1) rfl (@uD f 0 0 (by exact jN _ fl) (by exact rl 0x39096a12301 rfl _ g2) rfl) rfl rfl i1 rfl rfl rfl (ct d2)
   ·rw[if_pos rfl]
    refine fZ (jQ ?_)
    exact qe λq=>q rfl c1
noncomputable abbrev RP:=Rat×Int
noncomputable def pq (p:RP):DV:=.tup [qv p.1,.int p.2]
noncomputable def xW (q:Rat):Bool:=decide (q.num.natAbs<2^64)&&decide (q.den<2^64)
theorem I1 {q:Rat}(h:xW q=true):sz 64 q:=by
 unfold xW at h
 simp only[aY,decide_eq_true_eq] at h
 exact h
noncomputable def gp (l:List RP) (i:Nat):RP:=(l[i]?).getD (0,0)
theorem OY {l:List RP}{i:Nat}(h:i<l.length):l[i]?=some (gp l i):=by simp[gp,h]
noncomputable def rg (l:List RP) (x:Rat) (i:Nat):Bool:=decide (i<l.length)&&decide (sS (gp l i).1 x<0)
noncomputable def Ci (l:List RP) (i:Nat):Option Nat:=if i<l.length then some (i+1) else none
noncomputable def Kt (l:List RP) (p:RP):Option (List RP):=if (decide (l.length≤1000)&&xW p.1&&l.all λq=>xW q.1)=true then (kR (rg l p.1) (Ci l) 2000 0).map λi=>l.take i++[p]++l.drop i else none
noncomputable def lL (l:List RP):OT:=.own (l.map λp=>.af (pq p))
theorem Yk (l:List DV):jn (l.map .af)=some l:=by
 induction l with
 | nil=>rfl
 | cons a l ih=>simp only[a8,gN,cy,ao,ih]
theorem Pe {l:List RP}{x:Rat}:∀ (F i j:Nat),i≤l.length→kR (rg l x) (Ci l) F i=some j→j≤l.length
 | 0,i,j,_,h=>by cases h
 | F+1,i,j,hi,h=>by
  rw[Ot] at h
  split at h
  ·rw[aJ] at h
   refine aT h λk h1 h2=>?_;clear h
   unfold Ci at h1
   split at h1
   ·cases h1;exact Pe F _ j (by lia) h2
   ·cases h1
  ·cases h;exact hi
theorem QV:T (S "sorted_roots")=some (av 100):=by kernel_rfl
theorem y4k:(av 100).params=[S "pairs"]:=by kernel_rfl
theorem QW:(av 100).PN=[]:=by kernel_rfl
theorem y4t:(av 100).M=[(S "found",1)]:=by kernel_rfl
noncomputable def Hv (l:List RP) (p:RP) (i:Nat) (ρ:au):Prop:=aj (ae "found") ρ=some (lL l)∧aj (ae "pair") ρ=some (.af (pq p))∧aj (ae "at") ρ=some (.af (.int (i:Int)))
theorem Oh (p:RP):iJ (.af (pq p)) (.af (.int 0))=some (.af (qv p.1)):=by kernel_rfl
theorem Wm {m:Nat}{l:List RP}{p:RP}{i:Nat}{ρ:au}(hm:1≤m) (g1:l.length≤1000) (g2:xW p.1=true) (g3:∀ x∈l,xW x.1=true) (h:Hv l p i ρ):fx (λg us=>aw T K m g us) (dG (ay (av 100).body [1,1])) ρ=some (rg l p.1 i):=by
 have hc:l.length≤bh:=mY _ g1
 have bl:bi (ae "len") [lL l]=some (.int (l.length:Int)):=by simp only[jo,Et,lL,ag,jO,↓reduceIte,hc]
 refine fL h λh1 h2 h3=>(bA (i<l.length)).elim (λhi=>?_) λhi=>?_
 ·have it:iJ (lL l) (.af (.int (i:Int)))=some (.af (pq (gp l i))):=by
   simp only[u9,lL,ag,kM hc hi,ao,aU,OY hi,aD]
  exact qb λq=>a7 (q h3 h1 bl (ct (by exact vL _ _ hi:(i:Int)<(l.length:Int))) h1 h3 it (Oh _) h2 (Oh _) (@QM K m 64 64 (gp l i).1 p.1 hm (I1 (g3 _ (bt (OY hi)))) (I1 g2) (by exact Fj)) rfl) (by simp[rg,hi])
 ·exact qb λq=>a7 (q h3 h1 bl (cf (by exact AZ _ _ hi:¬ (i:Int)<(l.length:Int)))) (by simp[rg,hi])
theorem Wn {m:Nat}{l:List RP}{p:RP}{i j:Nat}{ρ:au}(h:Hv l p i ρ) (cI:Ci l i=some j):∃ ρ',cA (λg us=>aw T K m g us) [] [(S "found",1)] K (bG (ay (av 100).body [1,1])) ρ=some (.bU ρ')∧Hv l p j ρ':=
 fL h λh1 h2 h3=>gg cI λZ cI=>ai cI▸⟨put (ae "at") (.af (.int ((i:Int)+1))) ρ,cV (qx λq=>q h3) m5,ln rfl h1,ln rfl h2,lq⟩
theorem Ws {m:Nat}{l l':List RP}{p:RP}{ρ:au}(hm:1≤m) (hK:dB K) (hf:aj (ae "found") ρ=some (lL l)) (h:Kt l p=some l') :
  ∃ ρ',(bp (dH (ay (av 100).body [1])) (pq p) ρ).bind (λρ'=>cA (λg us=>aw T K m g us) [] [(S "found",1)] K (bG (ay (av 100).body [1])) ρ')=some (.bU ρ')∧aj (ae "found") ρ'=some (lL l'):=by
 refine gg h λhg h=>jF h λi hi h=>?_
 subst h
 have hg:=gI hg
 have g1:=of_decide_eq_true hg.1.1
 refine aT (vY (t:=fx (λg us=>aw T K m g us) (dG (ay (av 100).body [1,1]))) (b:=λρ'=>cA (λg us=>aw T K m g us) [] [(S "found",1)] K (bG (ay (av 100).body [1,1])) ρ') (Hv l p) (rg l p.1) (Ci l) (λi ρ h=>Wm hm g1 hg.1.2 (aA.mp hg.2) h) (λi j ρ h Z cI=>Wn h cI)
  2000 K 0 i (put (ae "at") (.af (.int 0)) (put (ae "pair") (.af (pq p)) ρ)) (by unfold dB at hK;exact rl 0x6a12011c6d4240000000000000000201 rfl _ hK) hi
  ⟨ln rfl (ln rfl hf),ln rfl lq,lq⟩) λρ' hR hL=>fL hR λq1 q2 q3=>?_
 refine⟨put (ae "found") (lL (l.take i++[p]++l.drop i)) ρ',?_,by exact lq⟩
 show(bp (.Name _ _) _ _).bind (λρ'=>cA _ _ _ _ (.Assign [_] _ _::.While _ _ [] _::.Expr _ _::[]) ρ')=_
 simp only[bp,iS,ao]
 refine cV (lH rfl (d:=.int 0) rfl) (cV (PG hL) (cV ?_ m5))
 have hl1:jn (l.map λp=>OT.af (pq p))=some (l.map pq):=by
  have:=Yk (l.map pq)
  rw[aN] at this
  exact this
 simp only[lL] at q1
 simp only[Ka,vn,D4,Tz,tf,rE,Aj,xV,tI,q1,hl1,gR,q2,q3,cy,jO,↓reduceIte,ag,du]
 have hc:l.length+1≤bh∧(0:Int)≤(i:Int)∧(i:Int)≤(l.length:Int):=rl 0x3ff8c1018223042da9000000008c485016a0286a4053850102 rfl _ _ g1 (Pe 2000 0 i (by exact rl 0x350901 rfl _) hi)
 rw[if_pos hc]
 simp only[aD,lL,bL,eP,oF,aN,a8,dM]
 rfl
noncomputable def Rc (l:List RP):Option (List RP):=if l.length≤1000 then l.foldlM Kt [] else none
theorem OV (ps:List RP):mA (ps.map λp=>OT.af (pq p))=ps.map pq:=by
 induction ps with
 | nil=>rfl
 | cons a l ih=>exact congrArg (eZ _) ih
theorem Om (ps:List RP):gM (ps.map λp=>OT.af (pq p))=true:=by
 induction ps with
 | nil=>rfl
 | cons a l ih=>exact ih
theorem y3I {l l':List RP}(hn:2≤n) (hK:dB K) (h:Rc l=some l'):aw T K n (S "sorted_roots") [.af (.list (l.map pq))]=some (.list (l'.map pq),[.af (.list (l.map pq))]):=by
 apply nS hn;intro m hn
 refine gg h λZ h=>?_
 refine eR QV y4k QW y4t rfl rfl ?_
 have z:cm [S "pairs"] [OT.af (.list (l.map pq))]=[((ae "pairs"),.af (.list (l.map pq)))]:=rfl
 refine(ak z)▸?_
 obtain⟨ρ',q,hL⟩:=uH (bd:=bp (dH (ay (av 100).body [1]))) (b:=λρ'=>cA (λg us=>aw T K m g us) [] [(S "found",1)] K (bG (ay (av 100).body [1])) ρ') pq
  (λ(f:List RP) ρ=>aj (ae "found") ρ=some (lL f)) Kt l [] l' (put (ae "found") (lL []) [((ae "pairs"),.af (.list (l.map pq)))]) h (by exact lq) (by
   intro f p f' ρ _ h1 h2
   refine aT (@Ws K m f f' p ρ (by exact vN _ hn) hK h1 h2) λρ' a b=>?_
   exact⟨ρ',b,a⟩)
 refine⟨bX [] ρ',cV (ρ':=put (ae "found") (lL []) [((ae "pairs"),.af (.list (l.map pq)))]) ?_ (cV (ρ':=ρ') ?_ (fZ ?_))⟩
 ·have v1:gG [(S "found",1)] (ae "found")=1:=by simp only[gG,rn,S,jO,↓reduceIte]
  exact qx λq=>q true
 ·exact hL▸(vO (qi λq=>q (ln rfl rfl)))
 ·simp only[lL] at q
  have f:=pg q (by simp only[mr,Om])
  simp only[mx,OV] at f
  have fs:eN (λg us=>aw T K m g us) [] (b8 (ay (av 100).body [2])) ρ'=some (.af (.list (l'.map pq)),bo (b8 (ay (av 100).body [2])),bX [] ρ'):=by
   refine uF ?_ rfl ?_
   ·show(ev _ (.Name _ _) _).bind _=_
    simp only[gR,q,jO,kS]
   ·exact qe λq=>q f
  exact qx λq=>q false false fs
end
end
section
theorem ZW {t:au→Option Bool}{b:au→Option Out}{n:Nat}{ρ:au}(hn:0<n) (h:t ρ=some false):eT t b n ρ=some (.bU ρ):=by
 cases n with
 | zero=>lia
 | succ n=>
  rw[xx,h]
  rfl
section
variable {K n:Nat}
noncomputable def CV (x:Rat):List Int:=[-x.num,(x.den:Int)]
noncomputable def Kb (l:List Int) (x:Rat):Bool:=hS l&&(decide (l.length≤1)||(GV l x).isSome)
noncomputable def sR (x:Rat) (s:List Int×Int):Bool:=decide (1<s.1.length)&&decide (GV s.1 x=some 0)
noncomputable def KI (x:Rat) (s:List Int×Int):Option (List Int×Int):=(zx s.1 (CV x)).bind λl=>if Kb l x=true then some (l,s.2+1) else none
noncomputable def KD (s:List Int×List RP) (x:Rat):Option (List Int×List RP):=
 if Kb s.1 x=true∧s.2.length≤1000 then (kR (sR x) (KI x) 100 (s.1,0)).map λt=>(t.1,if 0<t.2 then s.2++[(x,t.2)] else s.2) else none
noncomputable def KG (f:List Int):Option (List RP):=if hS f=true∧0<f.length∧gi f 0≠0 then (Km f).bind λxs=>if xs.length≤1000 then (xs.foldlM KD (f,[])).bind λs=>Rc s.2 else none else none
noncomputable def MR:List (Str×Nat):=[(S "found",1)]
theorem y2V:T (S "rational_roots")=some (av 97):=by kernel_rfl
theorem y2W:(av 97).params=[S "f"]:=by kernel_rfl
theorem y2M:(av 97).PN=[]:=by kernel_rfl
theorem y30:(av 97).M=[(S "found",1)]:=by kernel_rfl
noncomputable def Hx (s2:List RP) (x:Rat) (t:List Int×Int) (ρ:au):Prop:=aj (ae "left") ρ=some (.af (il t.1))∧aj (ae "many") ρ=some (.af (.int t.2))∧aj (ae "x") ρ=some (.af (qv x))∧aj (ae "found") ρ=some (lL s2)∧Kb t.1 x=true
theorem VC {m:Nat}{s2:List RP}{x:Rat}{t:List Int×Int}{ρ:au}(hm:4≤m) (h:Hx s2 x t ρ):fx (λg us=>aw T K m g us) (dG (ay (av 97).body [3,1])) ρ=some (sR x t):=by
 refine oQ h λh1 Z h3 Z h5=>?_
 have h5:=a6 h5
 have c0:=@oT K m t.1 (by exact w8 _ hm) (by exact ir _ (iP h5.1))
 refine(bA (1<t.1.length)).elim (λhl=>?_) λhl=>?_
 ·refine gF (dp.mp ((cU.mp h5.2).resolve_left λq=>absurd (of_decide_eq_true q) (Nat.not_le.mpr hl))) λr hr=>?_
  exact qb λq=>a7 (q h1 c0 (ct (by exact rl 0x4aab0c10b7212101 rfl _ hl:(0:Int)<(t.1.length:Int)-1)) h1 h3 (@y5f K m t.1 x r (by exact rl 0x6a1226a12401 rfl _ hm) (by exact ir _ (iP h5.1)) hr) rfl) (by simp[sR,hl,hr])
 ·exact qb λq=>a7 (q h1 c0 (cf (by exact rl 0x1795561821777212101 rfl _ hl:¬ (0:Int)<(t.1.length:Int)-1))) (by simp[sR,hl])
theorem VD {m:Nat}{s2:List RP}{x:Rat}{t t':List Int×Int}{ρ:au}(hm:4≤m) (hK:dB K) (h:Hx s2 x t ρ) (cI:KI x t=some t'):∃ ρ',cA (λg us=>aw T K m g us) [] MR K (bG (ay (av 97).body [3,1])) ρ=some (.bU ρ')∧Hx s2 x t' ρ':=
 oQ h λh1 h2 h3 h4 h5=>bJ cI λl hz=>gv λhx cI=>ai cI ▸
  ⟨put (ae "many") (.af (.int (t.2+1))) (put (ae "left") (.af (il l)) ρ),cV (lH rfl (d:=il l) (qe λq=>q h1 h3 (@y6f K m x (by exact w8 _ hm)) (@Zh K m t.1 (CV x) l (by exact rl 0x6a1246a12401 rfl _ hm) hK hz))) (cV (qx λq=>q (ln rfl h2)) m5),
   ln rfl lq,lq,ln rfl (ln rfl h3),ln rfl (ln rfl h4),hx⟩
theorem VJ {m:Nat}{s s':List Int×List RP}{x:Rat}{ρ:au}(hm:4≤m) (hK:dB K) (h1:aj (ae "left") ρ=some (.af (il s.1))) (h2:aj (ae "found") ρ=some (lL s.2)) (h:KD s x=some s') :
  ∃ ρ',(bp (dH (ay (av 97).body [3])) (qv x) ρ).bind (λρ'=>cA (λg us=>aw T K m g us) [] MR K (bG (ay (av 97).body [3])) ρ')=some (.bU ρ')∧aj (ae "left") ρ'=some (.af (il s'.1))∧aj (ae "found") ρ'=some (lL s'.2):=by
 refine gg h λhg h=>jF h λt ht h=>?_
 subst h
 refine aT (vY (t:=fx (λg us=>aw T K m g us) (dG (ay (av 97).body [3,1]))) (b:=λρ'=>cA (λg us=>aw T K m g us) [] MR K (bG (ay (av 97).body [3,1])) ρ') (Hx s.2 x) (sR x) (KI x) (λt ρ h=>VC hm h) (λt t' ρ h Z=>VD hm hK h)
  100 K (s.1,0) t (put (ae "many") (.af (.int 0)) (put (ae "x") (.af (qv x)) ρ)) (by unfold dB at hK;exact zu _ hK) ht
  ⟨ln rfl (ln rfl h1),lq,ln rfl lq,ln rfl (ln rfl h2),hg.1⟩) λρ' hR hL=>oQ hR λq1 q2 q3 q4 Z=>?_
 refine(bA (0<t.2)).elim (λh0=>?_) λh0=>?_
 ·refine⟨put (ae "found") (lL (s.2++[(x,t.2)])) ρ',?_,ln rfl q1,by rw[if_pos h0];exact lq⟩
  have gl:(s.2.map λq=>OT.af (pq q)).length+1≤bh:=by rw[ag];exact rl 0x6a40000000231214352029c2801 rfl _ hg.2
  exact oV λq=>a7 (q true hL q2 (ct h0) true q4 q3 q2 gl) (by simp only[QO.out,cR,lL,bL,a8,dM,pq])
 ·exact⟨ρ',oV λq=>q true hL q2 (cf h0),q1,by rw[if_neg h0];exact q4⟩
theorem y2G {f:List Int}{r:List RP}(hn:6≤n) (hK:dB K) (h:KG f=some r):aw T K n (S "rational_roots") [.af (il f)]=some (.list (r.map pq),[.af (il f)]):=by
 apply nS hn;intro m hn
 unfold KG at h
 split at h
 case isFalse=>cases h
 rename_i hg
 refine fL hg λg1 g2 g3=>?_;clear hg
 have fl:=iP g1
 rw[aJ] at h
 refine aT h λxs h1 h=>?_
 split at h
 case isFalse=>cases h
 rename_i hxl
 rw[aJ] at h
 refine aT h λs h2 h3=>?_;clear h
 have bl:=@lZ f (by exact jN _ fl)
 refine eR y2V y2W y2M y30 rfl rfl ?_
 refine(ak ((rfl:cm [S "f"] [OT.af (il f)]=[((ae "f"),.af (il f))])))▸?_
 generalize hρ:put (ae "found") (lL []) (put (ae "left") (.af (il f)) ([((ae "f"),.af (il f))]:au))=ρ
 have l1:aj (ae "f") ρ=some (.af (il f)):=by subst hρ;exact(ln rfl (ln rfl rfl))
 have l2:aj (ae "left") ρ=some (.af (il f)):=by subst hρ;exact(ln rfl lq)
 have l3:aj (ae "found") ρ=some (lL []):=by subst hρ;exact lq
 obtain⟨ρ',⟨q1,q2⟩,hL⟩:=uH (bd:=bp (dH (ay (av 97).body [3]))) (b:=λρ'=>cA (λg us=>aw T K m g us) [] MR K (bG (ay (av 97).body [3])) ρ') qv
  (λ(s:List Int×List RP) ρ=>aj (ae "left") ρ=some (.af (il s.1))∧aj (ae "found") ρ=some (lL s.2)) KD xs (f,[]) s ρ h2 ⟨l2,l3⟩ (by
   rintro s x s' ρ _ ⟨h1,h2⟩ cI
   refine iw (@VJ K m s s' x ρ (by exact rl 0x3509235890a12601 rfl _ hn) hK h1 h2 cI) λρ' a b c=>?_
   exact⟨ρ',⟨b,c⟩,a⟩)
 have hW:eT (fx (λg us=>aw T K m g us) (dG (ay (av 97).body [1]))) (λρ'=>cA (λg us=>aw T K m g us) [] MR K (bG (ay (av 97).body [1])) ρ') K ρ=some (.bU ρ):=
  ZW (by unfold dB at hK;exact rl 0x7212d4240000000000000000201 rfl _ hK) (qb λq=>q l2 bl (ct (by exact Fq _ g2:(0:Int)<(f.length:Int))) l2 (@uD f 0 0 (by exact jN _ fl) g2 rfl) (cf g3))
 have hn0:¬ (f.length:Int)<(f.length:Int):=by exact rl 0x2f28220801 rfl _
 simp only[lL] at q2
 have ff:=pg q2 (by simp only[mr,Om])
 simp only[mx,OV] at ff
 have ho:=@O3 K m 100 (S "sorted_roots") (s.2.map λq=>.af (pq q)) [] QV QW
 simp only[S] at ho
 have fs:eN (λg us=>aw T K m g us) [] (b8 (ay (av 97).body [4])) ρ'=some (.af (.list (r.map pq)),bo (b8 (ay (av 97).body [4])),bX [] ρ'):=by
  refine uF ?_ ?_ ?_
  ·show(ev _ (.Call (.Name _ _) [.Name _ _] [] _) _).bind _=_
   simp only[gR,j',eK,fy,q2,cT,a5,gA,gN,kS,fO,jO,↓reduceIte,String.reduceEq]
  ·show kB _ (.Call (.Name _ _) [.Name _ _] [] _) _=_
   simp only[B3,B6,eK,q2,cT,a5,gA,ho,jO,↓reduceIte,String.reduceEq]
  ·exact qe λq=>q ff (@y3I K m s.2 r (by exact rl 0x3509135890a12601 rfl _ hn) hK h3)
 refine⟨bX [] ρ',?_⟩
 rw[←hρ] at hW hL l1 l2 l3
 exact gL λq=>q l1 hW l2 bl l1 bl (cf hn0) l2 (@y4e K m f xs (by exact Fx _ hn) hK h1) hL rfl false false fs
end
end
section
section
variable {K n:Nat}
noncomputable def L2 (f:Int) (x:Int):Option Int:=if x.natAbs<2^64 then some (cS f x:Int) else none
noncomputable def Ai (l:List Int):Option Int:=l.foldlM L2 0
theorem Y5:T (S "gcd_all")=some (av 4):=by kernel_rfl
theorem YZ:(av 4).params=[S "numbers"]:=by kernel_rfl
theorem y8M:(av 4).PN=[]:=by kernel_rfl
theorem Yc:(av 4).M=[]:=by kernel_rfl
theorem ZN {l:List Int}{r:Int}(hn:2≤n) (hK:dB K) (hl:l.length≤1000) (h:Ai l=some r):aw T K n (S "gcd_all") [.af (il l)]=some (.int r,[.af (il l)]):=by
 apply nS hn;intro m hn
 refine eR Y5 YZ y8M Yc rfl rfl ?_
 refine(ak ((rfl:cm [S "numbers"] [OT.af (il l)]=[((ae "numbers"),.af (il l))])))▸?_
 obtain⟨ρ',q,hL⟩:=uH (bd:=bp (dH (ay (av 4).body [1]))) (b:=λρ'=>cA (λg us=>aw T K m g us) [] [] K (bG (ay (av 4).body [1])) ρ') (λi:Int=>DV.int i)
  (λ(f:Int) ρ=>aj (ae "found") ρ=some (.af (.int f))) L2 l 0 r (put (ae "found") (.af (.int 0)) [((ae "numbers"),.af (il l))]) h (by exact lq) (by
   intro f x f' ρ _ h1 h2
   unfold L2 at h2
   split at h2
   case isFalse=>cases h2
   rename_i hx
   cases h2
   have c:=@IJ K m f x (by exact vN _ hn) (hK.g (B:=64) (by exact zt) hx)
   simp only[S] at c
   refine⟨put (ae "found") (.af (.int (cS f x:Int))) (put (ae "number") (.af (.int x)) ρ),by exact lq,?_⟩
   show(bp (.Name _ _) _ _).bind (λρ'=>cA _ _ _ _ (.Assign [_] _ _::[]) ρ')=_
   simp only[bp]
   refine cV (lH rfl ?_) m5
   simp only[gR,j',eK,fy,fF,jO,↓reduceIte,String.reduceEq,h1,cT,a5,gA,gN,cy,c])
 show ∃ ρ,cA _ _ _ _ (.Assign [_] _ _::.For _ _ _ [] _::.Return (some _) _::[]) _=_
 refine⟨ρ',cV (lH rfl (d:=.int 0) rfl) (cV (ρ':=ρ') ?_ (fZ (jQ (by simp only[gR,q]))))⟩
 rw[←hL]
 show ex _ _ _ _ (.For _ _ _ [] _) _=_
 exact vO (qi λq=>q (ln rfl rfl))
theorem y8B:T (S "zcontent")=some (av 30):=by kernel_rfl
theorem y8F:(av 30).params=[S "p"]:=by kernel_rfl
theorem y7l:(av 30).PN=[]:=by kernel_rfl
theorem y8P:(av 30).M=[]:=by kernel_rfl
theorem BE {l:List Int}{r:Int}(hn:3≤n) (hK:dB K) (hl:l.length≤1000) (h:Ai l=some r):aw T K n (S "zcontent") [.af (il l)]=some (.int r,[.af (il l)]):=by
 apply nS hn;intro m hn
 refine eR y8B y8F y7l y8P rfl rfl ⟨[((ae "p"),.af (il l))],?_⟩
 refine fZ (jQ ?_)
 exact qe λq=>q rfl (@ZN K m l r (by exact vM _ hn) hK hl h)
theorem y8A:T (S "zdivided")=some (av 31):=by kernel_rfl
theorem y8E:(av 31).params=[S "p",S "k"]:=by kernel_rfl
theorem y7k:(av 31).PN=[]:=by kernel_rfl
theorem y8O:(av 31).M=[]:=by kernel_rfl
theorem y6Y {l:List Int}{k:Int}(hn:1≤n) (hl:l.length≤1000) (hk:k≠0):aw T K n (S "zdivided") [.af (il l),.af (.int k)]=some (il (l.map λx=>x.fdiv k),[.af (il l),.af (.int k)]):=by
 apply nS hn;intro m hn
 refine eR y8A y8E y7k y8O rfl rfl ⟨[((ae "p"),.af (il l)),((ae "k"),.af (.int k))],?_⟩
 show cA _ _ _ _ (.Return (some (.ListComp _ [⟨.Name _ _,.Name _ _,[],_⟩] _ _)) _::[]) [((ae "p"),.af (il l)),((ae "k"),.af (.int k))]=_
 refine fZ (jQ ?_)
 refine(ak (show il (l.map λx=>x.fdiv k)=.list (l.map λx=>.int (x.fdiv k)) by rw[il,aN];rfl))▸?_
 refine mI (α:=Int) (λi=>.int i) (λx=>.int (x.fdiv k)) ?_ ?_ (by exact mY _ hl) ?_
 ·kernel_rfl
 ·exact qi λq=>q rfl
 ·intro x _
  refine⟨[((ae "number"),.af (.int x)),((ae "k"),.af (.int k))],?_,?_⟩
  ·kernel_rfl
  ·exact qe λq=>q rfl rfl (nH hk)
noncomputable def HK (l:List Int):Option (List Int):=if hS l=true∧0<l.length then (Ai l).bind λc=>if c≠0 then some (l.map λx=>x.fdiv (if 0<aV l then c else -c)) else none else none
theorem y6n:T (S "zprimitive")=some (av 32):=by kernel_rfl
theorem y6q:(av 32).params=[S "p"]:=by kernel_rfl
theorem y5C:(av 32).PN=[]:=by kernel_rfl
theorem y6y:(av 32).M=[]:=by kernel_rfl
theorem QQ {l r:List Int}(hn:4≤n) (hK:dB K) (h:HK l=some r):aw T K n (S "zprimitive") [.af (il l)]=some (il r,[.af (il l)]):=by
 apply nS hn;intro m hn
 unfold HK at h
 split at h
 case isFalse=>cases h
 rename_i hg
 refine dJ hg λg1 g2=>?_;clear hg
 have fl:=iP g1
 rw[aJ] at h
 refine aT h λc hc h=>?_
 split at h
 case isFalse=>cases h
 rename_i c0
 cases h
 have e2:=@y6Y K m l (if 0<aV l then c else -c) (by exact oN _ hn) (by exact ir _ fl) (by split<;>lia)
 have i1:=@vX l (by exact jN _ fl) g2
 rw[show gi l (l.length-1)=aV l from rfl] at i1
 refine eR y6n y6q y5C y6y rfl rfl ⟨put (ae "content") (.af (.int c)) [((ae "p"),.af (il l))],?_⟩
 refine cV (ρ':=[((ae "p"),.af (il l))]) (kL (c:=false) ?_ rfl) (cV (lH rfl (d:=.int c) ?_) (fZ (jQ ?_)))
 ·have:¬ (l.length:Int)=0:=by exact xc _ g2
  exact qb λq=>q rfl (@lZ l (by exact jN _ fl)) (cf this)
 ·exact qe λq=>q rfl (@BE K m l c (by exact pd _ hn) hK (by exact ir _ fl) hc)
 ·by_cases hp:0<aV l
  ·rw[if_pos hp] at e2 ⊢
   exact qe λq=>q (ln rfl rfl) (ln rfl rfl) i1 (ct hp) lq e2
  ·rw[if_neg hp] at e2 ⊢
   exact qe λq=>q (ln rfl rfl) (ln rfl rfl) i1 (cf hp) lq e2
noncomputable def Ki (b:Int) (x:Rat):Option Int:=if xW x=true∧(cS b x.den:Int)≠0 then ng (b.fdiv (cS b x.den:Int)) x.den else none
noncomputable def Kh (q:List Rat):Option (List Int×Rat):=if 0<q.length∧q.length≤100 then (q.foldlM Ki 1).bind λb=>
 if b≠0∧b.natAbs<2^64∧(q.all λx=>cj x.num (b.fdiv x.den))=true then (Ai (q.map λx=>x.num*b.fdiv x.den)).bind λc=>(HK (q.map λx=>x.num*b.fdiv x.den)).bind λw=>some (w,aI (if 0<aV (q.map λx=>x.num*b.fdiv x.den) then c else -c) b) else none else none
theorem Tn:T (S "to_z")=some (av 44):=by kernel_rfl
theorem SD:(av 44).params=[S "q"]:=by kernel_rfl
theorem Vd:(av 44).PN=[]:=by kernel_rfl
theorem S8:(av 44).M=[]:=by kernel_rfl
theorem IV (x:Rat):iJ (.af (qv x)) (.af (.int 0))=some (.af (.int x.num))∧iJ (.af (qv x)) (.af (.int 1))=some (.af (.int (x.den:Int))):=
 ⟨by simp only[pF,qv,aF,aW,aX,Nat.reduceAdd,IA,ao,eX,aD],by simp only[pF,qv,aF,aW,aX,Nat.reduceAdd,Di,ao,eX,eY,aD]⟩
theorem VU {q:List Rat}{w:List Int}{r:Rat}(hn:5≤n) (hK:dB K) (h:Kh q=some (w,r)):aw T K n (S "to_z") [.af (ql q)]=some (.tup [il w,qv r],[.af (ql q)]):=by
 apply nS hn;intro m hn
 unfold Kh at h
 split at h
 case isFalse=>cases h
 rename_i hg
 refine dJ hg λg1 g2=>?_;clear hg
 rw[aJ] at h
 refine aT h λb hb h=>?_
 split at h
 case isFalse=>cases h
 rename_i l7
 refine fL l7 λb0 b1 b2=>?_;clear l7
 rw[aJ] at h
 refine aT h λc hc h=>?_
 rw[aJ] at h
 refine aT h λw' hw h=>?_
 cases h
 have hl:(q.map λx=>x.num*b.fdiv x.den).length=q.length:=by simp
 have e3:=@qW K m (if 0<aV (q.map λx=>x.num*b.fdiv x.den) then c else -c) b (by exact HT _ hn) b0 (hK.g (B:=64) (by exact zt) b1)
 have i1:=@vX (q.map λx=>x.num*b.fdiv x.den) (by exact sC _ _ g2 hl) (by exact rl 0x39014bd080b90902 rfl _ _ g1 hl)
 rw[show gi (q.map λx=>x.num*b.fdiv x.den) ((q.map λx=>x.num*b.fdiv x.den).length-1)=aV (q.map λx=>x.num*b.fdiv x.den) from rfl] at i1
 refine eR Tn SD Vd S8 rfl rfl ?_
 refine(ak ((rfl:cm [S "q"] [OT.af (ql q)]=[((ae "q"),.af (ql q))])))▸?_
 obtain⟨ρ',⟨q1,q2⟩,hL⟩:=uH (bd:=bp (dH (ay (av 44).body [2]))) (b:=λρ'=>cA (λg us=>aw T K m g us) [] [] K (bG (ay (av 44).body [2])) ρ') qv
  (λ(f:Int) ρ=>aj (ae "bottom") ρ=some (.af (.int f))∧aj (ae "q") ρ=some (.af (ql q))) Ki q 1 b (put (ae "bottom") (.af (.int 1)) [((ae "q"),.af (ql q))]) hb ⟨by exact lq,by exact(ln rfl rfl)⟩ (by
   rintro f x f' ρ _ ⟨h1,h2⟩ h3
   unfold Ki at h3
   split at h3
   case isFalse=>cases h3
   rename_i hx
   refine dJ hx λx1 x2=>?_;clear hx
   obtain⟨m1,rfl⟩:=xv h3
   refine⟨put (ae "bottom") (.af (.int (f.fdiv (cS f x.den:Int)*x.den))) (put (ae "number") (.af (qv x)) ρ),⟨by exact lq,by exact(ln rfl (ln rfl h2))⟩,?_⟩
   exact oV λq=>q true h1 h1 ((IV x).2) (@IJ K m f x.den (by exact w6 _ hn) (hK.g (B:=64) (by exact zt) (by have:=(I1 x1).2;simpa using this))) (nH x2) ((IV x).2) (fY m1))
 have bl:bi (ae "len") [.af (ql q)]=some (.int (q.length:Int)):=by simp only[jo,jI,ql,ag,jO,↓reduceIte,show q.length≤bh by exact j6 _ g2]
 have Hf:ev (λg us=>aw T K m g us) (b8 (ay (av 44).body [3])) ρ'=some (.af (il (q.map λx=>x.num*b.fdiv x.den))):=by
  rw[show il (q.map λx=>x.num*b.fdiv x.den)=.list (q.map λx=>.int (x.num*b.fdiv x.den)) by rw[il,aN];rfl]
  refine mI (α:=Rat) qv (λx=>.int (x.num*b.fdiv x.den)) ?_ ?_ (by exact j6 _ g2) ?_
  ·simp only[cb,cD,q1,bI];rfl
  ·exact qi λq=>q q2
  ·intro x hx
   have m1:=aA.mp b2 x hx
   have d0:=iC x
   refine dJ (IV x) λi0 i1=>?_
   refine⟨[((ae "number"),.af (qv x)),((ae "bottom"),.af (.int b))],?_,?_⟩
   ·simp only[cW,iS,seen,jD,jl,cy,aS,bj,q1,gn,jO,↓reduceIte,String.reduceEq,bB]
   ·exact qe λq=>q rfl i0 rfl rfl i1 (nH d0) (fY m1)
 generalize (q.map λx=>x.num*b.fdiv x.den)=WH at *
 refine⟨put (ae "content") (.af (.int c)) (put (ae "whole") (.af (il WH)) ρ'),?_⟩
 by_cases hp:0<aV WH
 ·rw[if_pos hp] at e3 ⊢
  exact gL λq=>q rfl bl (cf (by exact xc _ g1)) true rfl hL rfl true Hf true (@BE K m _ c (by exact rl 0x35091b5890a12501 rfl _ hn) hK (by exact rl 0x1a9014e143d01435242050102 rfl _ _ g2 hl) hc) true (@QQ K m _ w (by exact AY _ hn) hK hw) i1 (ct hp) q1 e3
 ·rw[if_neg hp] at e3 ⊢
  exact gL λq=>q rfl bl (cf (by exact xc _ g1)) true rfl hL rfl true Hf true (@BE K m _ c (by exact rl 0x35091b5890a12501 rfl _ hn) hK (by exact rl 0x1a9014e143d01435242050102 rfl _ _ g2 hl) hc) true (@QQ K m _ w (by exact AY _ hn) hK hw) i1 (cf hp) q1 e3
end
end
section
noncomputable def jC:List Int→Nat→List (List Int)
 | _,0=>[[]]
 | [],_+1=>[]
 | a::l,k+1=>(jC l k).map (a::·)++jC l (k+1)
noncomputable def oA:List Int:=[-3,-2,-1,1,2,3,4]
theorem canon:([1,2,3]:List Int).all (λv=>([1,2,3]:List Nat).all λk=>(tup v k).all λus=>(jC (iD v) k).contains (gH us)&&(jC oA k).contains (gH us)&&decide (fp us=fp (gH us))&&decide (dF us=dF (gH us)))=true:=by decide +kernel
noncomputable def pR (v:Int) (us:List Int):Bool:=match Kh (qF v us).reverse with
 | some (w,_)=>match KG w with
  | some rs=>decide (rs=us.map λu=>(aI u v,1))
  | none=>false
 | none=>false
theorem TN:([1,2,3]:List Int).all (λv=>(jC (iD v) 1).all λus=>pR v us)=true:=by decide +kernel
theorem TP:([1,2,3]:List Int).all (λv=>(jC (iD v) 2).all λus=>pR v us)=true:=by decide +kernel
theorem VG:(jC (iD 1) 3).all (λus=>pR 1 us)=true:=by decide +kernel
theorem VH:(jC (iD 2) 3).all (λus=>pR 2 us)=true:=by decide +kernel
theorem VI:(jC (iD 3) 3).all (λus=>pR 3 us)=true:=by decide +kernel
theorem Zk {v:Int}{k:Nat}{us:List Int}(hv:v∈([1,2,3]:List Int)) (hk:k∈([1,2,3]:List Nat)) (h:us∈jC (iD v) k):pR v us=true:=by
 have yt:k=1∨k=2∨k=3:=by simpa using hk
 rcases yt with rfl | rfl | rfl
 ·exact aA.mp (aA.mp TN v hv) us h
 ·exact aA.mp (aA.mp TP v hv) us h
 ·have rt:v=1∨v=2∨v=3:=by simpa using hv
  rcases rt with rfl | rfl | rfl
  ·exact aA.mp VG us h
  ·exact aA.mp VH us h
  ·exact aA.mp VI us h
theorem P5 {v:Int}{k:Nat}{us:List Int}(hv:v∈([1,2,3]:List Int)) (hk:k∈([1,2,3]:List Nat)) (h:us∈tup v k):gH us∈jC (iD v) k∧gH us∈jC oA k∧fp us=fp (gH us)∧dF us=dF (gH us):=by
 have:=aA.mp (aA.mp (aA.mp canon v hv) k hk) us h
 simp only[aY,dX,decide_eq_true_eq] at this
 exact⟨this.1.1.1,this.1.1.2,this.1.2,this.2⟩
theorem Pm {v:Int}:∀ (k:Nat) (us:List Int),us∈tup v k→us.length=k
 | 0,us,h=>by simp only[A7,aK] at h;subst h;rfl
 | k+1,us,h=>by
  refine aT (bN.mp h) λxH h1 h2=>?_
  obtain⟨u,_,rfl⟩:=aE.mp h2
  rw[aR,Pm k xH h1];rfl
theorem Vw (v:Int) (us:List Int) (h:us.length=1∨us.length=2∨us.length=3):qF v (gH us)=qF v us:=by
 match us,h with
 | [u],_=>rfl
 | [u,w],_=>
  simp only[Oe,Of,F2,A9]
  split
  ·rfl
  ·simp only[qF]
   generalize X v u=a
   generalize X v w=b
   rw[Rat.add_comm b a,Rat.mul_comm b a]
 | [u,w,x],_=>
  have p:∀ a b c:Rat,([1,-(a+b+c),a*b+a*c+b*c,-(a*b*c)]:List Rat)=[1,-(a+c+b),a*c+a*b+c*b,-(a*c*b)]:=λa b c=>by
   rw[show a+b+c=a+c+b by grind,show a*b+a*c+b*c=a*c+a*b+c*b by grind,show a*b*c=a*c*b by grind]
  have q:∀ a b c:Rat,([1,-(a+b+c),a*b+a*c+b*c,-(a*b*c)]:List Rat)=[1,-(b+a+c),b*a+b*c+a*c,-(b*a*c)]:=λa b c=>by
   rw[show a+b+c=b+a+c by grind,show a*b+a*c+b*c=b*a+b*c+a*c by grind,show a*b*c=b*a*c by grind]
  simp only[Oe,Of,F2,A9]
  split<;>simp only[F2,A9]<;>split<;>(try simp only[])<;>(try split)<;>simp only[qF]
  all_goals
   generalize X v u=a
   generalize X v w=b
   generalize X v x=c
   first
    | rfl
    | exact p ..
    | exact q ..
    | (rw[p];exact q ..)
    | (rw[q];exact p ..)
    | (rw[p,q];exact p ..)
    | (rw[q,p];exact q ..)
set_option tactic.hygienic true in
theorem Yy {K m k:Nat}{v:Int}{us:List Int}(hm:6≤m) (hK:dB K) (hv:v∈([1,2,3]:List Int)) (hk:k∈([1,2,3]:List Nat)) (h:us∈tup v k) :
  ∃ w r,aw T K m (S "to_z") [.af (ql (qF v us).reverse)]=some (.tup [il w,r],[.af (ql (qF v us).reverse)])∧aw T K m (S "rational_roots") [.af (il w)]=some (hJ v us,[.af (il w)]):=by
 have yt:k=1∨k=2∨k=3:=by simpa using hk
 have hc:=Zk hv hk (P5 hv hk h).1
 have hl:=Pm k us h
 unfold pR at hc
 rw[Vw v us (by exact rl 0x7c3f0bd23405e91202f485017a101f87e17a4687a4487a42802 (by kernel_rfl) _ _ yt hl)] at hc
 split at hc
 case h_2=>cases hc
 case h_1 w r ht=>
  split at hc
  case h_2=>cases hc
  case h_1 rs hr=>
   have Dr:rs=(gH us).map λu=>(aI u v,1):=by simpa using hc
   refine⟨w,qv r,VU (by exact rl 0x6a1256a12601 rfl _ hm) hK ht,?_⟩
   have e:=@y2G K m w rs hm hK hr
   rw[e,Dr]
   unfold hJ
   rw[Qc,aN]
   rfl
end
section
section
variable {K n:Nat}
noncomputable def Ar:=List Int×List Int×Int
noncomputable def uU (b:List Int) (s:Ar):Bool:=decide (b.length≤s.1.length)
noncomputable def KS (b:List Int) (s:Ar):Option Ar:=
 if (hS s.1&&hS s.2.1&&decide ((aV s.1).natAbs<2^64))=true then
  some (sA (jT s.1 (aV b)) ((nF (jT b (aV s.1)) (s.1.length-b.length)).map λx=>-x),sA (jT s.2.1 (aV b)) ((nF [-(aV s.1)] (s.1.length-b.length)).map λx=>-x),s.2.2-1)
 else none
noncomputable def rW (a b:List Int):Int:=if (0:Int)<(a.length:Int)-(b.length:Int)+1 then (a.length:Int)-(b.length:Int)+1 else 0
noncomputable def ps (a b:List Int):Option (List Int×List Int):=
 if (hS a&&hS b&&decide (0<b.length))=true then
  (kR (uU b) (KS b) 100 (a,[],rW a b)).bind λs=>if (hS s.1&&hS s.2.1&&eC (aV b) s.2.2&&decide (((aV b)^s.2.2.toNat).natAbs<2^64))=true then some (jT s.2.1 ((aV b)^s.2.2.toNat),jT s.1 ((aV b)^s.2.2.toNat)) else none
 else none
theorem PR {l:List Int}(h:hS l=true):(aV l).natAbs<2^64:=I0 h _
theorem Jq (p:List Int) (k:Int):(jT p k).length≤p.length:=by unfold jT;split<;>simp
theorem Pq (p:List Int) (k:Nat):(nF p k).length≤k+p.length:=by
 unfold nF;split
 ·simp
 ·rw[aR,aH];exact rl 0xd620286202802 rfl _ _
theorem Xu:T (S "pseudo")=some (av 61):=by kernel_rfl
theorem Xl:(av 61).params=[S "a",S "b"]:=by kernel_rfl
theorem YI:(av 61).PN=[]:=by kernel_rfl
theorem Xc:(av 61).M=[]:=by kernel_rfl
noncomputable def Hy (b:List Int) (F M:Int) (s:Ar) (ρ:au):Prop:=aj (ae "b") ρ=some (.af (il b))∧aj (ae "rest") ρ=some (.af (il s.1))∧aj (ae "found") ρ=some (.af (il s.2.1))∧aj (ae "left") ρ=some (.af (.int s.2.2))∧(aj (ae "first") ρ=some (.af (.int F))∧aj (ae "many") ρ=some (.af (.int M)))∧s.1.length≤1000
theorem Vt {b:List Int}{F M:Int}{s:Ar}{ρ:au}(lb:b.length≤200) (h:Hy b F M s ρ):fx (λg us=>aw T K m g us) (dG (ay (av 61).body [3])) ρ=some (uU b s):=
 qb λq=>(q h.2.1 (@lZ s.1 (by exact mY _ h.2.2.2.2.2)) h.1 (@lZ b (by exact jN _ lb)) rfl).trans (congrArg some (decide_eq_decide.mpr dv))
theorem Vu {b:List Int}{F M:Int}{s s':Ar}{ρ:au}(hn:3+1≤m+1) (hK:dB K) (gb:hS b=true) (b0:0<b.length) (hF:aV b=F) (h:Hy b F M s ρ) (yu:uU b s=true) (cI:KS b s=some s') :
  ∃ ρ',cA (λg us=>aw T K m g us) [] [] K (bG (ay (av 61).body [3])) ρ=some (.bU ρ')∧Hy b F M s' ρ':=by
 have lb:=iP gb
 have yR:=@lZ b (by exact jN _ lb)
 have ll:=PR gb
 rw[hF] at ll
 refine tY h λh1 h2 h3 h4 h5 h6=>?_
 have h5':=h5.2
 have h5:=h5.1
 have pL:b.length≤s.1.length:=of_decide_eq_true yu
 refine gg cI λhc cI=>?_
 have cI:=ai cI
 rw[hF] at cI
 subst cI
 have hc:=gI hc
 have c1:=hc.1.1
 have c2:=hc.1.2
 have c3:=of_decide_eq_true hc.2
 have ls:=iP c1
 have i1:=@vX s.1 (by exact jN _ ls) (by exact AU _ _ b0 pL)
 rw[show gi s.1 (s.1.length-1)=aV s.1 from rfl] at i1
 have l1:=Jq s.1 F
 have l2:=Jq b (aV s.1)
 have l3:=Pq (jT b (aV s.1)) (s.1.length-b.length)
 have l5:=Pq [-(aV s.1)] (s.1.length-b.length)
 simp only[aF,aW] at l5
 have l6:=Po (jT s.1 F) ((nF (jT b (aV s.1)) (s.1.length-b.length)).map λx=>-x)
 rw[ag] at l6
 have e1:=@zW K m s.2.1 F (by exact oN _ hn) (by exact ir _ (iP c2)) (xB c2 ll)
 have e2:=@JU K m [-(aV s.1)] (s.1.length-b.length) (by exact oN _ hn) (by simp) (by exact HY _ _ ls)
 have e3:=@Jb K m (jT s.2.1 F) (nF [-(aV s.1)] (s.1.length-b.length)) (by exact pd _ hn) hK (by exact AG _ _ (iP c2) (Jq s.2.1 F)) (by exact rl 0xd480a70a04d62436420281352008d0103 rfl _ _ _ ls l5)
 have e4:=@zW K m s.1 F (by exact oN _ hn) (by exact ir _ ls) (xB c1 ll)
 have e5:=@zW K m b (aV s.1) (by exact oN _ hn) (by exact ir _ lb) (xB gb c3)
 have e6:=@JU K m (jT b (aV s.1)) (s.1.length-b.length) (by exact oN _ hn) (by exact AG _ _ lb l2) (by exact HY _ _ ls)
 have e7:=@Jb K m (jT s.1 F) (nF (jT b (aV s.1)) (s.1.length-b.length)) (by exact pd _ hn) hK (by exact AG _ _ ls l1) (by exact rl 0x1a9014e140dac45902405036a0486a4011a02d4050204 rfl _ _ _ _ pL ls l2 l3)
 have ep:(s.1.length:Int)-(b.length:Int)=((s.1.length-b.length:Nat):Int):=Il _ _ pL
 generalize hN:aV s.1=N at *
 generalize hPw:s.1.length-b.length=pw at *
 generalize nF [-N] pw=Z1 at *
 generalize nF (jT b N) pw=Z2 at *
 generalize jT s.2.1 F=Z3 at *
 generalize jT s.1 F=Z4 at *
 generalize jT b N=Z5 at *
 refine⟨put (ae "left") (.af (.int (s.2.2-1))) (put (ae "rest") (.af (il (sA Z4 (Z2.map λx=>-x)))) (put (ae "found") (.af (il (sA Z3 (Z1.map λx=>-x)))) (put (ae "power") (.af (.int (pw:Int))) (put (ae "number") (.af (.int N)) ρ)))),?_,?_,?_,?_,?_,?_,?_⟩
 ·rw[←ep] at e2 e6
  exact gL λq=>a7 (q h2 i1 h2 (@lZ s.1 (by exact jN _ ls)) h1 yR true h3 h5 e1 e2 e3 true h2 h5 e4 h1 e5 e6 e7 h4) (by simp only[QO.out,cR,sV,ep])
 ·exact(ln rfl (ln rfl (ln rfl (ln rfl (ln rfl h1)))))
 ·exact(ln rfl lq)
 ·exact(ln rfl (ln rfl lq))
 ·exact lq
 ·exact⟨by exact(ln rfl (ln rfl (ln rfl (ln rfl (ln rfl h5))))),by exact(ln rfl (ln rfl (ln rfl (ln rfl (ln rfl h5')))))⟩
 ·dsimp only;exact rl 0x352029c2813588411016a0a86fc880a0681350640e70412b0416083352008d0607 (by kernel_rfl) _ _ _ _ _ _ _ ls ep l1 l6 l2 l3
theorem YV {a b q r:List Int}(hn:4≤n) (hK:dB K) (h:ps a b=some (q,r)):aw T K n (S "pseudo") [.af (il a),.af (il b)]=some (.tup [il q,il r,.int (rW a b)],[.af (il a),.af (il b)]):=by
 apply nS hn;intro m hn
 refine gg h λhg h=>bJ h λs hs h=>gg h λl7 h=>?_
 have hg:=gI hg
 have ga:=hg.1.1
 have gb:=hg.1.2
 have b0:=of_decide_eq_true hg.2
 have l7:=a6 l7
 have g4:=of_decide_eq_true l7.2
 have l7:=gI l7.1
 have g1:=l7.1.1
 have g2:=l7.1.2
 have g3:=l7.2
 have h:=eO (ai h)
 have hq:=h.1
 have hr:=h.2
 subst hq hr
 have la:=iP ga
 have lb:=iP gb
 refine eR Xu Xl YI Xc rfl rfl ?_
 have z:cm [S "a",S "b"] [OT.af (il a),.af (il b)]=[((ae "a"),.af (il a)),((ae "b"),.af (il b))]:=rfl
 refine(ak z)▸?_
 generalize dz:([((ae "a"),.af (il a)),((ae "b"),.af (il b))]:au)=ρ0
 have a1:aj (ae "a") ρ0=some (.af (il a)):=by subst dz;simp only[gn,↓reduceIte]
 have a2:aj (ae "b") ρ0=some (.af (il b)):=by subst dz;simp only[gn,↓reduceIte,String.reduceEq]
 clear dz z
 have yR:=@lZ b (by exact jN _ lb)
 have ll:=PR gb
 generalize hF:aV b=F at *
 generalize mu:put (ae "first") (.af (.int F)) (put (ae "left") (.af (.int (rW a b))) (put (ae "found") (.af (il [])) (put (ae "rest") (.af (il a)) (put (ae "many") (.af (.int (rW a b))) ρ0))))=ρ1
 refine aT (vY (t:=fx (λg us=>aw T K m g us) (dG (ay (av 61).body [3]))) (b:=λρ'=>cA (λg us=>aw T K m g us) [] [] K (bG (ay (av 61).body [3])) ρ') (Hy b F (rW a b)) (uU b) (KS b) (λs ρ h=>Vt lb h) (λs s' ρ h=>Vu hn hK gb b0 hF h)
  100 K (a,[],rW a b) s ρ1 (by unfold dB at hK;exact zu _ hK) hs (by
   subst mu
   refine⟨?_,?_,?_,?_,⟨?_,?_⟩,by dsimp only;exact ir _ la⟩<;>(first | exact(ln rfl (ln rfl (ln rfl (ln rfl (ln rfl a2))))) | exact(ln rfl (ln rfl (ln rfl lq))) | exact(ln rfl (ln rfl lq)) | exact(ln rfl lq) | exact lq | exact(ln rfl (ln rfl (ln rfl (ln rfl lq))))))) λρ' hR hL=>?_
 refine tY hR λq1 q2 q3 q4 q5 q6=>?_
 have zl:=@Gs K m b (by exact oN _ hn) (by exact ir _ lb) b0
 have zl:=hF▸(show gi b (b.length-1)=aV b from rfl)▸zl
 rw[←mu] at hL
 refine⟨put (ae "more") (.af (.int (F^s.2.2.toNat))) ρ',?_⟩
 exact gL λq=>q true true a2 (@QY K m b (by exact oN _ hn) (by exact ir _ lb) b0) true a1 (@lZ a (by exact jN _ la)) a2 yR rfl a1 (by simp only[vw,pO,il,ag,jO,↓reduceIte,show a.length≤bh by exact jN _ la]:bi (ae "list") [.af (il a)]=some (il a)) a2 zl hL true q5.1 q4 (mH g3) true q3 (@zW K m s.2.1 (F^s.2.2.toNat) (by exact oN _ hn) (by exact ir _ (iP g2)) (xB g2 g4)) q2 (@zW K m s.1 (F^s.2.2.toNat) (by exact oN _ hn) (by exact rl 0x1a9014e14352029c2801 rfl _ q6) (xB g1 g4)) q5.2
end
end
section
section
variable {K n:Nat}
theorem Y4:T (S "divided")=some (av 64):=by kernel_rfl
theorem YY:(av 64).params=[S "p",S "number"]:=by kernel_rfl
theorem y8N:(av 64).PN=[]:=by kernel_rfl
theorem Yb:(av 64).M=[]:=by kernel_rfl
theorem J0 {l:List Int}{k:Int}(hn:1≤n) (hl:l.length≤1000) (hk:k≠0):aw T K n (S "divided") [.af (il l),.af (.int k)]=some (il (l.map λx=>x.fdiv k),[.af (il l),.af (.int k)]):=by
 apply nS hn;intro m hn
 refine eR Y4 YY y8N Yb rfl rfl ⟨[((ae "p"),.af (il l)),((ae "number"),.af (.int k))],?_⟩
 show cA _ _ _ _ (.Return (some (.ListComp _ [⟨.Name _ _,.Name _ _,[],_⟩] _ _)) _::[]) [((ae "p"),.af (il l)),((ae "number"),.af (.int k))]=_
 refine fZ (jQ ?_)
 refine(ak (show il (l.map λx=>x.fdiv k)=.list (l.map λx=>.int (x.fdiv k)) by rw[il,aN];rfl))▸?_
 refine mI (α:=Int) (λi=>.int i) (λx=>.int (x.fdiv k)) ?_ ?_ (by exact mY _ hl) ?_
 ·kernel_rfl
 ·exact qi λq=>q rfl
 ·intro x _
  refine⟨[((ae "coefficient"),.af (.int x)),((ae "number"),.af (.int k))],?_,?_⟩
  ·kernel_rfl
  ·exact qe λq=>q rfl rfl (nH hk)
noncomputable def R9 (a b:List Int):Option (List Int):=if hS a=true∧hS b=true∧0<b.length then (ps a b).bind λq=>
 if hS q.2=true∧eC (aV b) ((a.length:Int)-1-((b.length:Int)-1)+1-rW a b)=true∧((aV b)^((a.length:Int)-1-((b.length:Int)-1)+1-rW a b).toNat).natAbs<2^64 then some (q.2.map λx=>x*(aV b)^((a.length:Int)-1-((b.length:Int)-1)+1-rW a b).toNat) else none else none
theorem y7d:T (S "full_rest")=some (av 65):=by kernel_rfl
theorem y7i:(av 65).params=[S "a",S "b"]:=by kernel_rfl
theorem y6w:(av 65).PN=[]:=by kernel_rfl
theorem y7r:(av 65).M=[]:=by kernel_rfl
theorem y6g {a b r:List Int}(hn:5≤n) (hK:dB K) (h:R9 a b=some r):aw T K n (S "full_rest") [.af (il a),.af (il b)]=some (il r,[.af (il a),.af (il b)]):=by
 apply nS hn;intro m hn
 refine gg h λhg h=>bJ h λqw hp h=>gg h λl7 h=>fL hg λg1 g2 b0=>fL l7 λg3 g4 g5=>?_
 obtain⟨q,w⟩:=qw
 have h:=ai h
 subst h
 have e1:=@YV K m a b q w (by exact AY _ hn) hK hp
 have e4:=@Gs K m b (by exact w6 _ hn) (by exact ir _ (iP g2)) b0
 rw[show gi b (b.length-1)=aV b from rfl] at e4
 generalize hL:(a.length:Int)-1-((b.length:Int)-1)+1-rW a b=L at *
 generalize hρ:put (ae "power") (.af (.int (rW a b))) (put (ae "rest") (.af (il w)) (put (ae "quotient") (.af (il q)) ([((ae "a"),.af (il a)),((ae "b"),.af (il b))]:au)))=ρ
 have l1:aj (ae "a") ρ=some (.af (il a)):=by subst hρ;exact(ln rfl (ln rfl (ln rfl rfl)))
 have l2:aj (ae "b") ρ=some (.af (il b)):=by subst hρ;exact(ln rfl (ln rfl (ln rfl rfl)))
 have l3:aj (ae "rest") ρ=some (.af (il w)):=by subst hρ;exact(ln rfl lq)
 have l4:aj (ae "power") ρ=some (.af (.int (rW a b))):=by subst hρ;exact lq
 refine eR y7d y7i y6w y7r rfl rfl ⟨put (ae "lacking") (.af (.int L)) ρ,?_⟩
 refine cV (ρ':=ρ) ?_ (cV (lH rfl (d:=.int L) ?_) (fZ (jQ ?_)))
 ·exact hρ▸(qx λq=>q true rfl rfl e1 aF)
 ·exact qe λq=>a7 (q l1 (@oT K m a (by exact w6 _ hn) (by exact ir _ (iP g1))) l2 (@oT K m b (by exact w6 _ hn) (by exact ir _ (iP g2))) l4) (by simp only[hL])
 ·refine(ak (show il (w.map λx=>x*aV b^L.toNat)=.list (w.map λx=>.int (x*aV b^L.toNat)) by rw[il,aN];rfl))▸?_
  refine mI (α:=Int) (λi=>.int i) (λx=>.int (x*aV b^L.toNat)) ?_ ?_ (by exact jN _ (iP g3)) ?_
  ·kernel_rfl
  ·exact qi λq=>q (ln rfl l3)
  ·intro x hx
   refine⟨[((ae "coefficient"),.af (.int x)),((ae "b"),.af (il b)),((ae "lacking"),.af (.int L))],?_,?_⟩
   ·kernel_rfl
   ·exact qe λq=>q rfl rfl e4 rfl (mH g4) (fY ((xB g3 g5) x hx))
noncomputable def sy (p:List Int):List Int:=((az p.length).map λi=>gi p i*(i:Int)).drop 1
theorem Y9:T (S "zderive")=some (av 33):=by kernel_rfl
theorem Y3:(av 33).params=[S "p"]:=by kernel_rfl
theorem y8I:(av 33).PN=[]:=by kernel_rfl
theorem YG:(av 33).M=[]:=by kernel_rfl
theorem ZQ {p:List Int}(hn:1≤n) (hp:hS p=true) (h0:0<p.length):aw T K n (S "zderive") [.af (il p)]=some (il (sy p),[.af (il p)]):=by
 apply nS hn;intro m hn
 have hl:=iP hp
 refine eR Y9 Y3 y8I YG rfl rfl ⟨[((ae "p"),.af (il p))],?_⟩
 have fs:ev (λg us=>aw T K m g us) (jG (b8 (ay (av 33).body [0])) [0]) [((ae "p"),.af (il p))]=some (.af (il ((az p.length).map λi=>gi p i*(i:Int)))):=by
  refine(ak (show il ((az p.length).map λi=>gi p i*(i:Int))=.list ((az p.length).map λi=>.int (gi p i*(i:Int))) by rw[il,aN];rfl))▸?_
  refine mI (α:=Nat) (λi=>.tup [.int (i:Int),.int (gi p i)]) (λi=>.int (gi p i*(i:Int))) ?_ ?_ (by simp;exact jN _ hl) ?_
  ·kernel_rfl
  ·have e:eh 0 (p.map DV.int)=(az p.length).map λi=>.tup [.int (i:Int),.int (gi p i)]:=by
    apply lW
    ·rw[qX];simp
    ·intro i h1 h2
     have hi:i<(p.map DV.int).length:=by rw[qX] at h1;exact h1
     rw[xp _ _ _ _ hi,bF,bF,dN,aX]
     rw[ag] at hi
     simp[gi,hi]
   exact qi λq=>a7 (q rfl (by(simp;exact jN _ hl))) (by simp only[e])
  ·intro i hi
   have jc:=bY.mp hi
   refine⟨[((ae "number"),.af (.int (gi p i))),((ae "power"),.af (.int (i:Int)))],?_,?_⟩
   ·kernel_rfl
   ·exact qe λq=>q rfl rfl (fY (gT (A:=64) (B:=64) (I0 hp i) (by unfold b6;simp;exact rl 0x724000000000000000000000000002405c8405a90046802 rfl _ _ hl jc) (by exact Fj):cj (gi p i) (i:Int)=true))
 refine fZ (jQ ?_)
 have s1:m7 (((az p.length).map λi=>gi p i*(i:Int)).map .int) (some 1) none none=some ((sy p).map .int):=by
  have e1:kms_lo (some 1) p.length=1:=by simp only[kms_lo];rw[if_neg (by exact rl 0x1792d6100 rfl)];simp;exact rl 0x3d21f95090b90901 rfl _ h0
  have e2:kms_hi none p.length=p.length:=rfl
  simp only[nZ,ag,cC,show p.length≤bh by exact jN _ hl,if_true,e1,e2,sy,oF]
  congr 1
  exact cX (by simp)
 exact qe λq=>q true fs s1
structure RS where
 a:List Int
 b:List Int
 sign:Int
 g:Int
 h:Int
noncomputable def xI (s:RS):Bool:=decide (1<s.b.length)
noncomputable def pB (s:RS):Int:=(s.a.length:Int)-1-((s.b.length:Int)-1)
noncomputable def uV (l:List Int):Bool:=decide (((l.length:Int)-1).fmod 2=1)
noncomputable def KC (s:RS):Option RS:=
 if hS s.a=true∧hS s.b=true∧0<s.b.length∧eC s.h (pB s)=true∧cj s.g (s.h^(pB s).toNat)=true∧s.g*s.h^(pB s).toNat≠0∧0<pB s∧eC (aV s.b) (pB s)=true∧eC s.h (pB s-1)=true∧s.h^(pB s-1).toNat≠0 then
  (R9 s.a s.b).bind λr=>if hS r=true then some ⟨s.b,r.map λx=>x.fdiv (s.g*s.h^(pB s).toNat),if uV s.a&&uV s.b then -s.sign else s.sign,aV s.b,((aV s.b)^(pB s).toNat).fdiv (s.h^(pB s-1).toNat)⟩ else none
 else none
noncomputable def Cp (a b:List Int) (sg:Int):Option Int:=(kR xI KC 50 ⟨a,b,sg,1,1⟩).bind λs=>
 if hS s.a=true∧s.b.length=1∧1<s.a.length∧eC (gi s.b 0) ((s.a.length:Int)-1)=true∧eC s.h ((s.a.length:Int)-1-1)=true∧s.h^((s.a.length:Int)-1-1).toNat≠0 then
  ng s.sign (((gi s.b 0)^((s.a.length:Int)-1).toNat).fdiv (s.h^((s.a.length:Int)-1-1).toNat)) else none
theorem JZ {l:List Int}(h:0<l.length):jy .Eq (il l) (.list [])=some false:=by
 have d:dZ (gO (l.map DV.int)) 8=true:=by
  have:gO (l.map DV.int)=0:=ot l
  refine(ak this)▸?_;rfl
 have e:iW (l.map DV.int) []=false:=by
  cases l with
  | nil=>simp at h
  | cons a l=>rfl
 simp only[il,EB,Ei,(mL l:dU (l.map DV.int)=true),d,e]
 rfl
where
 mL:∀ l:List Int,dU (l.map DV.int)=true
  | []=>rfl
  | _::l=>mL l
 ot:∀ l:List Int,gO (l.map DV.int)=0
  | []=>rfl
  | a::l=>(congrArg (max 0) (ot l)).trans rfl
theorem y3Z:T (S "row_resultant")=some (av 66):=by kernel_rfl
theorem y42:(av 66).params=[S "a",S "b",S "sign"]:=by kernel_rfl
theorem y2X:(av 66).PN=[]:=by kernel_rfl
theorem y49:(av 66).M=[]:=by kernel_rfl
noncomputable def EW (s:RS) (ρ:au):Prop:=aj (ae "a") ρ=some (.af (il s.a))∧aj (ae "b") ρ=some (.af (il s.b))∧aj (ae "sign") ρ=some (.af (.int s.sign))∧aj (ae "g") ρ=some (.af (.int s.g))∧aj (ae "h") ρ=some (.af (.int s.h))∧s.b.length≤1000
theorem IP {ρ:au}{sg LB hh:Int}{aa bb r:List Int}(h:aj (ae "sign") ρ=some (.af (.int sg))) (hb:bb.length≤1000):EW ⟨aa,bb,sg,LB,hh⟩ (put (ae "h") (.af (.int hh)) (put (ae "g") (.af (.int LB)) (put (ae "b") (.af (il bb)) (put (ae "a") (.af (il aa)) (put (ae "rest") (.af (il r)) ρ))))):=
 ⟨ln rfl (ln rfl (ln rfl lq)),ln rfl (ln rfl lq),ln rfl (ln rfl (ln rfl (ln rfl (ln rfl h)))),ln rfl lq,lq,hb⟩
theorem VK {m:Nat}{s:RS}{ρ:au}(hm:5≤m) (h:EW s ρ):fx (λg us=>aw T K m g us) (dG (ay (av 66).body [1])) ρ=some (xI s):=
 tY h λh1 h2 h3 h4 h5 h6=>qb λq=>(q h2 (@oT K m s.b (by exact xd _ hm) (by exact rl 0x1a9014e14352029c2801 rfl _ h6)) rfl).trans (congrArg some (decide_eq_decide.mpr (by lia)))
theorem VL {m:Nat}{s s':RS}{ρ:au}(hm:5≤m) (hK:dB K) (h:EW s ρ) (cI:KC s=some s'):∃ ρ',cA (λg us=>aw T K m g us) [] [] K (bG (ay (av 66).body [1])) ρ=some (.bU ρ')∧EW s' ρ':=by
 refine tY h λh1 h2 h3 h4 h5 Z=>?_
 refine gg cI λhc cI=>bJ cI λr hr cI=>gg cI λSf cI=>y6L hc λc1 c2 c3 c4 c5 c6 c7 c8 c9 Mo=>?_
 have cI:=ai cI
 subst cI
 clear h hc
 have e1:=@oT K m s.a (by exact xd _ hm) (by exact ir _ (iP c1))
 have e2:=@oT K m s.b (by exact xd _ hm) (by exact ir _ (iP c2))
 have e3:=@y6g K m s.a s.b r (by exact rl 0x6a1256a12501 rfl _ hm) hK hr
 have e4:=@J0 K m r (s.g*s.h^(pB s).toNat) (by exact xd _ hm) (by exact ir _ (iP Sf)) c6
 have e5:aw T K m (S "zlead") [.af (il s.b)]=some (.int (aV s.b),[.af (il s.b)]):=@Gs K m s.b (by exact xd _ hm) (by exact ir _ (iP c2)) c3
 have mm:(2:Int)≠0:=by decide
 have K':(r.map λx=>x.fdiv (s.g*s.h^(pB s).toNat)).length≤1000:=by rw[ag];exact ir _ (iP Sf)
 refine EE (uV s.a) (λo1=>?_) λo1=>?_
 ·refine EE (uV s.b) (λo2=>?_) λo2=>?_
  ·exact⟨_,gL λq=>q true h1 e1 h2 e2 h1 e1 (qd mm) (congrArg some o1) h2 e2 (qd mm) (congrArg some o2) true h3 true h1 h2 e3 h2 h4 h5 (mH c4) (fY c5) e4 true e5 (ct c7) true (mH c8) h5 (mH c9) (nH Mo),by rw[o1,o2];exact IP (ρ:=put (ae "sign") (.af (.int (-s.sign))) (put (ae "gap") (.af (.int (pB s))) ρ)) lq K'⟩
  ·exact⟨_,gL λq=>q true h1 e1 h2 e2 h1 e1 (qd mm) (congrArg some o1) h2 e2 (qd mm) (congrArg some o2) true h1 h2 e3 h2 h4 h5 (mH c4) (fY c5) e4 true e5 (ct c7) true (mH c8) h5 (mH c9) (nH Mo),by rw[o1,o2];exact IP (ρ:=put (ae "gap") (.af (.int (pB s))) ρ) (ln rfl h3) K'⟩
 ·exact⟨_,gL λq=>q true h1 e1 h2 e2 h1 e1 (qd mm) (congrArg some o1) true h1 h2 e3 h2 h4 h5 (mH c4) (fY c5) e4 true e5 (ct c7) true (mH c8) h5 (mH c9) (nH Mo),by rw[o1];exact IP (ρ:=put (ae "gap") (.af (.int (pB s))) ρ) (ln rfl h3) K'⟩
theorem y2T {a b:List Int}{sg r:Int}(hn:6≤n) (hK:dB K) (hb:b.length≤1000) (h:Cp a b sg=some r):aw T K n (S "row_resultant") [.af (il a),.af (il b),.af (.int sg)]=some (.int r,[.af (il a),.af (il b),.af (.int sg)]):=by
 apply nS hn;intro m hn
 refine bJ h λs hs h=>gg h λhg h=>tY hg λg1 g2 g3 g4 g5 g6=>dJ (xv h) λm1 er=>?_
 subst er
 have hm:5≤m:=by exact Fx _ hn
 generalize hρ:put (ae "h") (.af (.int 1)) (put (ae "g") (.af (.int 1)) ([((ae "a"),.af (il a)),((ae "b"),.af (il b)),((ae "sign"),.af (.int sg))]:au))=ρ
 refine aT (vY (t:=fx (λg us=>aw T K m g us) (dG (ay (av 66).body [1]))) (b:=λρ'=>cA (λg us=>aw T K m g us) [] [] K (bG (ay (av 66).body [1])) ρ') EW xI KC (λs ρ h=>VK hm h) (λs s' ρ h Z=>VL hm hK h)
  50 K ⟨a,b,sg,1,1⟩ s ρ (by unfold dB at hK;exact rl 0x1a8488cd4240000000000000000201 rfl _ hK) hs
  (by subst hρ;refine⟨?_,?_,?_,?_,?_,hb⟩<;>(first | exact(ln rfl (ln rfl rfl)) | exact(ln rfl lq) | exact lq))) λρ' hR hL=>tY hR λq1 q2 q3 q4 q5 q6=>?_
 refine eR y3Z y42 y2X y49 rfl rfl ⟨put (ae "many") (.af (.int ((s.a.length:Int)-1))) ρ',cV (ρ':=ρ) (hρ▸qx λq=>q) (cV (ρ':=ρ') (PG hL) (cV (ρ':=ρ') (kL (c:=false) ?_ rfl) (cV (lH rfl ?_) (fZ (jQ ?_)))))⟩
 ·exact qb λq=>q q2 (@JZ s.b (by exact rl 0x39097a42801 rfl _ g2))
 ·exact qe λq=>q q1 (@oT K m s.a (by exact xd _ hm) (by exact ir _ (iP g1)))
 ·exact qe λq=>q (ln rfl q3) lq (ct (rl 0x4aab0c10b7212101 rfl _ g3:(0:Int)<(s.a.length:Int)-1)) (ln rfl q2) (@uD s.b 0 0 (by exact rl 0x1a900000000887a42801 rfl _ g2) (by exact rl 0x39097a42801 rfl _ g2) rfl) lq (mH g4) (ln rfl q5) lq (mH g5) (nH g6) (fY m1)
end
end
section
section
variable {K n:Nat}
noncomputable def Kz (a b:List Int):Option Int:=
 if hS a=true∧hS b=true∧0<b.length∧b.length≤a.length then (Ai a).bind λone=>(Ai b).bind λother=>
  if one≠0∧other≠0∧eC one ((b.length:Int)-1)=true∧eC other ((a.length:Int)-1)=true then
   (ng (one^((b.length:Int)-1).toNat) (other^((a.length:Int)-1).toNat)).bind λsh=>(Cp (a.map λx=>x.fdiv one) (b.map λx=>x.fdiv other) 1).bind λr=>ng sh r
  else none
 else none
theorem y7a:T (S "resultant")=some (av 67):=by kernel_rfl
theorem y7f:(av 67).params=[S "a",S "b"]:=by kernel_rfl
theorem y6t:(av 67).PN=[]:=by kernel_rfl
theorem y7o:(av 67).M=[]:=by kernel_rfl
theorem y6b {a b:List Int}{r:Int}(hn:7≤n) (hK:dB K) (h:Kz a b=some r):aw T K n (S "resultant") [.af (il a),.af (il b)]=some (.int r,[.af (il a),.af (il b)]):=by
 apply nS hn;intro m hn
 unfold Kz at h
 split at h
 case isFalse=>cases h
 rename_i hg
 refine jR hg λg1 g2 g3 g4=>?_;clear hg
 rw[aJ] at h
 refine aT h λone h1 h=>?_
 rw[aJ] at h
 refine aT h λother h2 h=>?_
 split at h
 case isFalse=>cases h
 rename_i l7
 refine jR l7 λo1 o2 p1 p2=>?_;clear l7
 rw[aJ] at h
 refine aT h λsh h3 h=>?_
 rw[aJ] at h
 refine aT h λrr h4 h=>?_
 obtain⟨m1,rfl⟩:=xv h3
 obtain⟨m2,rfl⟩:=xv h
 have la:=iP g1
 have lb:=iP g2
 have e7:=@y2T K m (a.map λx=>x.fdiv one) (b.map λx=>x.fdiv other) 1 rr (by exact rl 0x3509335890a12701 rfl _ hn) hK (by rw[ag];exact ir _ lb) h4
 refine eR y7a y7f y6t y7o rfl rfl ?_
 have z:cm [S "a",S "b"] [OT.af (il a),.af (il b)]=[((ae "a"),.af (il a)),((ae "b"),.af (il b))]:=rfl
 refine(ak z)▸?_
 generalize dz:([((ae "a"),.af (il a)),((ae "b"),.af (il b))]:au)=ρ0
 have a1:aj (ae "a") ρ0=some (.af (il a)):=by subst dz;simp only[gn,↓reduceIte]
 have a2:aj (ae "b") ρ0=some (.af (il b)):=by subst dz;simp only[gn,↓reduceIte,String.reduceEq]
 clear dz z
 refine⟨put (ae "shared") (.af (.int (one^((b.length:Int)-1).toNat*other^((a.length:Int)-1).toNat))) (put (ae "other") (.af (.int other)) (put (ae "one") (.af (.int one)) (put (ae "sign") (.af (.int 1)) ρ0))),cV (ρ':=ρ0) (kL (c:=false) ?_ rfl) (cV (lH rfl (d:=.int 1) rfl) (cV (ρ':=put (ae "sign") (.af (.int 1)) ρ0) (kL (c:=false) ?_ rfl) (cV (ρ':=put (ae "other") (.af (.int other)) (put (ae "one") (.af (.int one)) (put (ae "sign") (.af (.int 1)) ρ0))) ?_ (cV (lH rfl ?_) (fZ (jQ ?_))))))⟩
 ·exact qb λq=>q a1 (@JZ a (by exact AU _ _ g3 g4)) a2 (@JZ b g3)
 ·exact qb λq=>q (ln rfl a1) (@oT K m a (by exact xb _ hn) (by exact ir _ la)) (ln rfl a2) (@oT K m b (by exact xb _ hn) (by exact ir _ lb)) (cf (rl 0x1795561822ab0c1016a02802 rfl _ _ g4:¬ (a.length:Int)-1<(b.length:Int)-1))
 ·exact qx λq=>q (ln rfl a1) (@BE K m a one (by exact rl 0x35091b5890a12701 rfl _ hn) hK (by exact ir _ la) h1) (ln rfl a2) (@BE K m b other (by exact rl 0x35091b5890a12701 rfl _ hn) hK (by exact ir _ lb) h2)
 ·exact qe λq=>q (ln rfl lq) (ln rfl (ln rfl (ln rfl a2))) (@oT K m b (by exact xb _ hn) (by exact ir _ lb)) (mH p1) lq (ln rfl (ln rfl (ln rfl a1))) (@oT K m a (by exact xb _ hn) (by exact ir _ la)) (mH p2) (fY m1)
 ·exact qe λq=>q lq (ln rfl (ln rfl (ln rfl (ln rfl a1)))) (ln rfl (ln rfl lq)) (@J0 K m a one (by exact xb _ hn) (by exact ir _ la) o1) (ln rfl (ln rfl (ln rfl (ln rfl a2)))) (ln rfl lq) (@J0 K m b other (by exact xb _ hn) (by exact ir _ lb) o2) (ln rfl (ln rfl (ln rfl lq))) e7 (fY m2)
noncomputable def Ak (f:List Int):Option Int:=if hS f=true∧2≤f.length∧aV f≠0 then (Kz f (sy f)).bind λr=>
 some (if ((((f.length:Int)-1)*((f.length:Int)-1-1)).fdiv 2).fmod 2=1 then -(r.fdiv (aV f)) else r.fdiv (aV f)) else none
theorem y4h:T (S "discriminant")=some (av 68):=by kernel_rfl
theorem y4m:(av 68).params=[S "f"]:=by kernel_rfl
theorem y46:(av 68).PN=[]:=by kernel_rfl
theorem y4v:(av 68).M=[]:=by kernel_rfl
theorem y3O {f:List Int}{r:Int}(hn:8≤n) (hK:dB K) (h:Ak f=some r):aw T K n (S "discriminant") [.af (il f)]=some (.int r,[.af (il f)]):=by
 apply nS hn;intro m hn
 unfold Ak at h
 split at h
 case isFalse=>cases h
 rename_i hg
 refine fL hg λg1 g2 g3=>?_;clear hg
 rw[aJ] at h
 refine aT h λq hq h=>?_
 have fl:=iP g1
 have e1:=@oT K m f (by exact AR _ hn) (by exact ir _ fl)
 have e3:=@y6b K m f (sy f) q (by exact rl 0x6a1276b1214240101 rfl _ hn) hK hq
 have e4:=@Gs K m f (by exact AR _ hn) (by exact ir _ fl) (by exact Ff _ g2)
 rw[show gi f (f.length-1)=aV f from rfl] at e4
 have nd:¬ (f.length:Int)-1<1:=rl 0x1792c35586086a12201 rfl _ g2
 have m1:cj ((f.length:Int)-1) ((f.length:Int)-1-1)=true:=gT (A:=20) (B:=20) (by unfold b6;exact rl 0xe4800000004ed561821a90046801 rfl _ fl) (by unfold b6;exact rl 0x7240000000276ab0d561821a90046801 rfl _ fl) (by exact AK)
 generalize hN:(f.length:Int)-1=N at *
 generalize aV f=LF at *
 generalize mu:put (ae "found") (.af (.int (q.fdiv LF))) (put (ae "many") (.af (.int N)) ([((ae "f"),.af (il f))]:au))=ρ1
 have l1:aj (ae "many") ρ1=some (.af (.int N)):=by subst mu;exact(ln rfl lq)
 have l2:aj (ae "found") ρ1=some (.af (.int (q.fdiv LF))):=by subst mu;exact lq
 refine eR y4h y4m y46 y4v rfl rfl ⟨ρ1,?_⟩
 refine cV (lH rfl (d:=.int N) ?_) (cV (ρ':=put (ae "many") (.af (.int N)) ([((ae "f"),.af (il f))]:au)) (kL (c:=false) ?_ rfl) (cV (ρ':=ρ1) ?_ (fZ (jQ ?_))))
 ·exact qe λq=>q rfl e1
 ·exact qb λq=>q lq (cf nd)
 ·refine mu▸?_
  refine lH rfl ?_
  exact qe λq=>q (ln rfl rfl) (ln rfl rfl) (@ZQ K m f (by exact AR _ hn) g1 (by exact Ff _ g2)) e3 (ln rfl rfl) e4 (nH g3)
 ·have t2:¬ ((2:Int)=0):=by exact rl 0x179ad6200 rfl
  cases h
  by_cases hc:((N*(N-1)).fdiv 2).fmod 2=1
  ·rw[if_pos hc]
   exact qe λq=>q l1 l1 (fY m1) (nH (by assumption)) (qd (by assumption)) (ct (by exact rl 0x9ac2a9ac2a10 rfl _ hc)) l2
  ·rw[if_neg hc]
   exact qe λq=>q l1 l1 (fY m1) (nH (by assumption)) (qd (by assumption)) (cf hc) l2
end
end
section
theorem Ey:(jC oA 1).all (λus=>decide (Ak (fp us)=some (dF us)))=true:=by decide +kernel
theorem Ex:(jC oA 2).all (λus=>decide (Ak (fp us)=some (dF us)))=true:=by decide +kernel
theorem Ew:(jC oA 3).all (λus=>decide (Ak (fp us)=some (dF us)))=true:=by decide +kernel
theorem Vl {K m k:Nat}{v:Int}{us:List Int}(hm:8≤m) (hK:dB K) (hv:v∈([1,2,3]:List Int)) (hk:k∈([1,2,3]:List Nat)) (h:us∈tup v k) :
  aw T K m (S "discriminant") [.af (il (fp us))]=some (.int (dF us),[.af (il (fp us))]):=by
 refine jR (P5 hv hk h) λZ h2 h3 h4=>?_
 have hd:Ak (fp (gH us))=some (dF (gH us)):=by
  rcases(by simpa using hk:k=1∨k=2∨k=3) with rfl | rfl | rfl
  ·simpa using aA.mp Ey _ h2
  ·simpa using aA.mp Ex _ h2
  ·simpa using aA.mp Ew _ h2
 exact(ak h3)▸(ak h4)▸(y3O hm hK hd)
theorem rh (ns:List Int) (h:ns.length≤63):∃ jt,aw T (2^40) 14 (S "law") [.af (.list (ns.map .int))]=some (.bool true,jt):=by
 have hK:dB (2^40):=by unfold dB;decide
 refine⟨_,Yi (m:=13) (by exact rl 0x35250a40100 rfl) hK h λv ps hv h1 h3 lg=>?_⟩
 have cf:∀ us,us=ps.map (·.1)→CF (2^40) 13 v us:=by
  rintro us rfl
  have hk:ps.length∈([1,2,3]:List Nat):=by
   rcases(show ps.length=1∨ps.length=2∨ps.length=3 by exact AL _ h1 h3) with e | e | e<;>refine(ak e)▸?_<;>simp
  exact⟨Vl (by exact rl 0x35250a40100 rfl) hK hv hk lg.us,Yy (by exact rl 0x1a92852600 rfl) hK hv hk lg.us⟩
 match ps,h1,h3,lg,cf with
 | [(u,c)],_,_,lg,cf=>exact T5 hv lg (cf _ rfl)
 | [(u,c),(w,d)],_,_,lg,cf=>exact T6 hv lg (cf _ rfl)
 | [(u,c),(w,d),(y,e)],_,_,lg,cf=>exact T7 hv lg (cf _ rfl)
 | _::_::_::_::_,_,h3,_,_=>simp at h3
end
end Mine.Internal
set_option tactic.hygienic true
set_option backward.match.sparseCases true
set_option genInjectivity true
namespace Mine.Internal
section
noncomputable def Cw:Stmt→Option DefRec
 | .FunctionDef name a b _ _ _ sc _ _ pos=>some ⟨name,a,b,sc,pos⟩
 | _=>none
theorem VB:recsOf vq=qy.filterMap Cw:=by kernel_rfl
theorem B0:tupIntsOf vq (S "R0")=some [0,1]:=by decide +kernel
theorem BZ:tupIntsOf vq (S "R1")=some [1,1]:=by decide +kernel
theorem OS:∀ x∈oy,x∉namesW vq [ae "MOST_DIVIDED"]∧x∉bootMainNames:=by decide +kernel
theorem Qi:importsNone vq=true:=by first | k_qdec | decide +kernel
end
section
theorem Hm {te:List Str}{ye:ExcName→Option Value}{mg mb:Str→Option Value}{h:Heap}(T₀:Top vq te ye mg mb h){f:Str}{fd:FD}(hf:T f=some fd):FnAt h mg f fd:=by
 unfold T at hf
 split at hf
 case isFalse=>cases hf
 rename_i hr
 have Lx:f∈reach:=by simpa using hr
 obtain⟨st,cI,jH⟩:=List.exists_of_findSome?_eq_some hf
 unfold defOf at jH
 split at jH
 case h_2=>cases jH
 rename_i name args body x1 x2 x3 scope x4 x5 x6
 split at jH
 case isFalse=>cases jH
 rename_i Dw
 subst Dw
 have hT:T name=some fd:=by unfold T;rw[if_pos hr];exact hf
 have rX:BW fd=true:=by
  have:=aA.mp X6 name Lx
  rw[hT] at this
  exact this
 have RG:=aA.mp ZJ _ cI
 simp only[hr,cZ,AB,mM,aY,lV,eB] at RG
 obtain⟨⟨⟨p1,p2⟩,p3⟩,p4⟩:=RG
 have Lw:(⟨name,args,body,scope,x6⟩:DefRec)∈recsOf vq:=by
  rw[VB]
  exact gQ.mpr ⟨_,cI,rfl⟩
 obtain⟨a,o,pm,code,doc,h1,h2,h3,h4⟩:=T₀.fn _ Lw
 cases jH
 have nr:(args.args.map (·.arg)).Nodup:=by
  simp only[BW,aY,decide_eq_true_eq] at rX
  exact rX.1.1.1.2
 exact⟨rX,a,o,_,h1,h2,h3,rfl,rfl,rfl,rfl,rfl,h4,λfR hl=>ZL p1 rfl p2 p3 p4 rfl nr fR hl⟩
theorem RY {te:List Str}{ye:ExcName→Option Value}{mg mb:Str→Option Value}{w:World}{h:Heap}{Mf:List DefItem}{yO:List (Str×PyData)}(T₀:Top vq te ye mg mb h) (B:Tables vq w mg h)
  (V:LooseAre [(ae "MOST_DIVIDED",WData.int 10000000000)] mg h) (GL:Glob 0 mg mb Mf yO [] (namesW vq [ae "MOST_DIVIDED"]) h):GW h mg mb:=by
 have hm:∃ o,h.get? sysModules=some o:=by
  obtain⟨mm,⟨o,_,_,e,_⟩,_⟩:=(T₀.seer Qi).mods
  exact⟨o,e⟩
 refine⟨T₀.g,T₀.b,T₀.builtins,T₀.nolimit,T₀.seer Qi,λx hx=>GL.free x (OS x hx).1 (OS x hx).2,hm,λx d hc=>?_⟩
 unfold cst at hc
 split at hc
 ·rename_i q
  subst q;cases hc
  obtain⟨a,vs,e1,e2,e3⟩:=B.tupI _ _ B0
  exact⟨_,e1,.tup e2 (λz=>z) (bC.ofInts e3)⟩
 ·split at hc
  ·rename_i q
   subst q;cases hc
   obtain⟨a,vs,e1,e2,e3⟩:=B.tupI _ _ BZ
   exact⟨_,e1,.tup e2 (λz=>z) (bC.ofInts e3)⟩
  ·split at hc
   ·rename_i q
    subst q;cases hc
    obtain⟨v,e1,e2⟩:=V.val _ (.head _)
    cases e2
    exact⟨_,e1,.int _ _⟩
   ·cases hc
theorem Qs {H₀:Heap}{mg mb:Str→Option Value}{prog:Program}{w:World}(G:GW H₀ mg mb) (mN:prog.given.tree=none) (hT:∀ f fd,T f=some fd→FnAt H₀ mg f fd) (K:Nat):∀ n,bk prog w H₀ mg n (λg us=>aw T K n g us)
 | 0=>λf ts d jt h=>by simp[aw] at h
 | n+1=>y75 G mN hT (Qs G mN hT K n)
end
section
theorem DU {w:World}{prog:Program}{mg mb:Str→Option Value}{s₁:Shared}{fa l:Addr}{vs:List Value}{ns:List Int}(G:GW s₁.heap mg mb) (mN:prog.given.tree=none) (hT:∀ f fd,T f=some fd→FnAt s₁.heap mg f fd)
  (LH:mg (S "law")=some (.ref fa)) (hl:s₁.heap.IsList l vs.toArray) (hI:IntsAre vs ns) (hn:ns.length≤63) :
  codeAny (model prog w) callerA (.call (.ref fa) ⟨[.ref l],[]⟩) (λr s'=>r=.ok (.ret (.bool true))∧(∃ h' tk,s'={ s₁ with heap:=h',toks:=tk })∧∀ b o,s₁.heap.get? b=some o→s'.heap.get? b=some o) s₁:=by
 obtain⟨jt,he⟩:=rh ns hn
 obtain⟨a,o,fd,h1,h2,h3,h4⟩:=Qs G mN hT (2^40) 14 _ _ _ _ he
 rw[LH] at h1
 cases h1
 have hal:Hid s₁.heap (λb=>(λ_=>False) b∨b∈([]:List Addr)) s₁.heap:=⟨λ_ _ e=>e,λa q=>q.elim (λz=>z.elim) (λz=>nomatch z),λa q=>q.elim (λz=>z.elim) (λz=>nomatch z)⟩
 refine codeAny_mono (h4 callerA (λ_=>False) s₁ [.ref l] [] ⟨rfl,by decide +kernel,by decide +kernel⟩ ⟨[],rfl⟩ hal (λ_ q=>nomatch q) dg (.cons (.af (.list hl (λq=>q.elim (λz=>z) λz=>nomatch z) (bC.ofInts hI))) .nil)) λr s' q=>?_
 obtain⟨v,rfl,kb,rv,_⟩:=q
 cases rv
 exact⟨rfl,kb.same,λb o e=>kb.get (λq=>nomatch q) e⟩
end
end Mine.Internal
set_option maxHeartbeats 8000000 in
theorem PySem.Challenge.cw_xm0160_01_holds : PySem.Challenge.rw_xm0160_01.Holds := by
  w_on
  refine holds_law Mine.Internal.lawOk fun said => ?_
  refine holds_open (q := Mine.Internal.vq) (loose := Mine.Internal.lsq) (Xt := Mine.Internal.Xq) (XP := XL Mine.Internal.vq Mine.Internal.lvq) (Yf := Hook.obs Hook.none) (Ya := Hook.val Hook.none) (YP := Hook.says Hook.none) (N := 6110) Mine.Internal.hlU (Hook.of Hook.none) (Hook.keeps Hook.none) (fun s e => xl_of s (Bool.and_eq_true_iff.mp e).1) XL.keeps (by rfl) (by rfl) (by rfl) (fun s e => recFacts_of (Bool.and_eq_true_iff.mp e).2) (by rfl) said (by decide +kernel) ⟨rfl, rfl, rfl, rfl, rfl, by decide +kernel⟩ ?hw ?hc
  case hw => w_witness2
  case hc =>
  intro w s₀ s₁ mg mb G Y fa o pm cd doc dV kV ho hd hcd hD hmg hg args vals as hpre hlay hrd hwl hlo
  have V := (Ground.X G).2
  have GL := glob_more (Ground.glob G (by first | k_qdec | decide +kernel) (by first | k_qdec | decide +kernel)) V
  refine Ground.open G ?_
  intro T B D TE TW
  try (refine guard_noD D (by decide +kernel) ?_; clear D)
  obtain ⟨_, _, M⟩ := bmod_of_top T
  wrow_args hpre hlay hrd hwl hlo
  all_goals (
    first | refine callC_kw (enter_call ?_) | refine enter_call ?_ | refine callC_kw (enter_callW ?_) | refine enter_callW ?_ | w_how
    w_top on
    try refine codeAny_mono ?_ (fun _ _ g => GoodW.toG g))
  rename_i ns _ _ _ _ _ _ l vs _ hL ra w1 r0 hI hr hc1 hc2
  have GG : Mine.Internal.GW s₁.heap mg mb := Mine.Internal.RY T B V GL
  refine codeAny_mono (Mine.Internal.DU GG (by first | rfl | decide +kernel) (fun f fd hf => Mine.Internal.Hm T hf) hmg hL hI (by omega)) (fun r s' q => ?_)
  obtain ⟨rfl, ⟨h', tk, rfl⟩, keep⟩ := q
  refine ⟨.inl ⟨.bool true, .bool true, [], rfl, raisesW_false ?_, .bool true, ?_, unshared_nil⟩, keep, rfl, hg⟩
  · wrow_none_raised
  · wrow_post
