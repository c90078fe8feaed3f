import PyProof.Rows.All
import Wide.All
import OpenK.AllK
import Wide.FinOn
import PySem.Challenge.RW_sa0231_01
set_option genSizeOf false
set_option genCtorIdx false
set_option genInjectivity false
set_option backward.match.sparseCases false
set_option bootstrap.genMatcherCode false
set_option linter.all false
set_option maxRecDepth 100000
set_option tactic.hygienic false
set_option maxHeartbeats 4000000
open List renaming mem_cons_self→N2,length_map→N3,length_append→N5,append_assoc→N6,forall_mem_cons→N7,mem_cons_of_mem→N9,forall_mem_nil→O1,all_eq_true→O2,append_nil→O3,getElem?_eq_getElem→O4,getElem?_eq_some_iff→O6,mem_append_left→O7,mem_append_right→O8,size_toArray→P2,map_append→P6,mem_singleton→P7,nodup_append→Q0,mem_of_getElem?→Q1,mem_cons→Q2,getElem?_map→Q3,length_range→Q4,forall_mem_map→Q5,forall_mem_append→Q6,nodup_cons→Q9,mem_append→R0,mem_range→R4,cons_ne_nil→R5,mem_map_of_mem→R6,mem_map→S0,getElem?_zip_eq_some→S1,getElem?_append_left→S3,isEmpty_iff→S6,getElem?_concat_length→S9,map_map→T0,getElem?_toArray→T7,getElem?_append_right→T8,head_eq_of_cons_eq→T9,append_ne_nil_of_right_ne_nil→U1,getElem_mem→U5,length_eq_zero_iff→U6,length_take→V1,pairwise_singleton→V3,length_drop→V4,flatMap_append→V6,mem_iff_getElem?→V8,map_inj_left→W0,take_length→W3,mem_flatMap→W7,contains_cons→W8,contains_iff_mem→X1,mem_of_mem_take→X2,mem_of_mem_drop→X3,take_left→X4,map_eq_flatMap→X6,all_append→X9,take_of_length_le→Y2,flatMap_singleton→Y3,map_id→Y6,all_cons→Y9,range_succ→Z1,getD_eq_getElem?_getD→Z2,getElem_range→Z3,getElem?_eq_none_iff→Z6,forall_mem_singleton→Z7,getElem?_take_of_lt→z0b,tail_eq_of_cons_eq→z0e,prefix_refl→z0f,perm_middle→z0g,map_fst_zip→z0h,cons_append→z0i,drop_eq_nil_of_le→z0j,takeWhile_prefix→z0m,length_zip→z0n,getLast?_concat→z0p,getElem?_set_ne→z0q,nodup_nil→z0s,takeWhile_cons→z0t,map_eq_nil_iff→z0u,map_congr_left→z0v,length_reverse→z0w,pairwise_cons→z0z,mem_filterMap→z1a,map_cons→z1b,take_add_one→z1d,takeWhile_append_dropWhile→z1e,take_prefix→z1j,of_mem_zip→z1l,nil_append→z1m,drop_eq_getElem_cons→z1r,sublist_append_left→z1u,map_take→z1w,map_drop→z1x,any_cons→z1y,sum_replicate_nat→z2a,append_eq_nil_iff→z2b,perm_append_comm→z2d,eq_nil_or_concat→z2e,dropWhile_suffix→z2f,all_map→z2g,reverse_reverse→z2i,length_take_le'→z2j,reverse_append→z2p,replicate_succ→z2q,length_flatten→z2r,getElem?_range→z2s,dropWhile_cons→z2t,map_replicate→z2x,getElem?_drop→z2y,take_sublist→z3b,push_toArray→z3c,pairwise_map→z3d,getElem?_set→z3e,getElem?_inj→z3f,mem_toArray→z3h,mem_reverse→z3i,length_cons→z3j,any_toArray→z3k,head?_drop→z3m,forIn_cons→z3n,drop_drop→z3o
open Nat renaming le_trans→N1,le_refl→N8,lt_of_le_of_lt→O0,le_of_eq→P0,le_add_right→P1,succ_le_succ→P3,zero_le→P4,lt_trans→P8,le_of_ble_eq_true→P9,lt_succ_of_le→Q8,add_le_add→R7,zero_add→R9,add_right_comm→S4,add_le_add_left→S5,lt_of_lt_of_le→S7,le_of_lt→T3,le_succ_of_le→T5,succ_pos→T6,lt_succ_self→U0,mul_le_mul_left→U3,le_succ→U4,add_le_add_right→U7,min_eq_left→V0,ne_of_lt→V7,add_sub_cancel_left→V9,mul_le_mul_right→W4,not_lt→W5,lt_succ_of_lt→W6,add_comm→W9,lt_succ_iff_lt_or_eq→X7,not_lt_zero→X8,lt_of_succ_lt_succ→Y1,lt_of_succ_lt→Y4,le_of_lt_succ→Y5,sub_le_sub_right→Y8,min_le_left→Z0,mul_le_mul→Z5,sub_le→z0a,ne_of_gt→z0k,eq_of_beq_eq_true→z0l,lt_irrefl→z0y,le_of_succ_le→z1c,min_self→z1f,succ_ne_self→z1h,le_of_not_lt→z1i,le_add_left→z1k,add_assoc→z1v,mul_succ→z2c,sub_lt_sub_left→z2m,log2_lt→z2n,add_sub_cancel'→z2o,lt_or_eq_of_le→z2u,lt_of_lt_of_eq→z2v,add_sub_cancel→z2w,toList_repr→z3l
open Bool renaming and_eq_true_iff→N4,or_eq_true_iff→P5,false_ne_true→S8,not_eq_true'→U2,and_eq_true→X5,or_true→Z4,eq_false_iff→z0d,eq_iff_iff→z0o,or_eq_false_iff→z0r,and_false→z1s,and_true→z3q
open Int renaming natCast_nonneg→Q7,ofNat_lt→R8,toNat_of_nonneg→T4,le_trans→U8,le_of_lt→U9,not_lt→V2,ofNat_le→V5,natCast_pos→Y0,not_le→Y7,toNat_natCast→z0c,negSucc_lt_zero→z0x,toNat_le→z1g,min_eq_left→z1n,fdiv_eq_ediv_of_nonneg→z1o,add_le_of_le_sub_right→z1p,eq_ofNat_of_zero_le→z1z,sub_self→z2h,sub_le_sub_right→z2k,le_of_lt_add_one→z2l,natAbs_ne_zero→z2z,add_sub_cancel→z3a,toNat_sub→z3p
open Option renaming bind_eq_some_iff→O5,map_eq_some_iff→O9,isSome_map→Z8,isNone_iff_eq_none→z1q,isSome_iff_exists→z1t,bind_some→z3g
open PySem
set_option hygiene false
local macro_rules (kind:=Lean.Parser.Term.arrow)
 | s=>`(∀ Z9:$(⟨s.getArg 0⟩),$(⟨s.getArg 2⟩))
set_option hygiene true
section
open PySem
namespace Mine
@[elab_as_elim] theorem ru {α:Sort _}{a b:α}{P:α→Prop}(h:a=b)(e:P b):P a:=Eq.ndrec e h.symm
@[elab_as_elim] theorem ri {α:Sort _}{a b:α}{P:α→Prop}(h:a=b)(e:P a):P b:=Eq.ndrec e h
theorem b2 {α:Type _}{a:α}{C:Prop}(e:none=some a):C:=nomatch e
theorem Jf {α:Type _}{a:α}{C:Prop}(e:some a=none):C:=nomatch e
theorem rh {C:Prop}(e:false=true):C:=nomatch e
theorem LW {C:Prop}(e:true=false):C:=nomatch e
theorem o4 {α:Type _}{a:α}{C:Prop}(e:a∈[]):C:=nomatch e
theorem NN {α:Type _}{a:α}{l:List α}{C:Prop}(e:a::l=[]):C:=nomatch e
theorem Nx {α:Type _}{a:α}{l:List α}{C:Prop}(e:[]=a::l):C:=nomatch e
theorem NO {ε α:Type _}{a:ε}{b:α}{C:Prop}(e:Except.error a=Except.ok b):C:=nomatch e
theorem Iw {n:Nat}{C:Prop}(e:n+1=0):C:=nomatch e
theorem Ix {n:Nat}{C:Prop}(e:0=n+1):C:=nomatch e
theorem MW {n:Nat}{C:Prop}(e:n+1≤0):C:=nomatch e
inductive PV where
 | none | bool (b:Bool) | int (i:Int) | str (s:List Nat)
 | tup (vs:List PV) | lst (vs:List PV)
 | dctI (ks:List Int) (vs:List PV) | dctS (ks:List (List Nat)) (vs:List PV)
 | inst (c:Nat) (ks:List (List Nat)) (vs:List PV)
 | rng (n:Nat) | loc (l:Nat) | exn (a:Int)
inductive aN where
 | lst (vs:List PV) | dctI (ks:List Int) (vs:List PV) | dctS (ks:List (List Nat)) (vs:List PV)
noncomputable abbrev aa:=List aN
set_option genCtorIdx true in
inductive aY (α:Type) where
 | ok (a:α) (σ:aa) | exc (c:List Nat) (a:Int) (σ:aa)
set_option genCtorIdx true in
inductive Fn where
 | len | ord | chr | str | list | tuple | sorted | range | strip | split
 | join | splitOn | endswith | startswith | index | extend | append | get | insert
inductive IE where
 | c (v:PV) | v (i:Nat) | g (i:Nat)
 | bin (o:Operator) (a b:IE) | addl (a b:IE) | neg (a:IE)
 | nott (a:IE) | and (a b:IE) | or (a b:IE) | andv (a b:IE) | ite (c a b:IE)
 | cmp (o:CmpOp) (a b:IE) | cmp2 (o1 o2:CmpOp) (a b c:IE) | tru (a:IE)
 | fn (p:Fn) (a:IE) | m0 (p:Fn) (a:IE) | m1 (p:Fn) (a b:IE) | m2 (p:Fn) (a b c:IE)
 | call (f:Nat) (as:IE) | new (c:Nat)
 | idx (a i:IE) | slice (a lo hi:IE) | attr (a:IE) (name:List Nat)
 | tup (as:IE) | lst (as:IE) | nil | dct0 | dctc (ks vs:List (List Nat))
 | comp (elt:IE) (single:Bool) (nt:Nat) (iter cond:IE) (mask:List Bool)
 | nl | cs (e r:IE)
inductive IS where
 | ret (e:IE) | expr (e:IE) | asg (i:Nat) (e:IE) | asgT (is:List Nat) (e:IE)
 | aug (i:Nat) (e:IE) | setI (d k v:IE) | iff (c:IE) (a b:IS)
 | whil (c:IE) (b:IS) (kill:List Nat) | forr (single:Bool) (t:List Nat) (it:IE) (b:IS) (kill:List Nat)
 | raise (c a:IE) | tryE (e:IE) (x:Option Nat) (h:IS) | sk | sq (s r:IS)
noncomputable abbrev am:=List (Option PV)
inductive cO where
 | next (ρ:am) | ret (v:PV)
mutual
noncomputable def aS:PV→Bool
 | .tup vs=>noLocs vs
 | .lst vs=>noLocs vs
 | .dctI _ vs=>noLocs vs
 | .dctS _ vs=>noLocs vs
 | .inst _ _ vs=>noLocs vs
 | .loc _=>false
 | .none=>true
 | .bool _=>true
 | .int _=>true
 | .str _=>true
 | .rng _=>true
 | .exn _=>true
noncomputable def noLocs:List PV→Bool
 | []=>true
 | v::r=>aS v&&noLocs r
end
noncomputable def I9:aN→List PV
 | .lst vs=>vs
 | .dctI _ vs=>vs
 | .dctS _ vs=>vs
noncomputable def bQ (o:aN):Bool:=noLocs (I9 o)
noncomputable def zp:aN→PV
 | .lst vs=>.lst vs
 | .dctI ks vs=>.dctI ks vs
 | .dctS ks vs=>.dctS ks vs
noncomputable def i3 {α β:Type}(f:α→Option β):List α→Option (List β)
 | []=>some []
 | e::r=>(f e).bind λ a=>(i3 f r).map (a::·)
noncomputable def eR:aN→Option (List PV)
 | .lst vs=>some vs
 | _=>none
noncomputable def nS (σ:aa)(n:Nat):PV→Option PV
 | .loc l=>if l<n then some (.loc l) else (σ[l]?).bind λ o=>if bQ o then some (zp o) else none
 | v=>if aS v then some v else none
noncomputable def Ko (σ:aa)(n:Nat):PV→Option PV
 | .tup vs=>(i3 (nS σ n) vs).map .tup
 | .inst c ks vs=>(i3 (nS σ n) vs).map (.inst c ks)
 | v=>nS σ n v
noncomputable def gA (moves:Bool)(n:Nat)(σ:aa)(v:PV):Option (PV×aa) :=
 if (σ.take n).all bQ then (match moves with
  | true=>(match v with
   | .loc l=>if l<n then none else (σ[l]?).bind λ o=>(eR o).bind λ vs=>if noLocs vs then some (.loc n,σ.take n++[.lst vs]) else none
   | _=>none)
  | false=>(Ko σ n v).map (·,σ.take n)) else none
noncomputable def ax:Nat:=16000000
noncomputable def aG (l:List Nat):Str:=⟨l.toArray⟩
noncomputable def cQ (s:Str):List Nat:=s.cps.toList
noncomputable def sL (s:String):List Nat:=cQ (Str.ofString s)
noncomputable def av (s:List Nat):List Nat:=cQ (Txt.strip (aG s))
noncomputable def aq (sep:Nat)(s:List Nat):List (List Nat):=(Txt.split (aG s) (aG [sep])).map cQ
noncomputable def ai (s:List Nat):List (List Nat):=(Txt.words (aG s)).map cQ
noncomputable def ah (sep:List Nat):List (List Nat)→List Nat
 | []=>[]
 | [a]=>a
 | a::b::r=>a++sep++ah sep (b::r)
noncomputable def gN (y x:List Nat):Bool:=Txt.contains (aG x) (aG y)
noncomputable def nM (y x:List Nat):Option Nat:=(Builtin.Str.occurrences (aG x) (aG y) 0 x.length 1).head?
noncomputable def aL (i:Int):List Nat:=cQ (Str.ofString (toString i))
noncomputable def jp:PV→Option (List Nat)
 | .str s=>some s
 | _=>none
noncomputable def ti (x:Int):List Int→List Int
 | []=>[x]
 | y::r=>if x≤y then x::y::r else y::ti x r
noncomputable def aW:List Int→List Int
 | []=>[]
 | x::r=>ti x (aW r)
noncomputable def m8 (i:Int):Bool:=decide (i.natAbs<2 ^ 256)
noncomputable def shal:Nat→PV→Bool
 | _,.int _=>true
 | _,.str _=>true
 | n+1,.tup vs=>vs.all (shal n)
 | n+1,.lst vs=>vs.all (shal n)
 | _,_=>false
mutual
noncomputable def pd:PV→PyData
 | .int i=>.int i
 | .str s=>.str (aG s)
 | .tup vs=>.tuple (pds vs)
 | .lst vs=>.list (pds vs)
 | _=>.none
noncomputable def pds:List PV→List PyData
 | []=>[]
 | v::r=>pd v::pds r
end
noncomputable def BS (a b:PV):Option Bool:=if shal 8 a&&shal 8 b then some (PyData.eqv (pd a) (pd b)) else none
noncomputable def bw (σ:aa):PV→Option (List PV)
 | .lst vs=>some vs
 | .loc l=>(σ[l]?).bind eR
 | _=>none
noncomputable def bz {K:Type}[DecidableEq K](k:K):List K→List PV→Option PV
 | a::r,v::q=>if k=a then some v else bz k r q
 | _,_=>none
noncomputable def ku {K:Type}[DecidableEq K](k:K)(x:PV):List K→List PV→List K×List PV
 | a::r,v::q=>if k=a then (a::r,x::q) else (a::(ku k x r q).1,v::(ku k x r q).2)
 | _,_=>([k],[x])
noncomputable def dF (o:aN)(k:PV):Option (Option PV):=match o with
 | .dctI ks vs=>(match k with | .int k=>some (bz k ks vs) | .str _=>(match ks with | []=>some none | _::_=>none) | _=>none)
 | .dctS ks vs=>(match k with | .str k=>some (bz k ks vs) | _=>none)
 | .lst _=>none
noncomputable def df (σ:aa):PV→Option aN
 | .dctI ks vs=>some (.dctI ks vs)
 | .dctS ks vs=>some (.dctS ks vs)
 | .loc l=>σ[l]?
 | _=>none
noncomputable def zo (σ:aa):PV→Option Bool
 | .bool b=>some b
 | .none=>some false
 | .int i=>some (i !=0)
 | .str s=>some (!s.isEmpty)
 | .lst vs=>some (!vs.isEmpty)
 | _=>none
noncomputable def t7 (i:Int)(n:Nat):Option Nat :=
 let j:=if i<0 then i+n else i
 if 0≤j&&j<n then some j.toNat else none
noncomputable def bp (a i:PV)(σ:aa):Option PV:=match a with
 | .tup vs=>(match i with | .int i=>(t7 i vs.length).bind λ j=>vs[j]? | _=>none)
 | .str s=>(match i with | .int i=>(t7 i s.length).bind λ j=>(s[j]?).map λ c=>.str [c] | _=>none)
 | .lst vs=>(match i with | .int i=>(t7 i vs.length).bind λ j=>vs[j]? | _=>none)
 | a=>(df σ a).bind λ o=>match o with
  | .lst vs=>(match i with | .int i=>(t7 i vs.length).bind λ j=>vs[j]? | _=>none)
  | o=>(dF o i).bind id
noncomputable def gW (n d:Nat):PV→Option Nat
 | .none=>some d
 | .int i=>some (if i<0 then (i+n).toNat else min i.toNat n)
 | _=>none
noncomputable def ba {α:Type}(lo hi:Nat)(l:List α):List α:=(l.drop lo).take (hi-lo)
noncomputable def dN (a lo hi:PV):Option PV:=match a with
 | .str s=>(gW s.length 0 lo).bind λ l=>(gW s.length s.length hi).map λ h=>.str (ba l h s)
 | .lst s=>(gW s.length 0 lo).bind λ l=>(gW s.length s.length hi).map λ h=>.lst (ba l h s)
 | .tup s=>(match hi with
  | .int j=>(match lo with
   | .none=>if 0≤j∧j<s.length then some (.tup (ba 0 j.toNat s)) else none
   | .int i=>if 0<i∧i≤j∧j≤s.length then some (.tup (ba i.toNat j.toNat s)) else none
   | _=>none)
  | _=>none)
 | _=>none
noncomputable def FZ (a:PV)(name:List Nat):Option PV:=match a with
 | .inst _ ks vs=>bz name ks vs
 | .exn a=>if name=[97,116] then some (.int a) else none
 | _=>none
noncomputable def pi:PV→Option Int
 | .int i=>some i
 | _=>none
noncomputable def GR (a:PV)(vs:List PV):Option Bool:=(pi a).bind λ i=>(i3 pi vs).map λ l=>l.contains i
noncomputable def Bq (a b:PV)(f:Int→Int→Bool):Option Bool:=match a with
 | .int x=>(match b with | .int y=>some (f x y) | _=>none)
 | _=>none
noncomputable def Mp (a b:PV)(σ:aa):Option Bool:=match b with
 | .str t=>(match a with | .str s=>some (gN s t) | _=>none)
 | .tup vs=>GR a vs
 | b=>(df σ b).bind λ o=>(dF o a).map (·.isSome)
noncomputable def bT (o:CmpOp)(a b:PV)(σ:aa):Option Bool:=match o with
 | .Eq=>BS a b
 | .NotEq=>(BS a b).map (!·)
 | .Lt=>Bq a b λ x y=>decide (x<y)
 | .LtE=>Bq a b λ x y=>decide (x≤y)
 | .Gt=>Bq a b λ x y=>decide (x > y)
 | .GtE=>Bq a b λ x y=>decide (x ≥ y)
 | .In=>Mp a b σ
 | .NotIn=>(Mp a b σ).map (!·)
 | .Is=>none
 | .IsNot=>none
noncomputable def jE (σ:aa)(a:PV):Option Nat:=match a with
 | .str s=>some s.length
 | .tup s=>some s.length
 | .lst s=>some s.length
 | a=>(df σ a).map λ o=>match o with
  | .lst vs=>vs.length
  | .dctI ks _=>ks.length
  | .dctS ks _=>ks.length
noncomputable def oS (σ:aa)(a:PV):Option PV:=(df σ a).bind λ o=>match o with
 | .dctI ks _=>if ks.length<64 then some (.lst ((aW ks).map .int)) else none
 | _=>none
noncomputable def wE (σ:aa)(s:List Nat)(b:PV):Option PV:=(bw σ b).bind λ vs=>(i3 jp vs).bind λ ss=>if s.length≤1000∧(ah s ss).length≤ax then some (.str (ah s ss)) else none
noncomputable def DB (σ:aa)(a:PV)(f:Nat→List PV→Option (PV×aa)):Option (PV×aa):=match a with
 | .loc l=>(σ[l]?).bind λ o=>(eR o).bind (f l)
 | _=>none
noncomputable def Hx (σ:aa)(a b:PV):Option (PV×aa):=DB σ a λ l vs=>match b with
 | .tup ws=>if (vs++ws).length≤ax then some (.none,σ.set l (.lst (vs++ws))) else none
 | _=>none
noncomputable def q9 (σ:aa)(a b:PV):Option (PV×aa):=DB σ a λ l vs=>if vs.length<ax then some (.none,σ.set l (.lst (vs++[b]))) else none
noncomputable def Hj (σ:aa)(a i v:PV):Option (PV×aa):=DB σ a λ l vs=>match i with
 | .int i=>if vs.length<ax∧0≤i∧i≤vs.length then some (.none,σ.set l (.lst (vs.take i.toNat++v::vs.drop i.toNat))) else none
 | _=>none
noncomputable def getD (σ:aa)(a k d:PV):Option PV:=(df σ a).bind λ o=>(dF o k).map λ r=>r.getD d
noncomputable def eM (d k v:PV)(σ:aa):Option aa:=match d with
 | .loc l=>(σ[l]?).bind λ o=>match o with
  | .dctI ks vs=>(match k with
   | .int k=>if ks.length<ax then some (σ.set l (.dctI (ku k v ks vs).1 (ku k v ks vs).2)) else none
   | .str k=>(match ks with | []=>some (σ.set l (.dctS [k] [v])) | _::_=>none)
   | _=>none)
  | .dctS ks vs=>(match k with
   | .str k=>if ks.length<ax then some (σ.set l (.dctS (ku k v ks vs).1 (ku k v ks vs).2)) else none
   | _=>none)
  | .lst _=>none
 | _=>none
noncomputable def gm:PV→Option (List PV)
 | .str s=>some (s.map λ c=>.str [c])
 | .tup vs=>some vs
 | .lst vs=>some vs
 | .dctI ks _=>some (ks.map .int)
 | .dctS ks _=>some (ks.map .str)
 | .rng n=>some ((List.range n).map λ i=>.int (i:Nat))
 | _=>none
noncomputable def o5:List Bool→am→am
 | b::r,x::q=>(match b with | true=>x | false=>none)::o5 r q
 | [],_=>[]
 | _::r,[]=>none::o5 r []
noncomputable def xy (single:Bool)(nt:Nat)(x:PV):Option (List PV):=match single with
 | true=>some [x]
 | false=>(match x with
  | .tup vs=>if vs.length=nt then some vs else none
  | _=>none)
noncomputable def Gm (ρ:am):List Nat→List PV→am
 | i::r,v::q=>Gm (ρ.set i (some v)) r q
 | _,_=>ρ
noncomputable def dg (ks:List Nat)(ρ:am):am:=ks.foldl (λ ρ i=>ρ.set i none) ρ
noncomputable def b3 (single:Bool)(t:List Nat)(x:PV)(ρ:am):Option am:=(xy single t.length x).map (Gm ρ t)
end Mine
end
section
open PySem
namespace Mine
set_option genCtorIdx true in
inductive OV where
 | auto | e (x:PV) | v (x:PV) | b (x:Bool) | r (x:PV) (σ:aa) | x (c:List Nat) (a:Int) (σ:aa) | n (ρ:am) (σ:aa) | l (xs ys:List PV) | s (r:aY cO) | k
noncomputable def hd:List OV→OV
 | []=>.auto
 | o::_=>o
structure Gs where
 g:Nat→Option PV
 fld:Nat→List (List Nat×Bool)
 call:Nat→List PV→aa→aY PV→Prop
 ev:IE→am→aa→aY PV→Prop
 st:IS→am→aa→aY cO→Prop
set_option tactic.hygienic true in
noncomputable def GD (o:aY cO)(k:am→aa→Prop)(d:Prop):Prop:=match o with
 | .ok o σ=>(match o with | .next ρ=>k ρ σ | .ret _=>d)
 | .exc _ _ _=>d
set_option tactic.hygienic true in
noncomputable def cE (st:am→aa→aY cO→Prop)(asg:PV→am→Option am)(kill:List Nat)(xs:List PV):am→aa→aY cO→Prop :=
 xs.rec (λ ρ σ r=>r=.ok (.next ρ) σ) λ x Z9 ih ρ σ r=>∃ ρ' o,asg x ρ=some ρ'∧st ρ' σ o∧GD o (λ ρ σ=>ih (dg kill ρ) σ r) (r=o)
set_option tactic.hygienic true in
noncomputable def EO (ev:am→aa→aY PV→Prop)(st:am→aa→aY cO→Prop)(kill:List Nat)(k:Nat):am→aa→aY cO→Prop :=
 k.rec (λ Z9 Z9 Z9=>False) λ Z9 ih ρ σ r=>(∃ σ',ev ρ σ (.ok (.bool false) σ')∧r=.ok (.next ρ) σ')∨∃ σ' o,ev ρ σ (.ok (.bool true) σ')∧st ρ σ' o∧GD o (λ ρ σ=>ih (dg kill ρ) σ r) (r=o)
noncomputable def xB (Γ:Gs)(elt cond:IE)(ρ:am)(σ:aa)(o:List PV):Prop:=match cond with
 | .nl=>∃ y,o=[y]∧Γ.ev elt ρ σ (.ok y σ)
 | c=>(Γ.ev c ρ σ (.ok (.bool true) σ)∧∃ y,o=[y]∧Γ.ev elt ρ σ (.ok y σ))∨Γ.ev c ρ σ (.ok (.bool false) σ)∧o=[]
noncomputable def lI (T:PV→List PV→Prop)(xs:List PV):List PV→Prop:=xs.rec (λ ys=>ys=[]) λ x Z9 ih ys=>∃ o zs,T x o∧ih zs∧ys=o++zs
noncomputable def e7 (Γ:Gs)(elt cond:IE)(single:Bool)(nt:Nat)(mask:List Bool)(ρ:am)(σ:aa)(x:PV)(o:List PV):Prop:=∃ bs,xy single nt x=some bs∧xB Γ elt cond (o5 mask ρ++bs.map some) σ o
noncomputable def au {α:Type}(f:Option α)(K:α→Prop):Prop:=match f with
 | some x=>K x
 | none=>True
noncomputable def zS (f:Option PV)(σ:aa)(os:List OV)(K:aY PV→List OV→Prop):Prop:=match hd os with
 | .v x=>f=some x→K (.ok x σ) os.tail
 | .auto=>au f λ x=>K (.ok x σ) os.tail
 | _=>True
noncomputable def It (f:Option (PV×aa))(os:List OV)(K:aY PV→List OV→Prop):Prop:=match hd os with
 | .r x σ'=>f=some (x,σ')→K (.ok x σ') os.tail
 | .auto=>au f λ x=>K (.ok x.1 x.2) os.tail
 | _=>True
noncomputable def FX (f:Option Bool)(σ:aa)(os:List OV)(K:aY PV→List OV→Prop):Prop:=match hd os with
 | .b x=>f=some x→K (.ok (.bool x) σ) os.tail
 | .auto=>au f λ x=>K (.ok (.bool x) σ) os.tail
 | _=>True
noncomputable def yf (x:PV)(k:Int→Prop):Prop:=match x with
 | .int a=>k a
 | _=>True
noncomputable def mY (x:PV)(k:List Nat→Prop):Prop:=match x with
 | .str a=>k a
 | _=>True
noncomputable def Dk (x:PV)(k:List PV→Prop):Prop:=match x with
 | .tup a=>k a
 | _=>True
noncomputable def Ld (x:PV)(ki:Int→Prop)(ks:List Nat→Prop)(kt:List PV→Prop):Prop:=match x with
 | .int a=>ki a
 | .str a=>ks a
 | .tup a=>kt a
 | _=>True
noncomputable def Gz (x y:PV)(k:Int→Int→Prop):Prop:=yf x λ a=>yf y (k a)
noncomputable def KP (x y:PV)(K:PV→Prop):Prop:=Ld x (λ a=>yf y λ b=>K (.int (a+b))) (λ a=>mY y λ b=>a.length+b.length≤ax→K (.str (a++b)))
 λ a=>Dk y λ b=>a.length+b.length≤ax∧a≠[]∧b≠[]→K (.tup (a++b))
noncomputable def KJ (x y:PV)(K:PV→Prop):Prop:=Ld x (λ a=>yf y λ b=>K (.int (a+b))) (λ a=>mY y λ b=>a.length+b.length≤ax→K (.str (a++b))) λ Z9=>True
noncomputable def KE (o:Operator)(x y:PV)(K:PV→Prop):Prop:=match o with
 | .Add=>KP x y K
 | .Sub=>Gz x y λ a b=>K (.int (a-b))
 | .Mult=>Ld x (λ a=>yf y λ b=>m8 a=true→m8 b=true→K (.int (a*b))) (λ a=>yf y λ n=>0≤n∧n<100∧n.toNat*a.length≤ax→K (.str (List.flatten (List.replicate n.toNat a)))) λ Z9=>True
 | .FloorDiv=>Gz x y λ a b=>0<b∧b<1000000000000→K (.int (a / b))
 | .Mod=>Gz x y λ a b=>0<b∧b<2000000000000→K (.int (a % b))
 | .Pow=>Gz x y λ a b=>a=2∧0≤b∧b<200→K (.int (2 ^ b.toNat))
 | .RShift=>Gz x y λ a b=>0≤b∧b<100→K (.int (a / 2 ^ b.toNat))
 | .BitAnd=>Gz x y λ a b=>0≤a∧0≤b→K (.int (a.toNat &&& b.toNat:Nat))
 | _=>True
noncomputable def Cq (x y:PV)(σ:aa)(os:List OV)(K:aY PV→List OV→Prop):Prop:=match hd os with
 | .l xs ys=>bw σ x=some xs→bw σ y=some ys→xs.length+ys.length≤ax→K (.ok (.loc σ.length) (σ++[.lst (xs++ys)])) os.tail
 | _=>True
noncomputable def M8 (p:Fn)(a:PV)(σ:aa)(os:List OV)(K:aY PV→List OV→Prop):Prop:=match p with
 | .len=>zS ((jE σ a).map λ n:Nat=>PV.int (n:Int)) σ os K
 | .ord=>mY a λ s=>match s with | [c]=>K (.ok (.int c) σ) os | _=>True
 | .chr=>yf a λ i=>0≤i∧i<1114112→K (.ok (.str [i.toNat]) σ) os
 | .str=>yf a λ i=>m8 i=true→K (.ok (.str (aL i)) σ) os
 | .list=>Dk a λ vs=>K (.ok (.lst vs) σ) os
 | .tuple=>zS ((bw σ a).map .tup) σ os K
 | .sorted=>zS (oS σ a) σ os K
 | .range=>yf a λ i=>0≤i∧i<2 ^ 40→K (.ok (.rng i.toNat) σ) os
 | _=>True
noncomputable def MZ (p:Fn)(a:PV)(σ:aa)(os:List OV)(K:aY PV→List OV→Prop):Prop:=match p with
 | .strip=>mY a λ s=>K (.ok (.str (av s)) σ) os
 | .split=>mY a λ s=>(ai s).length≤ax→K (.ok (.lst ((ai s).map .str)) σ) os
 | _=>True
noncomputable def iJ (σ:aa)(a:PV):Option (List PV):=match a with
 | .loc l=>(σ[l]?).bind eR
 | _=>none
noncomputable def z2 (p:Fn)(x:PV)(σ:aa)(os:List OV)(k:List OV→Prop):Prop :=
 let l:=match hd os with
  | .l vs _=>iJ σ x=some vs→k os.tail
  | .auto=>au (iJ σ x) λ Z9=>k os.tail
  | _=>True
 match p with
 | .extend=>l
 | .append=>l
 | .insert=>l
 | .get=>(match x with | .dctI _ _=>k os | .dctS _ _=>k os | _=>True)
 | .join=>mY x λ Z9=>k os
 | .splitOn=>mY x λ Z9=>k os
 | .endswith=>mY x λ Z9=>k os
 | .startswith=>mY x λ Z9=>k os
 | .index=>mY x λ Z9=>k os
 | _=>True
noncomputable def MY (p:Fn)(a b:PV)(σ:aa)(os:List OV)(K:aY PV→List OV→Prop):Prop:=match p with
 | .join=>mY a λ s=>zS (wE σ s b) σ os K
 | .splitOn=>mY a λ s=>mY b λ t=>match t with | [c]=>(aq c s).length≤ax→K (.ok (.lst ((aq c s).map .str)) σ) os | _=>True
 | .endswith=>mY a λ s=>mY b λ t=>FX (some (Txt.endswith (aG s) (aG t))) σ os K
 | .startswith=>mY a λ s=>mY b λ t=>FX (some (Txt.startswith (aG s) (aG t))) σ os K
 | .index=>mY a λ s=>mY b λ t=>zS ((nM t s).map λ i:Nat=>PV.int (i:Int)) σ os K
 | .extend=>It (Hx σ a b) os K
 | .append=>It (q9 σ a b) os K
 | _=>True
noncomputable def MX (p:Fn)(a b c:PV)(σ:aa)(os:List OV)(K:aY PV→List OV→Prop):Prop:=match p with
 | .get=>zS (getD σ a b c) σ os K
 | .insert=>It (Hj σ a b c) os K
 | _=>True
noncomputable def Cd (P:aY PV→Prop)(σ:aa)(os:List OV)(K:aY PV→List OV→Prop):Prop:=match hd os with
 | .v x=>P (.ok x σ)→K (.ok x σ) os.tail
 | .r x σ'=>P (.ok x σ')→K (.ok x σ') os.tail
 | .x c a σ'=>P (.exc c a σ')→K (.exc c a σ') os.tail
 | _=>True
set_option tactic.hygienic true in
noncomputable def wv (P:aY cO→Prop)(os:List OV)(K:aY cO→List OV→Prop):Prop:=match hd os with
 | .n ρ' σ'=>P (.ok (.next ρ') σ')→K (.ok (.next ρ') σ') os.tail
 | .r x σ'=>P (.ok (.ret x) σ')→K (.ok (.ret x) σ') os.tail
 | .x c a σ'=>P (.exc c a σ')→K (.exc c a σ') os.tail
 | _=>True
noncomputable def Ji (fs:List (List Nat×Bool))(c n:Nat):PV:=.inst c (fs.map (·.1)) ((List.range fs.length).map λ i=>.loc (n+i))
noncomputable def GH (fs:List (List Nat×Bool)):aa:=fs.map λ f=>if f.2 then .lst [] else .dctI [] []
noncomputable def K2 {α β:Type}(r:aY α)(os:List OV)(K:aY β→List OV→Prop)(f:α→aa→List OV→Prop):Prop:=match r with
 | .ok v σ=>f v σ os
 | .exc c a σ=>K (.exc c a σ) os
noncomputable def bl (b:Bool)(k:Prop):Prop:=match b with
 | true=>k
 | false=>True
noncomputable def Hc (P:aY PV→Prop)(σ:aa)(os:List OV)(K:aY PV→List OV→Prop)(d:Prop):Prop:=match hd os with
 | .e x=>P (.ok x σ)→K (.ok x σ) os.tail
 | _=>d
noncomputable def B5 (P:List PV→Prop)(σ:aa)(os:List OV)(K:aY PV→List OV→Prop):Prop:=match hd os with
 | .l ys _=>P ys→ys.length≤ax→K (.ok (.lst ys) σ) os.tail
 | _=>True
noncomputable def Fb (x:PV)(a b:Prop):Prop:=match x with
 | .bool true=>a
 | .bool false=>b
 | _=>True
noncomputable def cT (ρ:am)(i:Nat):Option PV:=(ρ[i]?).bind id
noncomputable abbrev KO (α:Type):=aY α→List OV→Prop
noncomputable abbrev KV (α:Type):=am→aa→List OV→KO α→Prop
noncomputable def th {α β:Type}(f:KV α)(ρ:am)(σ:aa)(os:List OV)(K:KO β)(k:α→aa→List OV→Prop):Prop:=f ρ σ os λ r os=>K2 r os K k
noncomputable def t6 (Γ:Gs)(e:IE):KV PV:=e.rec
 (c:=λ v ρ σ os K=>K (.ok v σ) os)
 (v:=λ i ρ σ os K=>au (cT ρ i) λ v=>K (.ok v σ) os)
 (g:=λ i ρ σ os K=>au (Γ.g i) λ v=>K (.ok v σ) os)
 (bin:=λ o a b f g ρ σ os K=>th f ρ σ os K λ x σ os=>th g ρ σ os K λ y σ os=>KE o x y λ v=>K (.ok v σ) os)
 (addl:=λ a b f g ρ σ os K=>th f ρ σ os K λ x σ os=>th g ρ σ os K λ y σ os=>Cq x y σ os K)
 (neg:=λ a f ρ σ os K=>th f ρ σ os K λ x σ os=>yf x λ i=>K (.ok (.int (-i)) σ) os)
 (nott:=λ a f ρ σ os K=>th f ρ σ os K λ x σ os=>Fb x (K (.ok (.bool false) σ) os) (K (.ok (.bool true) σ) os))
 (and:=λ a b f g ρ σ os K=>th f ρ σ os K λ x σ os=>Fb x (g ρ σ os K) (K (.ok (.bool false) σ) os))
 (or:=λ a b f g ρ σ os K=>th f ρ σ os K λ x σ os=>Fb x (K (.ok (.bool true) σ) os) (g ρ σ os K))
 (andv:=λ a b f g ρ σ os K=>th f ρ σ os K λ x σ os=>Fb x (g ρ σ os K) (K (.ok (.bool false) σ) os))
 (ite:=λ c a b h f g ρ σ os K=>Hc (Γ.ev (.ite c a b) ρ σ) σ os K (th h ρ σ os K λ x σ os=>Fb x (f ρ σ os K) (g ρ σ os K)))
 (cmp:=λ o a b f g ρ σ os K=>th f ρ σ os K λ x σ os=>th g ρ σ os K λ y σ os=>FX (bT o x y σ) σ os K)
 (cmp2:=λ o1 o2 a b c f g h ρ σ os K=>th f ρ σ os K λ x σ os=>th g ρ σ os K λ y σ os=>FX (bT o1 x y σ) σ os λ r os=>K2 r os K λ q σ os =>
  Fb q (th h ρ σ os K λ z σ os=>FX (bT o2 y z σ) σ os K) (K (.ok (.bool false) σ) os))
 (tru:=λ a f ρ σ os K=>th f ρ σ os K λ x σ os=>FX (zo σ x) σ os K)
 (fn:=λ p a f ρ σ os K=>th f ρ σ os K λ x σ os=>M8 p x σ os K)
 (m0:=λ p a f ρ σ os K=>th f ρ σ os K λ x σ os=>MZ p x σ os K)
 (m1:=λ p a b f g ρ σ os K=>th f ρ σ os K λ x σ os=>z2 p x σ os λ os=>th g ρ σ os K λ y σ os=>MY p x y σ os K)
 (m2:=λ p a b c f g h ρ σ os K=>th f ρ σ os K λ x σ os=>z2 p x σ os λ os=>th g ρ σ os K λ y σ os=>th h ρ σ os K λ z σ os=>MX p x y z σ os K)
 (call:=λ n as f ρ σ os K=>th f ρ σ os K λ x σ os=>Dk x λ vs=>Cd (Γ.call n vs σ) σ os K)
 (new:=λ c ρ σ os K=>K (.ok (Ji (Γ.fld c) c σ.length) (σ++GH (Γ.fld c))) os)
 (idx:=λ a i f g ρ σ os K=>th f ρ σ os K λ x σ os=>th g ρ σ os K λ y σ os=>zS (bp x y σ) σ os K)
 (slice:=λ a lo hi f g h ρ σ os K=>th f ρ σ os K λ x σ os=>th g ρ σ os K λ y σ os=>th h ρ σ os K λ z σ os=>zS (dN x y z) σ os K)
 (attr:=λ a n f ρ σ os K=>th f ρ σ os K λ x σ os=>zS (FZ x n) σ os K)
 (tup:=λ as f ρ σ os K=>th f ρ σ os K λ x σ os=>Dk x λ vs=>bl (Nat.ble vs.length 1000) (K (.ok (.tup vs) σ) os))
 (lst:=λ as f ρ σ os K=>th f ρ σ os K λ x σ os=>Dk x λ vs=>bl (Nat.ble vs.length 1000) (K (.ok (.lst vs) σ) os))
 (nil:=λ ρ σ os K=>K (.ok (.loc σ.length) (σ++[.lst []])) os)
 (dct0:=λ ρ σ os K=>K (.ok (.loc σ.length) (σ++[.dctI [] []])) os)
 (dctc:=λ ks vs ρ σ os K=>K (.ok (.dctS ks (vs.map .str)) σ) os)
 (comp:=λ elt single nt iter cond mask Z9 f Z9 ρ σ os K=>th f ρ σ os K λ x σ os=>au (gm x) λ xs=>B5 (lI (e7 Γ elt cond single nt mask ρ σ) xs) σ os K)
 (nl:=λ ρ σ os K=>K (.ok (.tup []) σ) os)
 (cs:=λ e r f g ρ σ os K=>th f ρ σ os K λ v σ os=>th g ρ σ os K λ w σ os=>Dk w λ vs=>K (.ok (.tup (v::vs)) σ) os)
noncomputable def LB (P:aY cO→Prop)(os:List OV)(K:KO cO)(d:List OV→Prop):Prop:=match hd os with
 | .s r=>P r→K r os.tail
 | .k=>d os.tail
 | _=>d os
set_option tactic.hygienic true in
noncomputable def MN (g:KV cO)(K:KO cO)(o:cO)(σ:aa)(os:List OV):Prop:=match o with
 | .next ρ'=>g ρ' σ os K
 | .ret v=>K (.ok (.ret v) σ) os
noncomputable def Ke (e:IE)(k:PV→Prop):Prop:=match e with
 | .c v=>k v
 | _=>True
noncomputable def Kf (s:IS)(k:PV→Prop):Prop:=match s with
 | .ret e=>Ke e k
 | _=>True
noncomputable def Kg (h:IS)(k:PV→Prop):Prop:=match h with
 | .sq s _=>Kf s k
 | _=>True
noncomputable def nt (s:IS):Bool:=s.rec (λ Z9=>false) (λ Z9=>false) (λ Z9 Z9=>false) (λ Z9 Z9=>false) (λ Z9 Z9=>false) (λ Z9 Z9 Z9=>false) (λ Z9 Z9 Z9 f g=>f||g) (λ Z9 Z9 Z9 f=>f) (λ Z9 Z9 Z9 Z9 Z9 f=>f) (λ Z9 Z9=>false) (λ Z9 x Z9 Z9=>x.isSome) false (λ Z9 Z9 f g=>f||g)
set_option tactic.hygienic true in
noncomputable def IA (Γ:Gs)(s:IS):KV cO:=s.rec
 (ret:=λ e ρ σ os K=>th (t6 Γ e) ρ σ os K λ v σ os=>K (.ok (.ret v) σ) os)
 (expr:=λ e ρ σ os K=>th (t6 Γ e) ρ σ os K λ v σ os=>K (.ok (.next ρ) σ) os)
 (asg:=λ i e ρ σ os K=>th (t6 Γ e) ρ σ os K λ v σ os=>K (.ok (.next (ρ.set i (some v))) σ) os)
 (asgT:=λ is e ρ σ os K=>th (t6 Γ e) ρ σ os K λ v σ os=>au (b3 false is v ρ) λ ρ'=>K (.ok (.next ρ') σ) os)
 (aug:=λ i e ρ σ os K=>au (cT ρ i) λ x=>th (t6 Γ e) ρ σ os K λ y σ os=>KJ x y λ v=>K (.ok (.next (ρ.set i (some v))) σ) os)
 (setI:=λ d k v ρ σ os K=>th (t6 Γ v) ρ σ os K λ z σ os=>th (t6 Γ d) ρ σ os K λ x σ os=>th (t6 Γ k) ρ σ os K λ y σ os =>
  It ((eM x y z σ).map λ σ'=>(.none,σ')) os λ r os=>K2 r os K λ Z9 σ os=>K (.ok (.next ρ) σ) os)
 (iff:=λ c a b f g ρ σ os K=>th (t6 Γ c) ρ σ os K λ x σ os=>Fb x (f ρ σ os K) (g ρ σ os K))
 (whil:=λ c b kill Z9 ρ σ os K=>wv (λ r=>∃ k,EO (Γ.ev c) (Γ.st b) kill k ρ σ r) os K)
 (forr:=λ single t it b kill Z9 ρ σ os K=>th (t6 Γ it) ρ σ os K λ x σ os=>au (gm x) λ xs=>wv (cE (Γ.st b) (b3 single t) kill xs (dg kill ρ) σ) os K)
 (raise:=λ c a ρ σ os K=>th (t6 Γ (.cs c (.cs a .nl))) ρ σ os K λ w σ os=>Dk w λ vs=>match vs with | [x,y]=>mY x λ s=>yf y λ i=>K (.exc s i σ) os | _=>True)
 (tryE:=λ e x h f ρ σ os K=>t6 Γ e ρ σ os λ r os=>match r with
  | .ok _ _=>True
  | .exc c a σ=>(match x with
   | none=>Kg h λ v=>K (.ok (.ret v) σ) os
   | some i=>f (ρ.set i (some (.exn a))) σ os λ r os=>K2 (β:=cO) r os (λ Z9 Z9=>True) λ o σ os=>match o with
    | .ret v=>K (.ok (.ret v) σ) os
    | .next _=>True))
 (sk:=λ ρ σ os K=>K (.ok (.next ρ) σ) os)
 (sq:=λ s r f g ρ σ os K=>LB (Γ.st (.sq s r) ρ σ) os K λ os=>th f ρ σ os K (MN g K))
end Mine
end
section
open PySem
namespace Mine
structure CE where
 kind:List (Str×NameKind)
 slots:List Str
 G:List (Str×Nat)
 F:List (Str×Nat)
 C:List (Str×Nat)
 bad:Str
noncomputable def CE.isGlob (E:CE)(x:Str):Bool:=E.kind.lookup x==some .globalImplicit&&x !="__debug__"
noncomputable def CE.isVar (E:CE)(x:Str)(i:Nat):Bool:=(E.kind.lookup x==some .local||E.kind.lookup x==some .cell)&&E.slots[i]?==some x&&x !="__debug__"
noncomputable def uE (e:Expr)(k:Const→Bool):Bool:=match e with | .Constant c _ _=>k c | _=>false
noncomputable def eQ (e:Expr)(k:Str→Bool):Bool:=match e with | .Name x _=>k x | _=>false
noncomputable def G1 (e:Expr)(k:Expr→Operator→Expr→Bool):Bool:=match e with | .BinOp l o r _=>k l o r | _=>false
noncomputable def L0 (e:Expr)(k:UnaryOp→Expr→Bool):Bool:=match e with | .UnaryOp o x _=>k o x | _=>false
noncomputable def AM (e:Expr)(k:BoolOp→Expr→Expr→List Expr→Pos→Bool):Bool:=match e with | .BoolOp o (x::y::r) p=>k o x y r p | _=>false
noncomputable def L5 (e:Expr)(k:Expr→Expr→Expr→Bool):Bool:=match e with | .IfExp t b e _=>k t b e | _=>false
noncomputable def G0 (e:Expr)(k:Expr→List CmpOp→List Expr→Bool):Bool:=match e with | .Compare l o r _=>k l o r | _=>false
noncomputable def lx (e:Expr)(k:Expr→List Expr→Pos→Bool):Bool:=match e with | .Call f as [] p=>k f as p | _=>false
noncomputable def o6 (e:Expr)(k:Expr→Str→Pos→Bool):Bool:=match e with | .Attribute v x p=>k v x p | _=>false
noncomputable def Dv (e:Expr)(k:Expr→Expr→Bool):Bool:=match e with | .Subscript v i _=>k v i | _=>false
noncomputable def AG (e:Expr)(k:Option Expr→Option Expr→Bool):Bool:=match e with | .Slice lo hi none _=>k lo hi | _=>false
noncomputable def Jm (e:Expr)(k:List Expr→Bool):Bool:=match e with | .Tuple es _ _=>k es | _=>false
noncomputable def Dw (e:Expr)(k:List Expr→Bool):Bool:=match e with | .List es _=>k es | _=>false
noncomputable def wu (e:Expr)(k:List (Option Expr)→List Expr→Bool):Bool:=match e with | .Dict ks vs _=>k ks vs | _=>false
noncomputable def Fo (e:Expr)(k:Expr→Comprehension→Scope→Bool):Bool:=match e with | .ListComp el [g] sc _=>k el g sc | _=>false
noncomputable def wc (s:List Nat):Bool:=decide (s.length≤1000)&&s.all (·<1114112)
noncomputable def Lq:PV→Option Const
 | .none=>some .none
 | .bool b=>some (.bool b)
 | .int i=>some (.int i)
 | .str s=>if wc s then some (.str (aG s)) else none
 | _=>none
noncomputable def iG (ss:List (List Nat))(es:List Expr):Bool:=match ss,es with
 | [],[]=>true
 | s::ss,e::es=>uE e (λ c=>some c==Lq (.str s))&&iG ss es
 | _,_=>false
noncomputable def Fn.name:Fn→Str
 | .len=>"len" | .ord=>"ord" | .chr=>"chr" | .str=>"str" | .list=>"list" | .tuple=>"tuple" | .sorted=>"sorted" | .range=>"range"
 | .strip=>"strip" | .split=>"split" | .join=>"join" | .splitOn=>"split" | .endswith=>"endswith" | .startswith=>"startswith" | .index=>"index" | .extend=>"extend" | .append=>"append"
 | .get=>"get" | .insert=>"insert"
noncomputable def Fn.isFn:Fn→Bool
 | .len | .ord | .chr | .sorted | .str | .list | .tuple | .range=>true
 | _=>false
noncomputable def bR:Expr→Bool
 | .Starred _ _=>false
 | _=>true
noncomputable def Dp:List Expr→Bool
 | []=>true
 | e::_=>bR e
noncomputable def mZ:Expr→Bool
 | .Tuple .. | .List .. | .ListComp .. | .SetComp .. | .DictComp ..=>false
 | _=>true
noncomputable def m9:Expr→Bool
 | .Call (.Name _ _) [] [] _=>false
 | _=>true
noncomputable def m5:Expr→Bool
 | .Set ..=>false
 | _=>true
noncomputable def Fc:Expr→Bool
 | .Name .. | .Call .. | .BinOp ..=>true
 | _=>false
noncomputable def Dq (es:List Expr):Option (List Str):=match es with
 | []=>some []
 | e::r=>match e with | .Name x _=>(Dq r).map (x::·) | _=>none
noncomputable def b5:Expr→Option (Bool×List Str)
 | .Name x _=>some (true,[x])
 | .Tuple es _ _=>(Dq es).map λ xs=>(false,xs)
 | _=>none
noncomputable def CE.inner (E:CE)(sc:Scope)(tgts:List Str):CE×List Bool :=
 let kind':=sc.names.map λ (n,k)=>if (k==.free&&E.kind.lookup n==some .cell) then (n,NameKind.cell) else (n,k)
 let keeps:=E.slots.map λ x=>kind'.lookup x==some .cell
 ({ E with kind:=kind',slots:=(E.slots.zip keeps).map (λ (x,b)=>if b then x else Str.empty)++tgts },keeps)
noncomputable def ux (E:CE)(sc:Scope)(tgts:List Str):Bool :=
 sc.names.all (λ (n,k)=>k !=.cell&&(k !=.local||sc.names.lookup n==some .local)&&(k !=.free||E.kind.lookup n==some .cell))&&decide tgts.Nodup&&tgts.all (λ x=>sc.names.lookup x==some .local&&x !=Str.empty)&&E.slots.all (· !=Str.empty)
structure R3 where
 v:Expr→Bool
 b:Expr→Bool
 l:List Expr→Bool
noncomputable def no {α:Type}:α→Bool:=λ Z9=>false
noncomputable def eV (v:Expr→Bool):R3:=⟨v,no,no⟩
noncomputable def eB (v:Expr→Bool):R3:=⟨no,v,no⟩
noncomputable def yd (o:Option Expr):Expr:=match o with | some e=>e | none=>.Constant .none 0 default
noncomputable def IE.isNl:IE→Bool
 | .nl=>true
 | _=>false
noncomputable def I4 (op:BoolOp)(f g:CE→R3)(E:CE)(e:Expr):Bool:=AM e λ o x y r p=>o==op&&(f E).b x&&(match r with | []=>(g E).b y | _=>(g E).b (.BoolOp o (y::r) p))
noncomputable def rel (e:IE):CE→R3:=e.rec
 (c:=λ v E=>eV λ e=>uE e λ c=>some c==Lq v)
 (v:=λ i E=>eV λ e=>eQ e λ x=>E.isVar x i)
 (g:=λ i E=>eV λ e=>eQ e λ x=>E.isGlob x&&E.G.lookup x==some i)
 (bin:=λ o a b f g E=>eV λ e=>G1 e λ l o' r=>o'==o&&(f E).v l&&(g E).v r)
 (addl:=λ a b f g E=>eV λ e=>G1 e λ l o' r=>o'==.Add&&(f E).v l&&(g E).v r)
 (neg:=λ a f E=>eV λ e=>L0 e λ o x=>o==.USub&&(f E).v x)
 (nott:=λ a f E=>eB λ e=>L0 e λ o x=>o==.Not&&(f E).b x)
 (and:=λ a b f g E=>eB (I4 .And f g E))
 (or:=λ a b f g E=>eB (I4 .Or f g E))
 (andv:=λ a b f g E=>eV λ e=>AM e λ o x y r Z9=>o==.And&&r.isEmpty&&(f E).v x&&(g E).v y)
 (ite:=λ c a b h f g E=>⟨λ e=>L5 e λ t b e=>(h E).b t&&(f E).v b&&(g E).v e,λ e=>L5 e λ t b e=>(h E).b t&&(f E).b b&&(g E).b e,no⟩)
 (cmp:=λ o a b f g E=>let k:=λ e=>G0 e λ l os rs=>match os,rs with | [o'],[r]=>o'==o&&!behindInMarks o' r&&(f E).v l&&(g E).v r | _,_=>false
  ⟨k,k,no⟩)
 (cmp2:=λ o1 o2 a b c f g h E=>eB λ e=>G0 e λ l os rs=>match os,rs with | [p,q],[m,r]=>p==o1&&q==o2&&!lastMarks [p,q] [m,r]&&(f E).v l&&(g E).v m&&(h E).v r | _,_=>false)
 (tru:=λ a f E=>eB λ e=>Fc e&&(f E).v e)
 (fn:=λ p a f E=>eV λ e=>lx e λ n as Z9=>eQ n λ x=>p.isFn&&x==p.name&&E.isGlob x&&(match as with | [y]=>bR y&&(f E).v y | _=>false))
 (m0:=λ p a f E=>eV λ e=>lx e λ n as pos=>o6 n λ o x ap=>x==p.name&&ap.endLine==pos.line&&m9 o&&as.isEmpty&&(f E).v o)
 (m1:=λ p a b f g E=>eV λ e=>lx e λ n as pos=>o6 n λ o x ap=>x==p.name&&ap.endLine==pos.line&&m9 o&&(f E).v o&&(match as with | [y]=>bR y&&(g E).v y | _=>false))
 (m2:=λ p a b c f g h E=>eV λ e=>lx e λ n as pos=>o6 n λ o x ap=>x==p.name&&ap.endLine==pos.line&&m9 o&&(f E).v o&&(match as with | [y,z]=>bR y&&bR z&&(g E).v y&&(h E).v z | _=>false))
 (call:=λ n as f E=>eV λ e=>lx e λ m as Z9=>eQ m λ x=>E.isGlob x&&E.F.lookup x==some n&&Dp as&&(f E).l as)
 (new:=λ c E=>eV λ e=>lx e λ m as Z9=>eQ m λ x=>E.isGlob x&&E.C.lookup x==some c&&as.isEmpty)
 (idx:=λ a i f g E=>eV λ e=>Dv e λ v i=>(f E).v v&&(g E).v i)
 (slice:=λ a lo hi f g h E=>eV λ e=>Dv e λ v i=>(f E).v v&&AG i λ l u=>(g E).v (yd l)&&(h E).v (yd u))
 (attr:=λ a n f E=>eV λ e=>o6 e λ v x Z9=>x==aG n&&m9 v&&(f E).v v)
 (tup:=λ as f E=>eV λ e=>Jm e λ es=>decide (es.length≤1000)&&(f E).l es)
 (lst:=λ as f E=>eV λ e=>Dw e λ es=>decide (es.length≤1000)&&!es.isEmpty&&(f E).l es)
 (nil:=λ E=>eV λ e=>Dw e List.isEmpty)
 (dct0:=λ E=>eV λ e=>wu e λ ks vs=>ks.isEmpty&&vs.isEmpty)
 (dctc:=λ ks vs E=>eV λ e=>wu e λ as bs=>as.all (·.isSome)&&iG ks (as.filterMap id)&&iG vs bs&&ks.length==vs.length&&decide ks.Nodup&&decide (0<ks.length∧ks.length≤15))
 (comp:=λ elt single nt iter cond mask f g h E=>eV λ e=>Fo e λ el gn sc=>match b5 gn.target with
  | some (s,tg)=>s==single&&tg.length==nt&&gn.is_async==0&&sc.kind==.function&&ux E sc tg&&m5 gn.iter&&mask==(E.inner sc tg).2&&(g E).v gn.iter&&(f (E.inner sc tg).1).v el &&
   (match gn.ifs with | []=>cond.isNl | [c]=>!cond.isNl&&(h (E.inner sc tg).1).b c | _=>false)
  | none=>false)
 (nl:=λ E=>⟨no,no,List.isEmpty⟩)
 (cs:=λ e r f g E=>⟨no,no,λ es=>match es with | x::xs=>bR x&&(f E).v x&&(g E).l xs | []=>false⟩)
noncomputable def Bi:Expr→Bool
 | .Tuple ..=>true
 | _=>false
structure S2 where
 s:Stmt→Bool
 ss:List Stmt→Bool
noncomputable def sS (v:Stmt→Bool):S2:=⟨v,no⟩
noncomputable def Jn (s:Stmt)(k:Option Expr→Bool):Bool:=match s with | .Return e _=>k e | _=>false
noncomputable def AK (s:Stmt)(k:Expr→Bool):Bool:=match s with | .Expr e _=>k e | _=>false
noncomputable def AO (s:Stmt)(k:Expr→Expr→Bool):Bool:=match s with | .Assign [t] e _=>k t e | _=>false
noncomputable def Jt (s:Stmt)(k:Expr→Operator→Expr→Bool):Bool:=match s with | .AugAssign t o e _=>k t o e | _=>false
noncomputable def Jq (s:Stmt)(k:Expr→List Stmt→List Stmt→Bool):Bool:=match s with | .If c a b _=>k c a b | _=>false
noncomputable def AD (s:Stmt)(k:Expr→List Stmt→Bool):Bool:=match s with | .While c b [] _=>k c b | _=>false
noncomputable def Js (s:Stmt)(k:Expr→Expr→List Stmt→Bool):Bool:=match s with | .For t it b [] _=>k t it b | _=>false
noncomputable def AJ (s:Stmt)(k:Expr→Bool):Bool:=match s with | .Raise (some e) none _=>k e | _=>false
noncomputable def Fm (h:ExceptHandler)(k:Expr→Option Str→List Stmt→Bool):Bool:=match h with | .ExceptHandler t nm b _=>(match t with | none=>false | some t=>!b.isEmpty&&k t nm b)
noncomputable def Jo {α:Type}(l:List α)(k:α→Bool):Bool:=match l with | []=>false | a::r=>r.isEmpty&&k a
noncomputable def Jr {α:Type}(l:List α)(k:α→Bool):Bool:=match l with | []=>false | a::_=>k a
noncomputable def Du (s:Stmt)(k:Expr→Str→Option Str→List Stmt→Bool):Bool:=match s with | .Try b hs o f _=>o.isEmpty&&f.isEmpty&&Jr b λ s=>AK s λ e=>Jo hs λ h=>Fm h λ t nm b=>eQ t λ x=>k e x nm b | _=>false
noncomputable def zr (E:CE)(t:Expr)(single:Bool)(is:List Nat):Bool:=match b5 t with
 | some (s,xs)=>s==single&&xs.length==is.length&&(xs.zip is).all λ (x,i)=>E.isVar x i
 | none=>false
noncomputable def GC (E:CE)(nm:Option Str)(x:Option Nat):Bool:=match nm with
 | none=>x.isNone
 | some n=>(match x with | some i=>E.isVar n i&&E.kind.lookup n==some .local | none=>false)
noncomputable def lK (s:IS):CE→S2:=s.rec
 (ret:=λ e E=>sS λ s=>Jn s λ o=>(rel e E).v (yd o))
 (expr:=λ e E=>sS λ s=>AK s λ x=>mZ x&&(rel e E).v x)
 (asg:=λ i e E=>sS λ s=>AO s λ t x=>eQ t (λ n=>E.isVar n i)&&(rel e E).v x)
 (asgT:=λ is e E=>sS λ s=>AO s λ t x=>Bi t&&zr E t false is&&mZ x&&(rel e E).v x)
 (aug:=λ i e E=>sS λ s=>Jt s λ t o x=>o==.Add&&eQ t (λ n=>E.isVar n i)&&(rel e E).v x)
 (setI:=λ d k v E=>sS λ s=>AO s λ t x=>Dv t (λ a b=>(rel d E).v a&&(rel k E).v b)&&(rel v E).v x)
 (iff:=λ c a b f g E=>sS λ s=>Jq s λ t x y=>(rel c E).b t&&(f E).ss x&&(g E).ss y)
 (whil:=λ c b kill f E=>sS λ s=>AD s λ t x=>(rel c E).b t&&(f E).ss x)
 (forr:=λ single is it b kill f E=>sS λ s=>Js s λ t i x=>zr E t single is&&m5 i&&(rel it E).v i&&(f E).ss x)
 (raise:=λ c a E=>sS λ s=>AJ s λ e=>lx e λ m as Z9=>eQ m (λ x=>x==E.bad&&E.isGlob x)&&!as.isEmpty&&(rel (.cs c (.cs a .nl)) E).l as)
 (tryE:=λ e x h f E=>sS λ s=>Du s λ t b nm hb=>mZ t&&(rel e E).v t&&b==E.bad&&E.isGlob b&&GC E nm x&&!nt h&&(f E).ss hb)
 (sk:=λ E=>⟨no,List.isEmpty⟩)
 (sq:=λ a b f g E=>⟨no,λ l=>match l with | s::r=>(f E).s s&&(g E).ss r | []=>false⟩)
noncomputable def vY (sc:Scope)(params:List Str):List Str:=params++(sc.names.filterMap λ (n,k)=>if (k==.local||k==.cell)&&!params.contains n then some n else none)
end Mine
end
section
open PySem PySem.W PyProof.Rows PySem.Calls
namespace Mine
structure Sy where
 prog:Program
 w:World
 K:Frag
 cls:Nat→Addr
 bad:Addr
theorem bt:ax≤sizeLine:=by decide
theorem aK (l:List Nat):(aG l).length=l.length:=by simp [aG,Str.length]
theorem fT (a b:List Nat):aG a++aG b=aG (a++b):=by
 show Str.append (aG a) (aG b)=_
 simp [aG,Str.append]
theorem cU {a b:List Nat}(h:aG a=aG b):a=b:=by simpa [aG] using h
theorem Iu (x:Str):aG (cQ x)=x:=rfl
theorem IC (l:List Nat):cQ (aG l)=l:=rfl
noncomputable def On (a:Addr)(o:Obj)(P:Heap→Prop):Prop:=∀ h:Heap,h.get? a=some o→P h
noncomputable def Lo (a:Addr)(h:Heap)(P:Heap→Prop):Prop:=∃ o,h.get? a=some o∧On a o P
theorem Lo.keep {a h h' P}(x:Lo a h P)(k:∀ o,h.get? a=some o→h'.get? a=some o):Lo a h' P:=x.imp λ Z9 y=>⟨k _ y.1,y.2⟩
theorem Lo.now {a h P}(x:Lo a h P):P h:=x.elim λ Z9 y=>y.2 _ y.1
noncomputable def lr {prog:Program}{w:World}{K L:Type}[DecidableEq K](knd:PySem.KeyKind prog w K)(enc:L→K)(a:Addr)(ks:List L)(vals:List Value)(h:Heap):Prop:=vals.length=ks.length∧(a==sysModules)=false∧h.DictOf knd a ((ks.map enc).zip vals)
noncomputable abbrev K8 (S:Sy):=intKind S.prog S.w
noncomputable abbrev KZ (S:Sy):=PySem.strKind S.prog S.w
structure Fz where
 B:Heap
 μ:List Addr
noncomputable def y9 (P:Addr→List Value→Prop)(R:List Value→Prop)(v:Value):Prop:=∃ a is,v=.ref a∧P a is∧R is
theorem y9.mp {P P':Addr→List Value→Prop}{R R':List Value→Prop}{v:Value}(p:∀ a is,P a is→P' a is)(r:∀ is,R is→R' is)(x:y9 P R v):y9 P' R' v:=x.imp λ a y=>y.imp λ is z=>⟨z.1,p a is z.2.1,r is z.2.2⟩
noncomputable def Cw (K:Frag)(C:Addr)(x:Str):Prop:=plainGet K C x=true∧hasDictIn K C=true∧∃ attr,findIn K (.ref C) x=some attr∧noGet K attr=true
noncomputable def xE (S:Sy)(c:Nat)(a:Addr)(ks:List (List Nat))(vals:List Value)(h:Heap):Prop:=∃ dx es n sl,h.get? a=some ⟨.ref (S.cls c),some dx,.plain,sl⟩∧h.get? dx=some (dictOf es n)∧vals.length=ks.length∧(∀ k∈ks,Cw S.K (S.cls c) (aG k)) ∧
  ∀ (i:Nat) k v,ks[i]?=some k→vals[i]?=some v→getL (aG k) es=some (some v)
theorem xE.keep {S c a ks vs}{h h':Heap}(x:xE S c a ks vs h)(k:h.StaysIn h'):xE S c a ks vs h':=x.imp λ Z9 x=>x.imp λ Z9 x=>x.imp λ Z9 x=>x.imp λ Z9 x=>⟨k _ _ x.1,k _ _ x.2.1,x.2.2⟩
noncomputable def vK (d:Addr)(c:List Nat)(a:Int)(h:Heap):Prop:=∃ es n,h.get? d=some (dictOf es n)∧(∃ vc,getL "code" es=some (some vc))∧∃ t,getL "at" es=some (some (.int a t))
noncomputable def EQ (S:Sy)(a:Int)(ea:Addr)(h:Heap):Prop:=∃ d vs sl,h.get? ea=some ⟨.ref S.bad,some d,.fields vs,sl⟩∧∃ es n,h.get? d=some (dictOf es n)∧∃ t,getL "at" es=some (some (.int a t))
theorem EQ.keep {S ea a}{h h':Heap}(x:EQ S a ea h)(k:h.StaysIn h'):EQ S a ea h':=x.imp λ Z9 x=>x.imp λ Z9 x=>x.imp λ Z9 x=>⟨k _ _ x.1,x.2.imp λ Z9 x=>x.imp λ Z9 x=>⟨k _ _ x.1,x.2⟩⟩
noncomputable def oM (s:List Nat):Prop:=s.length≤ax∧∀ c∈s,c<1114112
noncomputable def Nd (ks:List (List Nat)):Prop:=ks.length≤ax∧∀ k∈ks,oM k
mutual
noncomputable def bj (S:Sy)(β:Fz):PV→Value→Prop
 | .none,v=>v=.none
 | .bool b,v=>v=.bool b
 | .int i,v=>∃ t,v=.int i t
 | .str s,v=>oM s∧∃ t,v=.str (aG s) t
 | .tup vs,v=>vs.length≤ax∧y9 (λ a is=>β.B.IsTuple a is.toArray) (RepL S β vs) v
 | .lst vs,v=>vs.length≤ax∧y9 (λ a is=>β.B.IsList a is.toArray) (RepL S β vs) v
 | .dctI ks vs,v=>ks.length≤ax∧y9 (λ a is=>Lo a β.B (lr (K8 S) id a ks is)) (RepL S β vs) v
 | .dctS ks vs,v=>Nd ks∧y9 (λ a is=>Lo a β.B (lr (KZ S) aG a ks is)) (RepL S β vs) v
 | .inst c ks vs,v=>y9 (λ a is=>xE S c a ks is β.B) (RepL S β vs) v
 | .rng n,v=>(n:Int)<2 ^ 40∧∃ a,v=.ref a∧∃ t0 t1 t2,IsRange β.B a 0 n 1 t0 t1 t2
 | .loc l,v=>∃ a,v=.ref a∧β.μ[l]?=some a
 | .exn a,v=>∃ ea,v=.ref ea∧EQ S a ea β.B
noncomputable def RepL (S:Sy)(β:Fz):List PV→List Value→Prop
 | [],l=>l=[]
 | p::ps,l=>∃ v r,l=v::r∧bj S β p v∧RepL S β ps r
end
theorem pX {μ μ':List Addr}(hp:μ <+: μ'){l:Nat}{a:Addr}(h:μ[l]?=some a):μ'[l]?=some a :=
 hp.elim λ t e=>ri e ((S3 (O6.mp h).1).trans h)
structure Le (β β':Fz):Prop where
 b:β.B.StaysIn β'.B
 m:β.μ <+: β'.μ
theorem Le.rfl' {β}:Le β β:=⟨λ Z9 Z9 e=>e,z0f _⟩
theorem Le.trans {β β₁ β₂}(x:Le β β₁)(y:Le β₁ β₂):Le β β₂:=⟨λ b o e=>y.b b o (x.b b o e),x.m.trans y.m⟩
theorem rj {h h':Heap}{a l}(x:h.IsTuple a l)(k:h.StaysIn h'):h'.IsTuple a l:=x.imp λ Z9 y=>⟨k _ _ y.1,y.2⟩
theorem DU {h h':Heap}{a l}(x:h.IsList a l)(k:h.StaysIn h'):h'.IsList a l:=x.imp λ Z9 y=>⟨k _ _ y.1,y.2⟩
theorem bj.mv {S:Sy}{β β':Fz}(hB:β.B.StaysIn β'.B)(P:Prop)(hp:P→β.μ <+: β'.μ)(p:PV):∀ v,P∨aS p=true→bj S β p v→bj S β' p v :=
 p.rec (motive_1:=λ p=>∀ v,P∨aS p=true→bj S β p v→bj S β' p v) (motive_2:=λ p=>∀ v,P∨noLocs p=true→RepL S β p v→RepL S β' p v)
  (none:=λ Z9 Z9 h=>h) (bool:=λ Z9 Z9 Z9 h=>h) (int:=λ Z9 Z9 Z9 h=>h) (str:=λ Z9 Z9 Z9 h=>h)
  (tup:=λ vs ih v q x=>⟨x.1,x.2.mp (λ Z9 Z9 t=>rj t hB) λ Z9=>ih _ q⟩)
  (lst:=λ vs ih v q x=>⟨x.1,x.2.mp (λ Z9 Z9 t=>DU t hB) λ Z9=>ih _ q⟩)
  (dctI:=λ Z9 vs ih v q x=>⟨x.1,x.2.mp (λ Z9 Z9 t=>t.keep (hB _)) λ Z9=>ih _ q⟩)
  (dctS:=λ Z9 vs ih v q x=>⟨x.1,x.2.mp (λ Z9 Z9 t=>t.keep (hB _)) λ Z9=>ih _ q⟩)
  (inst:=λ Z9 Z9 vs ih v q x=>x.mp (λ Z9 Z9 t=>t.keep hB) λ Z9=>ih _ q)
  (rng:=λ Z9 Z9 Z9 x=>⟨x.1,x.2.imp λ Z9 y=>⟨y.1,y.2.imp λ Z9 z=>z.imp λ Z9 z=>z.imp λ Z9 z=>hB _ _ z⟩⟩)
  (loc:=λ Z9 Z9 q x=>x.imp λ Z9 y=>⟨y.1,pX (q.elim hp λ z=>rh z) y.2⟩)
  (exn:=λ Z9 Z9 Z9 x=>x.imp λ Z9 y=>⟨y.1,y.2.keep hB⟩)
  (nil:=λ Z9 Z9 h=>h)
  (cons:=λ Z9 Z9 f g Z9 q x=>x.imp λ Z9 x=>x.imp λ Z9 y=>⟨y.1,f _ (q.imp id λ z=>(N4.mp z).1) y.2.1,g _ (q.imp id λ z=>(N4.mp z).2) y.2.2⟩)
theorem RepL.mv {S:Sy}{β β':Fz}(hB:β.B.StaysIn β'.B)(P:Prop)(hp:P→β.μ <+: β'.μ)(p:List PV):∀ v,P∨noLocs p=true→RepL S β p v→RepL S β' p v :=
 p.rec (λ Z9 Z9 h=>h) λ Z9 Z9 g Z9 q x=>x.imp λ Z9 x=>x.imp λ Z9 y=>⟨y.1,bj.mv hB P hp _ _ (q.imp id λ z=>(N4.mp z).1) y.2.1,g _ (q.imp id λ z=>(N4.mp z).2) y.2.2⟩
section
variable {S:Sy} {β β':Fz}
theorem bj.mono (k:Le β β'){p v}(h:bj S β p v):bj S β' p v:=bj.mv k.b True (λ Z9=>k.m) p v (.inl trivial) h
theorem RepL.mono (k:Le β β'){p v}(h:RepL S β p v):RepL S β' p v:=RepL.mv k.b True (λ Z9=>k.m) p v (.inl trivial) h
theorem bj.free {p v}(h:bj S β p v)(n:aS p=true)(k:β.B.StaysIn β'.B):bj S β' p v:=bj.mv k False False.elim p v (.inr n) h
theorem RepL.free {p v}(h:RepL S β p v)(n:noLocs p=true)(k:β.B.StaysIn β'.B):RepL S β' p v:=RepL.mv k False False.elim p v (.inr n) h
theorem RepL.length {ps:List PV}{vs:List Value}(h:RepL S β ps vs):vs.length=ps.length:=by
 induction ps generalizing vs with
 | nil=>exact congrArg List.length h
 | cons _ _ g=>exact h.elim λ Z9 x=>x.elim λ Z9 y=>ru y.1 (congrArg (·+1) (g y.2.2))
theorem RepL.get {ps:List PV}{vs:List Value}{i:Nat}{p:PV}(h:RepL S β ps vs)(e:ps[i]?=some p):∃ v,vs[i]?=some v∧bj S β p v:=by
 induction ps generalizing vs i with
 | nil=>exact b2 e
 | cons _ _ g=>exact h.elim λ v x=>x.elim λ r y=>y.1▸match i,e with
  | 0,e=>⟨v,rfl,ri (Option.some.inj e) y.2.1⟩
  | i+1,e=>g (i:=i) y.2.2 e
theorem RepL.append {qs ps:List PV}{vs ws:List Value}(h:RepL S β ps vs)(k:RepL S β qs ws):RepL S β (ps++qs) (vs++ws):=by
 induction ps generalizing vs with
 | nil=>exact ru (show _=[] from h) k
 | cons _ _ g=>exact h.imp λ Z9 x=>x.elim λ r y=>⟨r++ws,ru y.1 rfl,y.2.1,g y.2.2⟩
theorem RepL.single {p:PV}{v:Value}(h:bj S β p v):RepL S β [p] [v]:=⟨v,[],rfl,h,rfl⟩
theorem RepL.take (n:Nat){ps:List PV}{vs:List Value}(h:RepL S β ps vs):RepL S β (ps.take n) (vs.take n):=by
 induction n generalizing ps vs with
 | zero=>exact rfl
 | succ n g=>cases ps with
  | nil=>exact ru (show _=[] from h) rfl
  | cons p ps=>exact h.imp λ Z9 x=>x.elim λ r y=>⟨r.take n,ru y.1 rfl,y.2.1,g y.2.2⟩
theorem RepL.drop (n:Nat){ps:List PV}{vs:List Value}(h:RepL S β ps vs):RepL S β (ps.drop n) (vs.drop n):=by
 induction n generalizing ps vs with
 | zero=>exact h
 | succ n g=>cases ps with
  | nil=>exact ru (show _=[] from h) rfl
  | cons p ps=>exact h.elim λ Z9 x=>x.elim λ r y=>ru y.1 (g y.2.2)
end
end Mine
end
section
open PySem PySem.W PyProof.Rows PySem.Calls
namespace Mine
noncomputable def j4 (B:Heap)(d:Addr)(ep:Nat):Prop:=∃ o es,B.get? d=some o∧o.data=.dict es ep
inductive vJ (B:Heap) (v:Value) (o:Obj) (i:Nat):PV→Prop
 | str (x:List Nat) (n:String) (c:o.cls=.type n) (hn:n="str_ascii_iterator"∨n="str_iterator") (d:o.data=.fields #[v,.int i 0]):vJ B v o i (.str x)
 | tup (vs:List PV) (c:o.cls=.type "tuple_iterator") (d:o.data=.fields #[v,.int i 0]):vJ B v o i (.tup vs)
 | lst (vs:List PV) (c:o.cls=.type "list_iterator") (d:o.data=.fields #[v,.int i 0]):vJ B v o i (.lst vs)
 | dctI (ks:List Int) (vs:List PV) (a:Addr) (ep:Nat) (e:v=.ref a) (h:j4 B a ep) (c:o.cls=.type "dict_keyiterator") (d:o.data=.fields #[.ref a,.int i 0,.int ks.length 0,.int ep 0]):vJ B v o i (.dctI ks vs)
 | dctS (ks:List (List Nat)) (vs:List PV) (a:Addr) (ep:Nat) (e:v=.ref a) (h:j4 B a ep) (c:o.cls=.type "dict_keyiterator") (d:o.data=.fields #[.ref a,.int i 0,.int ks.length 0,.int ep 0]):vJ B v o i (.dctS ks vs)
 | rng (n:Nat) (hi:i≤n) (e:o={ cls:=.type "range_iterator",dict:=none,data:=.fields #[rawInt (i:Nat),rawInt ((n:Int)-(i:Nat)),rawInt 1],slots:=#[] }):vJ B v o i (.rng n)
theorem j4.keep {B B':Heap}{d ep}(x:j4 B d ep)(k:B.StaysIn B'):j4 B' d ep:=x.imp λ Z9 x=>x.imp λ Z9 y=>⟨k _ _ y.1,y.2⟩
theorem vJ.mono {B B':Heap}{v o i}(k:B.StaysIn B'){p:PV}(x:vJ B v o i p):vJ B' v o i p:=by
 cases x with
 | str x n c hn d=>exact .str x n c hn d
 | tup vs c d=>exact .tup vs c d
 | lst vs c d=>exact .lst vs c d
 | dctI ks vs a ep e h c d=>exact .dctI ks vs a ep e (h.keep k) c d
 | dctS ks vs a ep e h c d=>exact .dctS ks vs a ep e (h.keep k) c d
 | rng n hi e=>exact .rng n hi e
inductive FO where
 | s (o:aN) | frame (vs:List (Str×PV)) | cell (vs:List (Str×PV)) | iter (p:PV) (i:Nat) | exc (hd:Option Value) (T:Option Addr) (d:Addr) | tb (fr:Option Addr)
noncomputable def Ob (a:Addr)(o:Obj)(P:List Value→Heap→Prop)(R:List Value→Prop):Prop:=∃ is,On a o (P is)∧R is
theorem Ob.mp {a o P}{R R':List Value→Prop}(r:∀ is,R is→R' is)(x:Ob a o P R):Ob a o P R':=x.imp λ Z9 y=>⟨y.1,r _ y.2⟩
noncomputable def fP (S:Sy)(β:Fz)(m:Str→Option Value)(vs:List (Str×PV)):Prop:=∀ q∈vs,∃ v,m q.1=some v∧bj S β q.2 v
noncomputable def eH (S:Sy)(β:Fz)(a:Addr)(o:Obj):aN→Prop
 | .lst vs=>vs.length≤ax∧Ob a o (λ is h=>h.PlainList a is.toArray) (RepL S β vs)
 | .dctI ks vs=>ks.length≤ax∧Ob a o (λ is=>lr (K8 S) id a ks is) (RepL S β vs)
 | .dctS ks vs=>Nd ks∧Ob a o (λ is=>lr (KZ S) aG a ks is) (RepL S β vs)
noncomputable def HO (S:Sy)(β:Fz)(a:Addr)(o:Obj):FO→Prop
 | .s x=>eH S β a o x
 | .frame vs=>∃ m,On a o (λ h=>h.Ns a m)∧fP S β m vs
 | .cell vs=>∃ v,On a o (λ h=>h.IsCell a v)∧fP S β (λ Z9=>v) vs
 | .iter p i=>∃ v,bj S β p v∧vJ β.B v o i p
 | .exc hd T d=>∃ vs sl,o=⟨.ref S.bad,some d,.fields vs,sl⟩∧2<vs.size∧(hd=none→vs[2]?=some .none)∧vs[1]?=some (T.elim .none .ref)
 | .tb fr=>∃ ts,o.data=.fields ts∧ts[3]?=some (fr.elim .none λ L=>rawInt L)
theorem fP.mono {S β β' m vs}(k:Le β β')(x:fP S β m vs):fP S β' m vs:=λ q w=>(x q w).imp λ Z9 y=>⟨y.1,y.2.mono k⟩
theorem eH.mono {S β β' a o}(k:Le β β'){x:aN}(y:eH S β a o x):eH S β' a o x:=by
 cases x<;>exact ⟨y.1,y.2.mp λ Z9 r=>RepL.mono k r⟩
theorem eH.free {S:Sy}{β β':Fz}{a o}(k:β.B.StaysIn β'.B){x:aN}(n:bQ x=true)(y:eH S β a o x):eH S β' a o x:=by
 cases x<;>exact ⟨y.1,y.2.mp λ Z9 r=>RepL.free r n k⟩
theorem HO.mono {S β β' a o}(k:Le β β'){φ:FO}(x:HO S β a o φ):HO S β' a o φ:=by
 cases φ with
 | s=>exact eH.mono k x
 | frame=>exact x.imp λ Z9 y=>⟨y.1,y.2.mono k⟩
 | cell=>exact x.imp λ Z9 y=>⟨y.1,y.2.mono k⟩
 | iter=>exact x.imp λ Z9 y=>⟨y.1.mono k,y.2.mono k.b⟩
 | _=>exact x
noncomputable def jf (h:Heap)(a:Addr)(P:Obj→Prop):Prop:=∃ o,h.get? a=some o∧P o
theorem jf.keep {h h' a P}(x:jf h a P)(k:∀ o,h.get? a=some o→h'.get? a=some o):jf h' a P:=x.imp λ Z9 y=>⟨k _ y.1,y.2⟩
theorem jf.mp {h a}{P Q:Obj→Prop}(x:jf h a P)(k:∀ o,P o→Q o):jf h a Q:=x.imp λ Z9 y=>⟨y.1,k _ y.2⟩
structure En where
 a:Addr
 k:Nat
 f:FO
noncomputable abbrev Ow:=List En
noncomputable abbrev dL (Φ:Ow):List Addr:=Φ.map (·.a)
noncomputable def Fz.tk (β:Fz)(n:Nat):Fz:=⟨β.B,β.μ.take n⟩
noncomputable def lH (S:Sy)(β:Fz)(h:Heap)(q:En):Prop:=q.k≤β.μ.length∧jf h q.a λ o=>HO S (β.tk q.k) q.a o q.f
theorem ry {α:Type}{l l':List α}(h:l <+: l'){n:Nat}(hn:n≤l.length):l'.take n=l.take n :=
 h.elim λ t e=>ri e (List.take_append_of_le_length hn)
theorem lH.mono {S β β' h q}(k:Le β β')(x:lH S β h q):lH S β' h q :=
 ⟨N1 x.1 k.m.length_le,x.2.mp λ Z9 y=>HO.mono (β:=β.tk q.k) (β':=β'.tk q.k) ⟨k.b,⟨[],(O3 _).trans (ry k.m x.1).symm⟩⟩ y⟩
theorem lH.keep {S β h h' q}(x:lH S β h q)(k:∀ o,h.get? q.a=some o→h'.get? q.a=some o):lH S β h' q:=⟨x.1,x.2.keep k⟩
theorem lH.now {S β h a φ}(x:jf h a λ o=>HO S β a o φ):lH S β h ⟨a,β.μ.length,φ⟩:=⟨N8 _,x.mp λ Z9 y=>by unfold Fz.tk;refine ru W3 ?_;exact y⟩
theorem lH.up {S β h q}(x:lH S β h q):jf h q.a λ o=>HO S β q.a o q.f:=x.2.mp λ Z9 y=>HO.mono (β:=β.tk q.k) (β':=β) ⟨λ Z9 Z9 e=>e,z1j _ _⟩ y
structure cy (S:Sy) (B0 h:Heap) (β:Fz) (σ:aa) (Φ:Ow):Prop where
 top:B0.StaysIn β.B
 st:β.B.StaysIn h
 len:β.μ.length=σ.length
 nd:(β.μ++dL Φ).Nodup
 hid:∀ a∈β.μ++dL Φ,β.B.get? a=none
 obj:∀ (l:Nat) (a:Addr) (o:aN),β.μ[l]?=some a→σ[l]?=some o→jf h a λ x=>eH S β a x o
 own:∀ q∈Φ,lH S β h q
section
variable {S:Sy} {B0 h h':Heap} {β:Fz} {σ:aa} {Φ Φ':Ow}
theorem cy.live (I:cy S B0 h β σ Φ){a:Addr}(m:a∈β.μ++dL Φ):jf h a λ Z9=>True :=
 (R0.mp m).elim (λ m=>(V8.mp m).elim λ l e=>(I.obj l a _ e (O4 (ri I.len ((O6.mp e).1)))).mp λ Z9 Z9=>trivial)
  λ m=>(S0.mp m).elim λ q m=>ri m.2 ((I.own q m.1).2.mp λ Z9 Z9=>trivial)
theorem nN {α:Type}{x:α}{C:Prop}(e:none=some x):C:=b2 e
theorem cH {α:Type}{o:Option α}{x:α}{C:Prop}(n:o=none)(e:o=some x):C:=nN (n.symm.trans e)
theorem cy.new (I:cy S B0 h β σ Φ){a:Addr}(n:h.get? a=none)(m:a∈β.μ++dL Φ):False:=(I.live m).elim λ Z9 e=>b2 (n.symm.trans e.1)
theorem LT {B:Heap}(I:B.StaysIn h){a:Addr}(n:h.get? a=none):B.get? a=none :=
 match q:B.get? a with
 | none=>rfl
 | some _=>b2 (n.symm.trans (I _ _ q))
theorem cy.keeps (I:cy S B0 h β σ Φ)(k:h.StaysIn h'):∃ β',cy S B0 h' β' σ Φ∧Le β β'∧β'.μ=β.μ∧∀ a o,a∉β.μ++dL Φ→h'.get? a=some o→β'.B.get? a=some o :=
 have b:β.B.StaysIn (hideAll h' (β.μ++dL Φ)):=λ a o e=>hideAll_get _ (k _ _ (I.st a o e)) λ m=>b2 ((I.hid a m).symm.trans e)
 have l:Le β ⟨hideAll h' (β.μ++dL Φ),β.μ⟩:=⟨b,z0f _⟩
 ⟨⟨hideAll h' (β.μ++dL Φ),β.μ⟩,⟨λ a o e=>b a o (I.top a o e),λ Z9 Z9 e=>of_hideAll _ e,I.len,I.nd,λ Z9 m=>hideAll_none _ m,λ i a o e e'=>((I.obj i a o e e').keep (k a)).mp λ Z9 y=>y.mono l,λ q m=>((I.own q m).keep (k q.a)).mono l⟩,l,rfl,λ Z9 Z9 n e=>hideAll_get _ e n⟩
theorem cy.fresh (I:cy S B0 h β σ Φ){a:Addr}(n:h.get? a=none):a∉β.μ++dL Φ∧β.B.get? a=none:=⟨I.new n,LT I.st n⟩
theorem cy.addL (I:cy S B0 h β σ Φ)(k:h.StaysIn h'){Ψ:Ow}(nd:(dL Ψ).Nodup)(n:∀ a∈dL Ψ,a∉β.μ++dL Φ∧β.B.get? a=none)(s:∀ q∈Ψ,lH S β h' q):cy S B0 h' β σ (Ψ++Φ) :=
 have p:(β.μ++dL (Ψ++Φ)).Perm (dL Ψ++(β.μ++dL Φ)):=by (rewrite [dL];refine ru P6 (ri (N6 ..) (ri (N6 ..) ?_)));exact z2d.append_right _
 {top:=I.top,st:=λ b o e=>k b o (I.st b o e),len:=I.len
  nd:=p.nodup_iff.mpr (Q0.mpr ⟨nd,I.nd,λ a m b m' e=>(n a m).1 (ru e m')⟩)
  hid:=λ b m=>(R0.mp (p.mem_iff.mp m)).elim (λ q=>(n b q).2) (I.hid b)
  obj:=λ i b o e e'=>(I.obj i b o e e').keep (k b)
  own:=λ q m=>(R0.mp m).elim (s q) λ m=>(I.own q m).keep (k q.a) }
theorem cy.addE (I:cy S B0 h β σ Φ)(k:h.StaysIn h'){q:En}(n:h.get? q.a=none)(s:lH S β h' q):cy S B0 h' β σ (q::Φ) :=
 I.addL k (Ψ:=[q]) (V3 _ _) (λ a m=>ru (P7.mp m) (I.fresh n)) λ Z9 m=>ru (P7.mp m) s
theorem cy.add (I:cy S B0 h β σ Φ)(k:h.StaysIn h'){a:Addr}{φ:FO}(n:h.get? a=none)(s:jf h' a λ o=>HO S β a o φ):cy S B0 h' β σ (⟨a,β.μ.length,φ⟩::Φ):=I.addE k n (lH.now s)
theorem cy.apart (I:cy S B0 h β σ Φ){a b:Addr}(m:a∈β.μ)(m':b∈dL Φ):a≠b:=(Q0.mp I.nd).2.2 a m b m'
theorem cy.upd (I:cy S B0 h β σ Φ){a:Addr}(k:Heap.ExtBut a h h')(m:a∈dL Φ)(hf:(dL Φ').Sublist (dL Φ))(hs:∀ q∈Φ',q.a≠a∧q∈Φ∨lH S β h' q):cy S B0 h' β σ Φ' where
 top:=I.top
 st:=λ b o e=>k b o (λ q=>b2 (((congrArg β.B.get? q).trans (I.hid a (O8 _ m))).symm.trans e)) (I.st b o e)
 len:=I.len
 nd:=I.nd.sublist (hf.append_left _)
 hid:=λ b m=>I.hid b ((R0.mp m).elim (O7 _) λ m=>O8 _ (hf.subset m))
 obj:=λ i b o e e'=>(I.obj i b o e e').keep λ o=>k b o (I.apart (Q1 e) m)
 own:=λ q m=>(hs q m).elim (λ m=>(I.own q m.2).keep λ o=>k q.a o m.1) id
theorem cy.sub (I:cy S B0 h β σ Φ)(n:(dL Φ').Nodup)(s:∀ q∈Φ',q∈Φ):cy S B0 h β σ Φ' :=
 have z:∀ a∈dL Φ',a∈dL Φ:=λ a m=>(S0.mp m).elim λ q m=>ri m.2 (R6 (s q m.1))
 {top:=I.top,st:=I.st,len:=I.len,nd:=Q0.mpr ⟨(Q0.mp I.nd).1,n,λ a m b m'=>I.apart m (z b m')⟩
  hid:=λ a m=>I.hid a ((R0.mp m).elim (O7 _) λ m=>O8 _ (z a m)),obj:=I.obj,own:=λ q m=>I.own q (s q m) }
theorem cy.drop {Ψ:Ow}(I:cy S B0 h β σ (Ψ++Φ)):cy S B0 h β σ Φ :=
 I.sub ((Q0.mp ((P6▸(Q0.mp I.nd).2.1:(dL Ψ++dL Φ).Nodup))).2.1) λ q m=>O8 _ m
theorem cy.addN (I:cy S B0 h β σ Φ)(k:h.StaysIn h'){as:List Addr}{os:List aN}(hl:as.length=os.length)(hn:as.Nodup)(n:∀ a∈as,a∉β.μ++dL Φ∧β.B.get? a=none)(s:∀ (i:Nat) a o,as[i]?=some a→os[i]?=some o→jf h' a λ x=>eH S β a x o) :
  cy S B0 h' ⟨β.B,β.μ++as⟩ (σ++os) Φ∧Le β ⟨β.B,β.μ++as⟩ :=
 have l:Le β ⟨β.B,β.μ++as⟩:=⟨λ Z9 Z9 e=>e,List.prefix_append _ _⟩
 have p:(β.μ++as++dL Φ).Perm (as++(β.μ++dL Φ)):=(z2d.append_right _).trans (by rw [N6])
 ⟨{top:=I.top,st:=λ b o e=>k b o (I.st b o e),len:=by show (β.μ++as).length=_;rw [N5,N5,I.len,hl]
   nd:=p.nodup_iff.mpr (Q0.mpr ⟨hn,I.nd,λ a m b m' e=>(n a m).1 (ru e m')⟩)
   hid:=λ b m=>(R0.mp (p.mem_iff.mp m)).elim (λ q=>(n b q).2) (I.hid b)
   obj:=λ i b x e e'=>by
    have e:(β.μ++as)[i]?=some b:=e
    rcases Nat.lt_or_ge i β.μ.length with hi | hi
    ·rw [S3 hi] at e
     rw [S3 (ri I.len hi)] at e'
     exact ((I.obj i b x e e').keep (k b)).mp λ Z9 y=>y.mono l
    ·rw [T8 hi] at e
     rw [T8 (ri I.len hi),← I.len] at e'
     exact (s _ b x e e').mp λ Z9 y=>y.mono l
   own:=λ q m=>((I.own q m).keep (k q.a)).mono l },l⟩
theorem cy.addσ (I:cy S B0 h β σ Φ)(k:h.StaysIn h'){a:Addr}{o:aN}(n:a∉β.μ++dL Φ∧β.B.get? a=none)(s:jf h' a λ x=>eH S β a x o):cy S B0 h' ⟨β.B,β.μ++[a]⟩ (σ++[o]) Φ∧Le β ⟨β.B,β.μ++[a]⟩ :=
 I.addN k (as:=[a]) (os:=[o]) rfl (V3 _ _) (λ Z9 m=>ru (P7.mp m) n) λ i b x e e'=>by
  cases i with
  | zero=>exact Option.some.inj e▸ri (Option.some.inj e') s
  | succ=>exact b2 e
theorem cy.setσ (I:cy S B0 h β σ Φ){l:Nat}{a:Addr}{o:aN}(e:β.μ[l]?=some a)(k:Heap.ExtBut a h h')(s:jf h' a λ x=>eH S β a x o):cy S B0 h' β (σ.set l o) Φ where
 top:=I.top
 st:=λ b o' e'=>k b o' (λ q=>b2 (((congrArg β.B.get? q).trans (I.hid a (O7 _ (Q1 e)))).symm.trans e')) (I.st b o' e')
 len:=ri ((List.length_set ..).symm) I.len
 nd:=I.nd
 hid:=I.hid
 obj:=λ i b x q q'=>by
  by_cases hi:l=i
  ·subst hi
   rw [List.getElem?_set_self (ri I.len ((O6.mp e).1))] at q'
   exact Option.some.inj (e.symm.trans q)▸ri (Option.some.inj q') s
  ·rw [z0q hi] at q'
   exact (I.obj i b x q q').keep λ o=>k b o λ z=>hi ((z3f (O6.mp e).1 (Q0.mp I.nd).1).mp (e.trans (ri z q.symm)))
 own:=λ q m=>(I.own q m).keep λ o=>k q.a o λ z=>I.apart (Q1 e) (R6 m) z.symm
theorem cy.cut (I:cy S B0 h β σ Φ)(n:Nat)(hf:(σ.take n).all bQ=true)(hn:n≤β.μ.length)(hk:∀ q∈Φ,q.k≤n):cy S B0 h (β.tk n) (σ.take n) Φ where
 top:=I.top
 st:=I.st
 len:=by show (β.μ.take n).length=_;exact ru V1 (ru V1 (ru I.len rfl))
 nd:=I.nd.sublist ((z3b n β.μ).append_right _)
 hid:=λ a m=>I.hid a ((R0.mp m).elim (λ m=>O7 _ (X2 m)) (O8 _))
 obj:=λ i a o e e'=>(I.obj i a o (pX (z1j n β.μ) e) (by
  rw [z0b (by have:=(O6.mp e').1;rw [V1] at this;(first | lia | omega))] at e';exact e')).mp λ Z9 y=>eH.free (β:=β) (β':=β.tk n) (λ Z9 Z9 e=>e) (O2.mp hf o (Q1 e')) y
 own:=λ q m=>⟨by show _≤(β.μ.take n).length;refine ru V1 (ru (V0 hn) ?_);exact hk q m,by show jf _ _ λ o=>HO S ⟨β.B,(β.μ.take n).take q.k⟩ _ _ _;refine ru List.take_take (ru (V0 (hk q m)) ?_);exact (I.own q m).2⟩
end
end Mine
end
section
open PySem
namespace Mine
structure Fd where
 nargs:Nat
 nslots:Nat
 moves:Bool
 body:IS
noncomputable def Hr:PV:=.dctI [0,20,32,33,37,38,40,42,56,57,58,59,60,61,62,63,64,65,66,67,68,69,70,71,72,73,74,75,76,77,80,81,82,83,84,85,88,89,90,91,92,93,94,95,96,97,98,99,100,101,102,103,104,105,106,109,110,111,113,114,115,116,117,121,122,123,124,125,126,127,128,129,130,131,132,133,134,135,136,137,140,141,142,143,163,164,165,179,180,181,182,183,184,185,186,208,209,210,211,214,215,216,217,218,219,220,221,223,65025,65026,65027,65028,65029,65030,65031,65033,65034,65035,65036,65037,65038,65041,65045,65046,65050,65054] [(.str [110,111,112]),(.str [108,100,110,117,108,108]),(.str [108,100,99,46,105,52]),(.str [108,100,99,46,105,56]),(.str [100,117,112]),(.str [112,111,112]),(.str [99,97,108,108]),(.str [114,101,116]),(.str [98,114]),(.str [98,114,102,97,108,115,101]),(.str [98,114,116,114,117,101]),(.str [98,101,113]),(.str [98,103,101]),(.str [98,103,116]),(.str [98,108,101]),(.str [98,108,116]),(.str [98,110,101,46,117,110]),(.str [98,103,101,46,117,110]),(.str [98,103,116,46,117,110]),(.str [98,108,101,46,117,110]),(.str [98,108,116,46,117,110]),(.str [115,119,105,116,99,104]),(.str [108,100,105,110,100,46,105,49]),(.str [108,100,105,110,100,46,117,49]),(.str [108,100,105,110,100,46,105,50]),(.str [108,100,105,110,100,46,117,50]),(.str [108,100,105,110,100,46,105,52]),(.str [108,100,105,110,100,46,117,52]),(.str [108,100,105,110,100,46,105,56]),(.str [108,100,105,110,100,46,105]),(.str [108,100,105,110,100,46,114,101,102]),(.str [115,116,105,110,100,46,114,101,102]),(.str [115,116,105,110,100,46,105,49]),(.str [115,116,105,110,100,46,105,50]),(.str [115,116,105,110,100,46,105,52]),(.str [115,116,105,110,100,46,105,56]),(.str [97,100,100]),(.str [115,117,98]),(.str [109,117,108]),(.str [100,105,118]),(.str [100,105,118,46,117,110]),(.str [114,101,109]),(.str [114,101,109,46,117,110]),(.str [97,110,100]),(.str [111,114]),(.str [120,111,114]),(.str [115,104,108]),(.str [115,104,114]),(.str [115,104,114,46,117,110]),(.str [110,101,103]),(.str [110,111,116]),(.str [99,111,110,118,46,105,49]),(.str [99,111,110,118,46,105,50]),(.str [99,111,110,118,46,105,52]),(.str [99,111,110,118,46,105,56]),(.str [99,111,110,118,46,117,52]),(.str [99,111,110,118,46,117,56]),(.str [99,97,108,108,118,105,114,116]),(.str [108,100,111,98,106]),(.str [108,100,115,116,114]),(.str [110,101,119,111,98,106]),(.str [99,97,115,116,99,108,97,115,115]),(.str [105,115,105,110,115,116]),(.str [117,110,98,111,120]),(.str [116,104,114,111,119]),(.str [108,100,102,108,100]),(.str [108,100,102,108,100,97]),(.str [115,116,102,108,100]),(.str [108,100,115,102,108,100]),(.str [108,100,115,102,108,100,97]),(.str [115,116,115,102,108,100]),(.str [115,116,111,98,106]),(.str [99,111,110,118,46,111,118,102,46,105,49,46,117,110]),(.str [99,111,110,118,46,111,118,102,46,105,50,46,117,110]),(.str [99,111,110,118,46,111,118,102,46,105,52,46,117,110]),(.str [99,111,110,118,46,111,118,102,46,105,56,46,117,110]),(.str [99,111,110,118,46,111,118,102,46,117,49,46,117,110]),(.str [99,111,110,118,46,111,118,102,46,117,50,46,117,110]),(.str [99,111,110,118,46,111,118,102,46,117,52,46,117,110]),(.str [99,111,110,118,46,111,118,102,46,117,56,46,117,110]),(.str [98,111,120]),(.str [110,101,119,97,114,114]),(.str [108,100,108,101,110]),(.str [108,100,101,108,101,109,97]),(.str [108,100,101,108,101,109]),(.str [115,116,101,108,101,109]),(.str [117,110,98,111,120,46,97,110,121]),(.str [99,111,110,118,46,111,118,102,46,105,49]),(.str [99,111,110,118,46,111,118,102,46,117,49]),(.str [99,111,110,118,46,111,118,102,46,105,50]),(.str [99,111,110,118,46,111,118,102,46,117,50]),(.str [99,111,110,118,46,111,118,102,46,105,52]),(.str [99,111,110,118,46,111,118,102,46,117,52]),(.str [99,111,110,118,46,111,118,102,46,105,56]),(.str [99,111,110,118,46,111,118,102,46,117,56]),(.str [108,100,116,111,107,101,110]),(.str [99,111,110,118,46,117,50]),(.str [99,111,110,118,46,117,49]),(.str [99,111,110,118,46,105]),(.str [97,100,100,46,111,118,102]),(.str [97,100,100,46,111,118,102,46,117,110]),(.str [109,117,108,46,111,118,102]),(.str [109,117,108,46,111,118,102,46,117,110]),(.str [115,117,98,46,111,118,102]),(.str [115,117,98,46,111,118,102,46,117,110]),(.str [101,110,100,102,105,110,97,108,108,121]),(.str [108,101,97,118,101]),(.str [115,116,105,110,100,46,105]),(.str [99,101,113]),(.str [99,103,116]),(.str [99,103,116,46,117,110]),(.str [99,108,116]),(.str [99,108,116,46,117,110]),(.str [108,100,102,116,110]),(.str [108,100,118,105,114,116,102,116,110]),(.str [108,100,97,114,103]),(.str [108,100,97,114,103,97]),(.str [115,116,97,114,103]),(.str [108,100,108,111,99]),(.str [108,100,108,111,99,97]),(.str [115,116,108,111,99]),(.str [101,110,100,102,105,108,116,101,114]),(.str [105,110,105,116,111,98,106]),(.str [99,111,110,115,116,114,97,105,110,101,100,46]),(.str [114,101,116,104,114,111,119]),(.str [114,101,97,100,111,110,108,121,46])]
noncomputable def D7:PV:=.dctI [0,20,32,33,37,38,40,42,56,57,58,59,60,61,62,63,64,65,66,67,68,69,70,71,72,73,74,75,76,77,80,81,82,83,84,85,88,89,90,91,92,93,94,95,96,97,98,99,100,101,102,103,104,105,106,109,110,111,113,114,115,116,117,121,122,123,124,125,126,127,128,129,130,131,132,133,134,135,136,137,140,141,142,143,163,164,165,179,180,181,182,183,184,185,186,208,209,210,211,214,215,216,217,218,219,220,221,223,65025,65026,65027,65028,65029,65030,65031,65033,65034,65035,65036,65037,65038,65041,65045,65046,65050,65054] [(.int 0),(.int 0),(.int 1),(.int 2),(.int 0),(.int 0),(.int 9),(.int 0),(.int 5),(.int 5),(.int 5),(.int 5),(.int 5),(.int 5),(.int 5),(.int 5),(.int 5),(.int 5),(.int 5),(.int 5),(.int 5),(.int 6),(.int 0),(.int 0),(.int 0),(.int 0),(.int 0),(.int 0),(.int 0),(.int 0),(.int 0),(.int 0),(.int 0),(.int 0),(.int 0),(.int 0),(.int 0),(.int 0),(.int 0),(.int 0),(.int 0),(.int 0),(.int 0),(.int 0),(.int 0),(.int 0),(.int 0),(.int 0),(.int 0),(.int 0),(.int 0),(.int 0),(.int 0),(.int 0),(.int 0),(.int 0),(.int 0),(.int 9),(.int 7),(.int 10),(.int 9),(.int 7),(.int 7),(.int 7),(.int 0),(.int 8),(.int 8),(.int 8),(.int 8),(.int 8),(.int 8),(.int 7),(.int 0),(.int 0),(.int 0),(.int 0),(.int 0),(.int 0),(.int 0),(.int 0),(.int 7),(.int 7),(.int 0),(.int 7),(.int 7),(.int 7),(.int 7),(.int 0),(.int 0),(.int 0),(.int 0),(.int 0),(.int 0),(.int 0),(.int 0),(.int 11),(.int 0),(.int 0),(.int 0),(.int 0),(.int 0),(.int 0),(.int 0),(.int 0),(.int 0),(.int 0),(.int 5),(.int 0),(.int 0),(.int 0),(.int 0),(.int 0),(.int 0),(.int 9),(.int 9),(.int 3),(.int 3),(.int 3),(.int 4),(.int 4),(.int 4),(.int 0),(.int 7),(.int 7),(.int 0),(.int 0)]
noncomputable def Kl:PV:=.str [65,66,67,68,69,70,71,72,73,74,75,76,77,78,79,80,81,82,83,84,85,86,87,88,89,90,97,98,99,100,101,102,103,104,105,106,107,108,109,110,111,112,113,114,115,116,117,118,119,120,121,122,48,49,50,51,52,53,54,55,56,57,95]
noncomputable def Mr:PV:=.str [48,49,50,51,52,53,54,55,56,57]
noncomputable def D6:PV:=.dctI [1,2,3,4] [(.tup [(.int (-2147483648)),(.int 2147483647)]),(.tup [(.int (-9223372036854775808)),(.int 9223372036854775807)]),(.tup [(.int 0),(.int 65534)]),(.tup [(.int 0),(.int 65534)])]
noncomputable def Hq:PV:=.dctS [[110],[114],[116],[92],[34]] [(.str [10]),(.str [13]),(.str [9]),(.str [92]),(.str [34])]
noncomputable def Mq:PV:=.dctS [[10],[13],[9],[92],[34]] [(.str [92,110]),(.str [92,114]),(.str [92,116]),(.str [92,92]),(.str [92,34])]
noncomputable def D5:PV:=.tup [(.tup [(.int 0),(.str [110,111,112])]),(.tup [(.int 20),(.str [108,100,110,117,108,108])]),(.tup [(.int 37),(.str [100,117,112])]),(.tup [(.int 38),(.str [112,111,112])]),(.tup [(.int 42),(.str [114,101,116])]),(.tup [(.int 70),(.str [108,100,105,110,100,46,105,49])]),(.tup [(.int 71),(.str [108,100,105,110,100,46,117,49])]),(.tup [(.int 72),(.str [108,100,105,110,100,46,105,50])]),(.tup [(.int 73),(.str [108,100,105,110,100,46,117,50])]),(.tup [(.int 74),(.str [108,100,105,110,100,46,105,52])]),(.tup [(.int 75),(.str [108,100,105,110,100,46,117,52])]),(.tup [(.int 76),(.str [108,100,105,110,100,46,105,56])]),(.tup [(.int 77),(.str [108,100,105,110,100,46,105])]),(.tup [(.int 80),(.str [108,100,105,110,100,46,114,101,102])]),(.tup [(.int 81),(.str [115,116,105,110,100,46,114,101,102])]),(.tup [(.int 82),(.str [115,116,105,110,100,46,105,49])]),(.tup [(.int 83),(.str [115,116,105,110,100,46,105,50])]),(.tup [(.int 84),(.str [115,116,105,110,100,46,105,52])]),(.tup [(.int 85),(.str [115,116,105,110,100,46,105,56])]),(.tup [(.int 88),(.str [97,100,100])]),(.tup [(.int 89),(.str [115,117,98])]),(.tup [(.int 90),(.str [109,117,108])]),(.tup [(.int 91),(.str [100,105,118])]),(.tup [(.int 92),(.str [100,105,118,46,117,110])]),(.tup [(.int 93),(.str [114,101,109])]),(.tup [(.int 94),(.str [114,101,109,46,117,110])]),(.tup [(.int 95),(.str [97,110,100])]),(.tup [(.int 96),(.str [111,114])]),(.tup [(.int 97),(.str [120,111,114])]),(.tup [(.int 98),(.str [115,104,108])]),(.tup [(.int 99),(.str [115,104,114])]),(.tup [(.int 100),(.str [115,104,114,46,117,110])]),(.tup [(.int 101),(.str [110,101,103])]),(.tup [(.int 102),(.str [110,111,116])]),(.tup [(.int 103),(.str [99,111,110,118,46,105,49])]),(.tup [(.int 104),(.str [99,111,110,118,46,105,50])]),(.tup [(.int 105),(.str [99,111,110,118,46,105,52])]),(.tup [(.int 106),(.str [99,111,110,118,46,105,56])]),(.tup [(.int 109),(.str [99,111,110,118,46,117,52])]),(.tup [(.int 110),(.str [99,111,110,118,46,117,56])]),(.tup [(.int 122),(.str [116,104,114,111,119])]),(.tup [(.int 130),(.str [99,111,110,118,46,111,118,102,46,105,49,46,117,110])]),(.tup [(.int 131),(.str [99,111,110,118,46,111,118,102,46,105,50,46,117,110])]),(.tup [(.int 132),(.str [99,111,110,118,46,111,118,102,46,105,52,46,117,110])]),(.tup [(.int 133),(.str [99,111,110,118,46,111,118,102,46,105,56,46,117,110])]),(.tup [(.int 134),(.str [99,111,110,118,46,111,118,102,46,117,49,46,117,110])]),(.tup [(.int 135),(.str [99,111,110,118,46,111,118,102,46,117,50,46,117,110])]),(.tup [(.int 136),(.str [99,111,110,118,46,111,118,102,46,117,52,46,117,110])]),(.tup [(.int 137),(.str [99,111,110,118,46,111,118,102,46,117,56,46,117,110])]),(.tup [(.int 142),(.str [108,100,108,101,110])]),(.tup [(.int 179),(.str [99,111,110,118,46,111,118,102,46,105,49])]),(.tup [(.int 180),(.str [99,111,110,118,46,111,118,102,46,117,49])]),(.tup [(.int 181),(.str [99,111,110,118,46,111,118,102,46,105,50])]),(.tup [(.int 182),(.str [99,111,110,118,46,111,118,102,46,117,50])]),(.tup [(.int 183),(.str [99,111,110,118,46,111,118,102,46,105,52])]),(.tup [(.int 184),(.str [99,111,110,118,46,111,118,102,46,117,52])]),(.tup [(.int 185),(.str [99,111,110,118,46,111,118,102,46,105,56])]),(.tup [(.int 186),(.str [99,111,110,118,46,111,118,102,46,117,56])]),(.tup [(.int 209),(.str [99,111,110,118,46,117,50])]),(.tup [(.int 210),(.str [99,111,110,118,46,117,49])]),(.tup [(.int 211),(.str [99,111,110,118,46,105])]),(.tup [(.int 214),(.str [97,100,100,46,111,118,102])]),(.tup [(.int 215),(.str [97,100,100,46,111,118,102,46,117,110])]),(.tup [(.int 216),(.str [109,117,108,46,111,118,102])]),(.tup [(.int 217),(.str [109,117,108,46,111,118,102,46,117,110])]),(.tup [(.int 218),(.str [115,117,98,46,111,118,102])]),(.tup [(.int 219),(.str [115,117,98,46,111,118,102,46,117,110])]),(.tup [(.int 220),(.str [101,110,100,102,105,110,97,108,108,121])]),(.tup [(.int 223),(.str [115,116,105,110,100,46,105])]),(.tup [(.int 65025),(.str [99,101,113])]),(.tup [(.int 65026),(.str [99,103,116])]),(.tup [(.int 65027),(.str [99,103,116,46,117,110])]),(.tup [(.int 65028),(.str [99,108,116])]),(.tup [(.int 65029),(.str [99,108,116,46,117,110])]),(.tup [(.int 65041),(.str [101,110,100,102,105,108,116,101,114])]),(.tup [(.int 65050),(.str [114,101,116,104,114,111,119])]),(.tup [(.int 65054),(.str [114,101,97,100,111,110,108,121,46])])]
noncomputable def D4:PV:=.tup [(.tup [(.int 56),(.str [98,114])]),(.tup [(.int 57),(.str [98,114,102,97,108,115,101])]),(.tup [(.int 58),(.str [98,114,116,114,117,101])]),(.tup [(.int 59),(.str [98,101,113])]),(.tup [(.int 60),(.str [98,103,101])]),(.tup [(.int 61),(.str [98,103,116])]),(.tup [(.int 62),(.str [98,108,101])]),(.tup [(.int 63),(.str [98,108,116])]),(.tup [(.int 64),(.str [98,110,101,46,117,110])]),(.tup [(.int 65),(.str [98,103,101,46,117,110])]),(.tup [(.int 66),(.str [98,103,116,46,117,110])]),(.tup [(.int 67),(.str [98,108,101,46,117,110])]),(.tup [(.int 68),(.str [98,108,116,46,117,110])]),(.tup [(.int 221),(.str [108,101,97,118,101])])]
noncomputable def D3:PV:=.tup [(.tup [(.int 65033),(.str [108,100,97,114,103])]),(.tup [(.int 65034),(.str [108,100,97,114,103,97])]),(.tup [(.int 65035),(.str [115,116,97,114,103])]),(.tup [(.int 65036),(.str [108,100,108,111,99])]),(.tup [(.int 65037),(.str [108,100,108,111,99,97])]),(.tup [(.int 65038),(.str [115,116,108,111,99])])]
noncomputable def D2:PV:=.tup [(.tup [(.int 113),(.str [108,100,111,98,106]),(.int 0)]),(.tup [(.int 116),(.str [99,97,115,116,99,108,97,115,115]),(.int 0)]),(.tup [(.int 117),(.str [105,115,105,110,115,116]),(.int 0)]),(.tup [(.int 121),(.str [117,110,98,111,120]),(.int 0)]),(.tup [(.int 129),(.str [115,116,111,98,106]),(.int 0)]),(.tup [(.int 140),(.str [98,111,120]),(.int 0)]),(.tup [(.int 141),(.str [110,101,119,97,114,114]),(.int 0)]),(.tup [(.int 143),(.str [108,100,101,108,101,109,97]),(.int 0)]),(.tup [(.int 163),(.str [108,100,101,108,101,109]),(.int 0)]),(.tup [(.int 164),(.str [115,116,101,108,101,109]),(.int 0)]),(.tup [(.int 165),(.str [117,110,98,111,120,46,97,110,121]),(.int 0)]),(.tup [(.int 208),(.str [108,100,116,111,107,101,110]),(.int 0)]),(.tup [(.int 65045),(.str [105,110,105,116,111,98,106]),(.int 0)]),(.tup [(.int 65046),(.str [99,111,110,115,116,114,97,105,110,101,100,46]),(.int 0)]),(.tup [(.int 123),(.str [108,100,102,108,100]),(.int 1)]),(.tup [(.int 124),(.str [108,100,102,108,100,97]),(.int 1)]),(.tup [(.int 125),(.str [115,116,102,108,100]),(.int 1)]),(.tup [(.int 126),(.str [108,100,115,102,108,100]),(.int 1)]),(.tup [(.int 127),(.str [108,100,115,102,108,100,97]),(.int 1)]),(.tup [(.int 128),(.str [115,116,115,102,108,100]),(.int 1)]),(.tup [(.int 40),(.str [99,97,108,108]),(.int 2)]),(.tup [(.int 111),(.str [99,97,108,108,118,105,114,116]),(.int 2)]),(.tup [(.int 115),(.str [110,101,119,111,98,106]),(.int 2)]),(.tup [(.int 65030),(.str [108,100,102,116,110]),(.int 2)]),(.tup [(.int 65031),(.str [108,100,118,105,114,116,102,116,110]),(.int 2)])]
noncomputable def yM:PV:=.tup [(.tup [(.int 7),(.str [105,110,116])]),(.tup [(.int 41),(.str [109,121,32,107,105,110,100])]),(.tup [(.int 42),(.str [97,32,116,111,32,98])]),(.tup [(.int 43),(.str [76,105,115,116,60,105,110,116,62])])]
noncomputable def D1:PV:=.tup [(.tup [(.tup [(.int 20),(.int 64)]),(.str [65,58,58,102])]),(.tup [(.tup [(.int 21),(.int 64)]),(.str [66,32,58,58,32,102])]),(.tup [(.tup [(.int 20),(.int 65)]),(.str [102])])]
noncomputable def D0:PV:=.tup [(.tup [(.tup [(.int 20),(.int 256),(.tup [])]),(.str [65,58,58,109])]),(.tup [(.tup [(.int 20),(.int 256),(.tup [(.int 7)])]),(.str [65,58,58,109,32,60,105,110,116,62])]),(.tup [(.tup [(.int 7),(.int 0),(.tup [])]),(.str [110,101,119])])]
noncomputable def Hp:PV:=.tup [(.str []),(.str [97,32,98]),(.str [10,9,13]),(.str [115,97,121,32,34,120,34]),(.str [98,97,99,107,92,110]),(.str [47,47,32,110,111]),(.str [32,32,119,105,100,101,32,32]),(.str [937,58]),(.str [76,48,58,32,114,101,116]),(.str [55357,56832])]
noncomputable def Kk:PV:=.tup [(.int (-2147483648)),(.int (-1)),(.int 0),(.int 1),(.int 9),(.int 2147483647)]
noncomputable def Bz:PV:=.tup [(.str [97]),(.str [90,101,100]),(.str [95]),(.str [110,111,112]),(.str [57]),(.str [76]),(.str [120,95])]
noncomputable def yL:PV:=.tup [(.str [102,111,111]),(.str [108,100,99,46,105,52]),(.str [108,100,99,46,105,52,32,50,49,52,55,52,56,51,54,52,56]),(.str [108,100,99,46,105,52,32,45,50,49,52,55,52,56,51,54,52,57]),(.str [108,100,99,46,105,52,32,49,120]),(.str [108,100,99,46,105,52,32,43]),(.str [108,100,99,46,105,56,32,57,50,50,51,51,55,50,48,51,54,56,53,52,55,55,53,56,48,56]),(.str [98,114,32,110,111,119,104,101,114,101]),(.str [110,111,112,32,49]),(.str [108,100,115,116,114,32,34,97]),(.str [108,100,115,116,114,32,97]),(.str [108,100,115,116,114,32,34,97,92,113,34]),(.str [108,100,115,116,114,32,34,97,34,32,98]),(.str [108,100,115,116,114]),(.str [115,119,105,116,99,104,32,40,110,111,119,104,101,114,101,41]),(.str [115,119,105,116,99,104,32,116,104,101,101,110,100]),(.str [115,101,108,102,58,32,115,119,105,116,99,104,32,40,115,101,108,102,44,41]),(.str [98,111,120,32,85,110,107,110,111,119,110]),(.str [108,100,102,108,100,32,105,110,116]),(.str [99,97,108,108,32,65,58,58,102]),(.str [108,100,97,114,103,32,54,53,53,51,53]),(.str [108,100,108,111,99,32,45,49]),(.str [108,97,98,33,58,32,110,111,112]),(.str [58,32,110,111,112]),(.str [98,114,32,116,104,101,101,110,100]),(.str [115,119,105,116,99,104,32,40,116,104,101,101,110,100,41]),(.str [46,116,114,121,32,116,104,101,101,110,100,32,116,111,32,116,104,101,101,110,100]),(.str [46,116,114,121,32,116,104,101,101,110,100,32,116,111,32,116,104,101,101,110,100,32,102,97,117,108,116,32,116,104,101,101,110,100,32,116,111,32,120]),(.str [46,116,114,121,32,116,104,101,101,110,100,32,97,116,32,116,104,101,101,110,100,32,102,97,117,108,116,32,116,104,101,101,110,100,32,116,111,32,116,104,101,101,110,100]),(.str [46,116,114,121,32,116,104,101,101,110,100,32,116,111,32,116,104,101,101,110,100,32,99,97,116,99,104,32,116,104,101,101,110,100,32,116,111,32,116,104,101,101,110,100]),(.str [46,116,114,121,32,116,104,101,101,110,100,32,116,111,32,116,104,101,101,110,100,32,102,105,108,116,101,114,32,116,104,101,101,110,100,32,116,104,101,101,110,100,32,116,111,32,116,104,101,101,110,100]),(.str [46,116,114,121,32,116,104,101,101,110,100,32,116,111,32,116,104,101,101,110,100,32,99,97,116,99,104,32,102,111,111,32,116,104,101,101,110,100,32,116,111,32,116,104,101,101,110,100]),(.str [108,100,115,116,114,32,34,97,92]),(.str [110,101,119,111,98,106]),(.str [114,101,116,32,110,111,112]),(.str [46,116,114,105,101,115]),(.str [98,114]),(.str [108,101,97,118,101,32,45,49]),(.str [108,100,99,46,105,52,32,48,120,49]),(.str [116,119,105,99,101,58,32,116,119,105,99,101,58,32,110,111,112]),(.str [108,100,108,111,99,97,32,49,32,50]),(.str [98,111,120]),(.str [108,100,97,114,103,32,45,49]),(.str [46,116,114,121]),(.str [46,116,114,121,32,116,104,101,101,110,100,32,116,111,32,116,104,101,101,110,100,32,102,97,117,108,116,32,116,104,101,101,110,100,32,97,116,32,116,104,101,101,110,100]),(.str [46,116,114,121,32,116,104,101,101,110,100,32,116,111,32,116,104,101,101,110,100,32,102,105,110,97,108,108,121,32,120,32,116,104,101,101,110,100,32,116,111,32,116,104,101,101,110,100]),(.str [46,116,114,121,32,116,104,101,101,110,100,32,116,111,32,116,104,101,101,110,100,32,102,105,108,116,101,114,32,116,104,101,101,110,100,32,120,32,116,104,101,101,110,100,32,116,111,32,116,104,101,101,110,100])]
noncomputable def kZ (i:Nat):Option PV:=[(.int 69),(.int 0),(.int 1),(.int 2),(.int 4),(.int 0),(.int 1),(.int 2),(.int 3),(.int 4),(.int 5),(.int 6),(.int 7),(.int 8),(.int 9),(.int 10),(.int 11),Hr,D7,Kl,Mr,D6,Hq,Mq,D5,D4,D3,D2,yM,D1,D0,Hp,Kk,Bz,yL][i]?
noncomputable def uW:List (Str×Nat):=(["OP_SWITCH","EC_CATCH","EC_FILTER","EC_FINALLY","EC_FAULT","SO_NONE","SO_I4","SO_I8","SO_ARG","SO_LOCAL","SO_BRANCH","SO_SWITCH","SO_KIND","SO_FIELD","SO_METHOD","SO_TEXT","SO_TOKEN","OP_NAMES","OP_SORT","LABEL_LETTERS","DIGITS","NUMBER_RANGES","ESCAPES","ESCAPED","_law_OPS","_law_JUMPS","_law_PLACED","_law_NAMED","_law_KINDS","_law_FIELDS","_law_METHODS","_law_TEXTS","_law_EDGES","_law_LETTERS","_law_WRONG"].map Str.ofString).zipIdx
noncomputable def qC:List (Str×Nat):=(["split_letter","utf16_units","units_text","clause_edges","op_index","is_branch","targets","is_label","first_word","take_apart","asm_row_in","put_label","find_label","find_goal","asm_number","read_quoted","read_labels","asm_find_named","asm_operand","table_of","read_clause","read_clause_sort","assemble","mark_labels","name_of","write_quoted","asm_write_operand","write_clause","disassemble","_law_row","_law_clauses","_law_quoted","_law_goals","_law_operand","_law_clause","_law_loose","_law_strict","_law_asm_names","_law_refused"].map Str.ofString).zipIdx
noncomputable def Cf:List (Str×Nat):=(["AsmNames","AsmRows"].map Str.ofString).zipIdx
noncomputable def fk (c:Nat):List (List Nat×Bool):=match c with
 | 0=>[([107,105,110,100,115],false),([102,105,101,108,100,115,95],false),([109,101,116,104,111,100,115],false)]
 | 1=>[([114,111,119,115],true),([108,97,98,101,108,115],false),([99,108,97,117,115,101,115],true)]
 | _=>[]
noncomputable def JX:IS:=.sq (.iff (.cmp .Lt (.v 0) (.c (.int 65536))) (.sq (.ret (.tup (.cs (.v 0) .nl))) .sk) .sk) (.sq (.ret (.tup (.cs (.bin .Add (.c (.int 55296)) (.bin .RShift (.bin .Sub (.v 0) (.c (.int 65536))) (.c (.int 10)))) (.cs (.bin .Add (.c (.int 56320)) (.bin .BitAnd (.bin .Sub (.v 0) (.c (.int 65536))) (.c (.int 1023)))) .nl)))) .sk)
noncomputable def wO:IS:=.sq (.expr (.m1 .extend (.v 1) (.call 0 (.cs (.fn .ord (.v 2)) .nl)))) .sk
noncomputable def Ml:IS:=.sq (.asg 1 .nil) (.sq (.forr true [2] (.v 0) wO [2]) (.sq (.ret (.v 1)) .sk))
noncomputable def Mk:IS:=.sq (.ret (.m1 .join (.c (.str [])) (.comp (.fn .chr (.v 1)) true 1 (.v 0) .nl [false]))) .sk
noncomputable def Mj:IS:=.sq (.iff (.cmp .Eq (.idx (.v 0) (.c (.int 0))) (.g 2)) (.sq (.ret (.tup (.cs (.idx (.v 0) (.c (.int 1))) (.cs (.idx (.v 0) (.c (.int 2))) (.cs (.idx (.v 0) (.c (.int 3))) (.cs (.idx (.v 0) (.c (.int 4))) (.cs (.idx (.v 0) (.c (.int 5))) .nl))))))) .sk) .sk) (.sq (.ret (.tup (.cs (.idx (.v 0) (.c (.int 1))) (.cs (.idx (.v 0) (.c (.int 2))) (.cs (.idx (.v 0) (.c (.int 3))) (.cs (.idx (.v 0) (.c (.int 4))) .nl)))))) .sk)
noncomputable def wM:IS:=.sq (.setI (.v 0) (.idx (.g 17) (.v 1)) (.v 1)) .sk
noncomputable def Mi:IS:=.sq (.asg 0 .dct0) (.sq (.forr true [1] (.g 17) wM [1]) (.sq (.ret (.v 0)) .sk))
noncomputable def Mh:IS:=.sq (.ret (.cmp .Eq (.m2 .get (.g 18) (.v 0) (.neg (.c (.int 1)))) (.g 10))) .sk
noncomputable def Mg:IS:=.sq (.iff (.cmp .Eq (.idx (.v 0) (.c (.int 0))) (.g 0)) (.sq (.ret (.idx (.v 0) (.c (.int 1)))) .sk) .sk) (.sq (.iff (.tru (.call 5 (.cs (.idx (.v 0) (.c (.int 0))) .nl))) (.sq (.ret (.tup (.cs (.idx (.v 0) (.c (.int 1))) .nl))) .sk) .sk) (.sq (.ret (.tup .nl)) .sk))
noncomputable def wK:IS:=.sq (.iff (.cmp .NotIn (.v 1) (.g 19)) (.sq (.ret (.c (.bool false))) .sk) .sk) .sk
noncomputable def Mf:IS:=.sq (.iff (.cmp .Eq (.v 0) (.c (.str []))) (.sq (.ret (.c (.bool false))) .sk) .sk) (.sq (.forr true [1] (.v 0) wK [1]) (.sq (.ret (.c (.bool true))) .sk))
noncomputable def wJ:IS:=.sq (.aug 1 (.c (.int 1))) .sk
noncomputable def Me:IS:=.sq (.asg 1 (.c (.int 0))) (.sq (.whil (.and (.cmp .Lt (.v 1) (.fn .len (.v 0))) (.and (.cmp .NotEq (.idx (.v 0) (.v 1)) (.c (.str [32]))) (.cmp .NotEq (.idx (.v 0) (.v 1)) (.c (.str [9]))))) wJ []) (.sq (.ret (.tup (.cs (.slice (.v 0) (.c .none) (.v 1)) (.cs (.m0 .strip (.slice (.v 0) (.v 1) (.c .none))) .nl)))) .sk))
noncomputable def wI:IS:=.sq (.aug 3 (.c (.int 1))) (.sq (.expr (.call 10 (.cs (.v 1) (.cs (.v 2) (.cs (.m0 .strip (.v 4)) (.cs (.v 3) .nl)))))) .sk)
noncomputable def Mc:IS:=.sq (.asg 1 (.new 1)) (.sq (.asg 2 (.call 4 .nl)) (.sq (.asg 3 (.c (.int 0))) (.sq (.forr true [4] (.m1 .splitOn (.v 0) (.c (.str [10]))) wI [4]) (.sq (.ret (.v 1)) .sk))))
noncomputable def td:IS:=.sq (.expr (.call 11 (.cs (.v 0) (.cs (.slice (.v 4) (.c .none) (.neg (.c (.int 1)))) (.cs (.v 3) .nl))))) (.sq (.asgT [4,5] (.call 8 (.cs (.v 5) .nl))) .sk)
noncomputable def FA:IS:=.sq (.asgT [4,5] (.call 8 (.cs (.v 2) .nl))) (.sq (.whil (.and (.tru (.m1 .endswith (.v 4) (.c (.str [58])))) (.nott (.tru (.m1 .startswith (.v 4) (.c (.str [47,47])))))) td []) (.sq (.iff (.or (.cmp .Eq (.v 4) (.c (.str []))) (.tru (.m1 .startswith (.v 4) (.c (.str [47,47]))))) (.sq (.ret (.c .none)) .sk) .sk) (.sq (.iff (.cmp .Eq (.v 4) (.c (.str [46,116,114,121]))) (.sq (.expr (.m1 .append (.attr (.v 0) [99,108,97,117,115,101,115]) (.tup (.cs (.v 3) (.cs (.m0 .split (.v 5)) .nl))))) .sk) (.sq (.iff (.cmp .In (.v 4) (.v 1)) (.sq (.expr (.m1 .append (.attr (.v 0) [114,111,119,115]) (.tup (.cs (.v 3) (.cs (.idx (.v 1) (.v 4)) (.cs (.v 5) .nl)))))) .sk) (.sq (.raise (.c (.str [111,112])) (.v 3)) .sk)) .sk)) .sk)))
noncomputable def JW:IS:=.sq (.iff (.or (.nott (.tru (.call 7 (.cs (.v 1) .nl)))) (.cmp .In (.v 1) (.attr (.v 0) [108,97,98,101,108,115]))) (.sq (.raise (.c (.str [108,97,98,101,108])) (.v 2)) .sk) .sk) (.sq (.setI (.attr (.v 0) [108,97,98,101,108,115]) (.v 1) (.fn .len (.attr (.v 0) [114,111,119,115]))) .sk)
noncomputable def JV:IS:=.sq (.iff (.cmp .NotIn (.v 1) (.attr (.v 0) [108,97,98,101,108,115])) (.sq (.raise (.c (.str [108,97,98,101,108])) (.v 2)) .sk) .sk) (.sq (.ret (.idx (.attr (.v 0) [108,97,98,101,108,115]) (.v 1))) .sk)
noncomputable def JU:IS:=.sq (.asg 3 (.call 12 (.cs (.v 0) (.cs (.v 1) (.cs (.v 2) .nl))))) (.sq (.iff (.cmp .GtE (.v 3) (.fn .len (.attr (.v 0) [114,111,119,115]))) (.sq (.raise (.c (.str [116,97,114,103,101,116])) (.v 2)) .sk) .sk) (.sq (.ret (.v 3)) .sk))
noncomputable def s9:IS:=.sq (.iff (.cmp .NotIn (.v 6) (.g 20)) (.sq (.raise (.c (.str [110,117,109,98,101,114])) (.v 3)) .sk) .sk) (.sq (.asg 5 (.bin .Add (.bin .Mult (.v 5) (.c (.int 10))) (.m1 .index (.g 20) (.v 6)))) .sk)
noncomputable def Fy:IS:=.sq (.asg 4 (.v 0)) (.sq (.iff (.or (.tru (.m1 .startswith (.v 0) (.c (.str [45])))) (.tru (.m1 .startswith (.v 0) (.c (.str [43]))))) (.sq (.asg 4 (.slice (.v 0) (.c (.int 1)) (.c .none))) .sk) .sk) (.sq (.iff (.cmp .Eq (.v 4) (.c (.str []))) (.sq (.raise (.c (.str [110,117,109,98,101,114])) (.v 3)) .sk) .sk) (.sq (.asg 5 (.c (.int 0))) (.sq (.forr true [6] (.v 4) s9 [6]) (.sq (.iff (.tru (.m1 .startswith (.v 0) (.c (.str [45])))) (.sq (.asg 5 (.neg (.v 5))) .sk) .sk) (.sq (.iff (.or (.cmp .Lt (.v 5) (.v 1)) (.cmp .Gt (.v 5) (.v 2))) (.sq (.raise (.c (.str [114,97,110,103,101])) (.v 3)) .sk) .sk) (.sq (.ret (.v 5)) .sk)))))))
noncomputable def s8:IS:=.sq (.asg 4 (.idx (.v 0) (.v 3))) (.sq (.iff (.cmp .Eq (.v 4) (.c (.str [92]))) (.sq (.aug 3 (.c (.int 1))) (.sq (.iff (.or (.cmp .GtE (.v 3) (.fn .len (.v 0))) (.cmp .NotIn (.idx (.v 0) (.v 3)) (.g 22))) (.sq (.raise (.c (.str [101,115,99,97,112,101])) (.v 1)) .sk) .sk) (.sq (.asg 4 (.idx (.g 22) (.idx (.v 0) (.v 3)))) .sk))) .sk) (.sq (.expr (.m1 .append (.v 2) (.v 4))) (.sq (.aug 3 (.c (.int 1))) .sk)))
noncomputable def JT:IS:=.sq (.iff (.or (.cmp .Lt (.fn .len (.v 0)) (.c (.int 2))) (.cmp .NotEq (.idx (.v 0) (.c (.int 0))) (.c (.str [34])))) (.sq (.raise (.c (.str [116,101,120,116])) (.v 1)) .sk) .sk) (.sq (.asg 2 .nil) (.sq (.asg 3 (.c (.int 1))) (.sq (.whil (.and (.cmp .Lt (.v 3) (.fn .len (.v 0))) (.cmp .NotEq (.idx (.v 0) (.v 3)) (.c (.str [34])))) s8 [4]) (.sq (.iff (.cmp .NotEq (.v 3) (.bin .Sub (.fn .len (.v 0)) (.c (.int 1)))) (.sq (.raise (.c (.str [116,101,120,116])) (.v 1)) .sk) .sk) (.sq (.ret (.call 2 (.cs (.call 1 (.cs (.m1 .join (.c (.str [])) (.v 2)) .nl)) .nl))) .sk)))))
noncomputable def nL:IS:=.sq (.expr (.m1 .append (.v 4) (.call 13 (.cs (.v 0) (.cs (.m0 .strip (.v 5)) (.cs (.v 2) .nl)))))) .sk
noncomputable def JR:IS:=.sq (.iff (.or (.nott (.tru (.m1 .startswith (.v 1) (.c (.str [40]))))) (.nott (.tru (.m1 .endswith (.v 1) (.c (.str [41])))))) (.sq (.raise (.c (.str [115,119,105,116,99,104])) (.v 2)) .sk) .sk) (.sq (.asg 3 (.m0 .strip (.slice (.v 1) (.c (.int 1)) (.neg (.c (.int 1)))))) (.sq (.asg 4 .nil) (.sq (.iff (.cmp .NotEq (.v 3) (.c (.str []))) (.sq (.forr true [5] (.m1 .splitOn (.v 3) (.c (.str [44]))) nL [5]) .sk) .sk) (.sq (.ret (.fn .tuple (.v 4))) .sk))))
noncomputable def JQ:IS:=.sq (.iff (.or (.cmp .Eq (.v 1) (.c (.str []))) (.cmp .NotIn (.v 1) (.v 0))) (.sq (.raise (.c (.str [110,97,109,101])) (.v 2)) .sk) .sk) (.sq (.ret (.idx (.v 0) (.v 1))) .sk)
noncomputable def JP:IS:=.sq (.iff (.cmp .Eq (.v 1) (.g 5)) (.sq (.iff (.cmp .NotEq (.v 2) (.c (.str []))) (.sq (.raise (.c (.str [111,112,101,114,97,110,100])) (.v 4)) .sk) .sk) (.sq (.ret (.c (.int 0))) .sk)) .sk) (.sq (.iff (.cmp .In (.v 1) (.g 21)) (.sq (.asgT [5,6] (.idx (.g 21) (.v 1))) (.sq (.ret (.call 14 (.cs (.v 2) (.cs (.v 5) (.cs (.v 6) (.cs (.v 4) .nl)))))) .sk)) .sk) (.sq (.iff (.cmp .Eq (.v 1) (.g 10)) (.sq (.ret (.call 13 (.cs (.v 0) (.cs (.v 2) (.cs (.v 4) .nl))))) .sk) .sk) (.sq (.iff (.cmp .Eq (.v 1) (.g 11)) (.sq (.ret (.call 16 (.cs (.v 0) (.cs (.v 2) (.cs (.v 4) .nl))))) .sk) .sk) (.sq (.iff (.cmp .Eq (.v 1) (.g 15)) (.sq (.ret (.call 15 (.cs (.v 2) (.cs (.v 4) .nl)))) .sk) .sk) (.sq (.ret (.call 17 (.cs (.call 19 (.cs (.v 1) (.cs (.v 3) .nl))) (.cs (.m1 .join (.c (.str [32])) (.m0 .split (.v 2))) (.cs (.v 4) .nl))))) .sk)))))
noncomputable def JO:IS:=.sq (.iff (.or (.cmp .Eq (.v 0) (.g 12)) (.cmp .Eq (.v 0) (.g 16))) (.sq (.ret (.attr (.v 1) [107,105,110,100,115])) .sk) .sk) (.sq (.iff (.cmp .Eq (.v 0) (.g 13)) (.sq (.ret (.attr (.v 1) [102,105,101,108,100,115,95])) .sk) .sk) (.sq (.ret (.attr (.v 1) [109,101,116,104,111,100,115])) .sk))
noncomputable def Fx:IS:=.sq (.iff (.or (.cmp .Lt (.fn .len (.v 1)) (.c (.int 7))) (.or (.cmp .NotEq (.idx (.v 1) (.c (.int 1))) (.c (.str [116,111]))) (.cmp .NotEq (.idx (.v 1) (.neg (.c (.int 2)))) (.c (.str [116,111]))))) (.sq (.raise (.c (.str [99,108,97,117,115,101])) (.v 3)) .sk) .sk) (.sq (.asg 4 (.call 12 (.cs (.v 0) (.cs (.idx (.v 1) (.c (.int 0))) (.cs (.v 3) .nl))))) (.sq (.asg 5 (.call 12 (.cs (.v 0) (.cs (.idx (.v 1) (.c (.int 2))) (.cs (.v 3) .nl))))) (.sq (.asg 6 (.call 12 (.cs (.v 0) (.cs (.idx (.v 1) (.neg (.c (.int 3)))) (.cs (.v 3) .nl))))) (.sq (.asg 7 (.call 12 (.cs (.v 0) (.cs (.idx (.v 1) (.neg (.c (.int 1)))) (.cs (.v 3) .nl))))) (.sq (.asgT [8,9] (.call 21 (.cs (.v 0) (.cs (.slice (.v 1) (.c (.int 3)) (.neg (.c (.int 3)))) (.cs (.v 2) (.cs (.v 3) .nl)))))) (.sq (.ret (.tup (.cs (.v 8) (.cs (.v 4) (.cs (.v 5) (.cs (.v 6) (.cs (.v 7) (.cs (.v 9) .nl)))))))) .sk))))))
noncomputable def Fw:IS:=.sq (.iff (.and (.cmp .Eq (.fn .len (.v 1)) (.c (.int 1))) (.cmp .Eq (.idx (.v 1) (.c (.int 0))) (.c (.str [102,105,110,97,108,108,121])))) (.sq (.ret (.tup (.cs (.g 3) (.cs (.c (.int 0)) .nl)))) .sk) .sk) (.sq (.iff (.and (.cmp .Eq (.fn .len (.v 1)) (.c (.int 1))) (.cmp .Eq (.idx (.v 1) (.c (.int 0))) (.c (.str [102,97,117,108,116])))) (.sq (.ret (.tup (.cs (.g 4) (.cs (.c (.int 0)) .nl)))) .sk) .sk) (.sq (.iff (.and (.cmp .Eq (.fn .len (.v 1)) (.c (.int 3))) (.and (.cmp .Eq (.idx (.v 1) (.c (.int 0))) (.c (.str [102,105,108,116,101,114]))) (.cmp .Eq (.idx (.v 1) (.c (.int 2))) (.c (.str [99,97,116,99,104]))))) (.sq (.ret (.tup (.cs (.g 2) (.cs (.call 12 (.cs (.v 0) (.cs (.idx (.v 1) (.c (.int 1))) (.cs (.v 3) .nl)))) .nl)))) .sk) .sk) (.sq (.iff (.and (.cmp .Gt (.fn .len (.v 1)) (.c (.int 1))) (.cmp .Eq (.idx (.v 1) (.c (.int 0))) (.c (.str [99,97,116,99,104])))) (.sq (.ret (.tup (.cs (.g 1) (.cs (.call 17 (.cs (.attr (.v 2) [107,105,110,100,115]) (.cs (.m1 .join (.c (.str [32])) (.slice (.v 1) (.c (.int 1)) (.c .none))) (.cs (.v 3) .nl)))) .nl)))) .sk) .sk) (.sq (.raise (.c (.str [99,108,97,117,115,101])) (.v 3)) .sk))))
noncomputable def nK:IS:=.sq (.expr (.m1 .append (.v 3) (.tup (.cs (.v 5) (.cs (.call 18 (.cs (.v 2) (.cs (.idx (.g 18) (.v 5)) (.cs (.v 6) (.cs (.v 1) (.cs (.v 4) .nl)))))) .nl))))) .sk
noncomputable def nJ:IS:=.sq (.expr (.m1 .append (.v 7) (.call 20 (.cs (.v 2) (.cs (.v 8) (.cs (.v 1) (.cs (.v 4) .nl))))))) .sk
noncomputable def JN:IS:=.sq (.asg 2 (.call 9 (.cs (.v 0) .nl))) (.sq (.asg 3 .nil) (.sq (.forr false [4,5,6] (.attr (.v 2) [114,111,119,115]) nK [4,5,6]) (.sq (.asg 7 .nil) (.sq (.forr false [4,8] (.attr (.v 2) [99,108,97,117,115,101,115]) nJ [8]) (.sq (.ret (.tup (.cs (.v 3) (.cs (.v 7) .nl)))) .sk)))))
noncomputable def s7:IS:=.sq (.iff (.or (.cmp .Lt (.v 4) (.c (.int 0))) (.cmp .GtE (.v 4) (.fn .len (.v 0)))) (.sq (.raise (.c (.str [116,97,114,103,101,116])) (.v 3)) .sk) .sk) (.sq (.setI (.v 2) (.v 4) (.c (.str []))) .sk)
noncomputable def s3:IS:=.sq (.forr true [4] (.call 6 (.cs (.idx (.v 0) (.v 3)) .nl)) s7 [4]) .sk
noncomputable def s2:IS:=.sq (.iff (.or (.cmp .Lt (.v 6) (.c (.int 0))) (.cmp .Gt (.v 6) (.fn .len (.v 0)))) (.sq (.raise (.c (.str [99,108,97,117,115,101])) (.v 5)) .sk) .sk) (.sq (.setI (.v 2) (.v 6) (.c (.str []))) .sk)
noncomputable def s0:IS:=.sq (.forr true [6] (.call 3 (.cs (.idx (.v 1) (.v 5)) .nl)) s2 [6]) .sk
noncomputable def sZ:IS:=.sq (.setI (.v 7) (.v 3) (.bin .Add (.c (.str [76])) (.fn .str (.fn .len (.v 7))))) .sk
noncomputable def JM:IS:=.sq (.asg 2 .dct0) (.sq (.forr true [3] (.fn .range (.fn .len (.v 0))) s3 [3,4]) (.sq (.forr true [5] (.fn .range (.fn .len (.v 1))) s0 [5,6]) (.sq (.asg 7 .dct0) (.sq (.forr true [3] (.fn .sorted (.v 2)) sZ []) (.sq (.ret (.v 7)) .sk)))))
noncomputable def sY:IS:=.sq (.iff (.and (.cmp .Eq (.idx (.v 0) (.v 3)) (.v 1)) (.and (.cmp .Eq (.m1 .join (.c (.str [32])) (.m0 .split (.v 3))) (.v 3)) (.cmp .NotEq (.v 3) (.c (.str []))))) (.sq (.ret (.v 3)) .sk) .sk) .sk
noncomputable def JL:IS:=.sq (.forr true [3] (.v 0) sY [3]) (.sq (.raise (.c (.str [110,97,109,101])) (.v 2)) .sk)
noncomputable def sX:IS:=.sq (.expr (.m1 .append (.v 1) (.m2 .get (.g 23) (.v 2) (.v 2)))) .sk
noncomputable def JK:IS:=.sq (.asg 1 .nil) (.sq (.forr true [2] (.v 0) sX [2]) (.sq (.ret (.bin .Add (.bin .Add (.c (.str [34])) (.m1 .join (.c (.str [])) (.v 1))) (.c (.str [34])))) .sk))
noncomputable def sW:IS:=.sq (.expr (.m1 .append (.v 7) (.idx (.v 3) (.v 8)))) .sk
noncomputable def Fv:IS:=.sq (.iff (.cmp .Eq (.v 0) (.g 5)) (.sq (.iff (.cmp .NotEq (.v 1) (.c (.int 0))) (.sq (.raise (.c (.str [111,112,101,114,97,110,100])) (.v 4)) .sk) .sk) (.sq (.ret (.c (.str []))) .sk)) .sk) (.sq (.iff (.cmp .In (.v 0) (.g 21)) (.sq (.asgT [5,6] (.idx (.g 21) (.v 0))) (.sq (.iff (.or (.cmp .Lt (.v 1) (.v 5)) (.cmp .Gt (.v 1) (.v 6))) (.sq (.raise (.c (.str [111,112,101,114,97,110,100])) (.v 4)) .sk) .sk) (.sq (.ret (.bin .Add (.c (.str [32])) (.fn .str (.v 1)))) .sk))) .sk) (.sq (.iff (.cmp .Eq (.v 0) (.g 10)) (.sq (.ret (.bin .Add (.c (.str [32])) (.idx (.v 3) (.v 1)))) .sk) .sk) (.sq (.iff (.cmp .Eq (.v 0) (.g 11)) (.sq (.asg 7 .nil) (.sq (.forr true [8] (.v 1) sW [8]) (.sq (.ret (.bin .Add (.bin .Add (.c (.str [32,40])) (.m1 .join (.c (.str [44,32])) (.v 7))) (.c (.str [41])))) .sk))) .sk) (.sq (.iff (.cmp .Eq (.v 0) (.g 15)) (.sq (.ret (.bin .Add (.c (.str [32])) (.call 25 (.cs (.v 1) .nl)))) .sk) .sk) (.sq (.ret (.bin .Add (.c (.str [32])) (.call 24 (.cs (.call 19 (.cs (.v 0) (.cs (.v 2) .nl))) (.cs (.v 1) (.cs (.v 4) .nl)))))) .sk)))))
noncomputable def Bm:IS:=.sq (.iff (.and (.cmp .NotEq (.idx (.v 0) (.c (.int 0))) (.g 1)) (.and (.cmp .NotEq (.idx (.v 0) (.c (.int 0))) (.g 2)) (.cmp .NotEq (.idx (.v 0) (.c (.int 5))) (.c (.int 0))))) (.sq (.raise (.c (.str [99,108,97,117,115,101])) (.v 3)) .sk) .sk) (.sq (.asg 4 (.bin .Add (.bin .Add (.bin .Add (.c (.str [46,116,114,121,32])) (.idx (.v 2) (.idx (.v 0) (.c (.int 1))))) (.c (.str [32,116,111,32]))) (.idx (.v 2) (.idx (.v 0) (.c (.int 2)))))) (.sq (.asg 5 (.bin .Add (.bin .Add (.bin .Add (.c (.str [32])) (.idx (.v 2) (.idx (.v 0) (.c (.int 3))))) (.c (.str [32,116,111,32]))) (.idx (.v 2) (.idx (.v 0) (.c (.int 4)))))) (.sq (.iff (.cmp .Eq (.idx (.v 0) (.c (.int 0))) (.g 1)) (.sq (.ret (.bin .Add (.bin .Add (.bin .Add (.v 4) (.c (.str [32,99,97,116,99,104,32]))) (.call 24 (.cs (.attr (.v 1) [107,105,110,100,115]) (.cs (.idx (.v 0) (.c (.int 5))) (.cs (.v 3) .nl))))) (.v 5))) .sk) .sk) (.sq (.iff (.cmp .Eq (.idx (.v 0) (.c (.int 0))) (.g 2)) (.sq (.ret (.bin .Add (.bin .Add (.bin .Add (.bin .Add (.v 4) (.c (.str [32,102,105,108,116,101,114,32]))) (.idx (.v 2) (.idx (.v 0) (.c (.int 5))))) (.c (.str [32,99,97,116,99,104]))) (.v 5))) .sk) .sk) (.sq (.iff (.cmp .Eq (.idx (.v 0) (.c (.int 0))) (.g 3)) (.sq (.ret (.bin .Add (.bin .Add (.v 4) (.c (.str [32,102,105,110,97,108,108,121]))) (.v 5))) .sk) .sk) (.sq (.iff (.cmp .Eq (.idx (.v 0) (.c (.int 0))) (.g 4)) (.sq (.ret (.bin .Add (.bin .Add (.v 4) (.c (.str [32,102,97,117,108,116]))) (.v 5))) .sk) .sk) (.sq (.raise (.c (.str [99,108,97,117,115,101])) (.v 3)) .sk)))))))
noncomputable def nH:IS:=.sq (.asgT [6,7] (.idx (.v 0) (.v 5))) (.sq (.iff (.cmp .NotIn (.v 6) (.g 18)) (.sq (.raise (.c (.str [111,112])) (.v 5)) .sk) .sk) (.sq (.asg 8 (.bin .Add (.idx (.g 17) (.v 6)) (.call 26 (.cs (.idx (.g 18) (.v 6)) (.cs (.v 7) (.cs (.v 2) (.cs (.v 3) (.cs (.v 5) .nl)))))))) (.sq (.iff (.cmp .In (.v 5) (.v 3)) (.sq (.asg 8 (.bin .Add (.bin .Add (.idx (.v 3) (.v 5)) (.c (.str [58,32]))) (.v 8))) .sk) .sk) (.sq (.expr (.m1 .append (.v 4) (.v 8))) .sk))))
noncomputable def nG:IS:=.sq (.expr (.m1 .append (.v 4) (.call 27 (.cs (.idx (.v 1) (.v 9)) (.cs (.v 2) (.cs (.v 3) (.cs (.v 9) .nl))))))) .sk
noncomputable def Fu:IS:=.sq (.asg 3 (.call 23 (.cs (.v 0) (.cs (.v 1) .nl)))) (.sq (.asg 4 .nil) (.sq (.forr true [5] (.fn .range (.fn .len (.v 0))) nH [5,6,7,8]) (.sq (.iff (.cmp .In (.fn .len (.v 0)) (.v 3)) (.sq (.expr (.m1 .append (.v 4) (.bin .Add (.idx (.v 3) (.fn .len (.v 0))) (.c (.str [58]))))) .sk) .sk) (.sq (.forr true [9] (.fn .range (.fn .len (.v 1))) nG [9]) (.sq (.ret (.m1 .join (.c (.str [10])) (.v 4))) .sk)))))
noncomputable def wN:IS:=.sq (.asg 2 (.bin .Mod (.v 0) (.c (.int 9)))) (.sq (.asg 3 (.bin .FloorDiv (.v 0) (.c (.int 9)))) (.sq (.iff (.cmp .Lt (.v 2) (.c (.int 2))) (.sq (.ret (.bin .Add (.idx (.g 24) (.bin .Mod (.v 3) (.c (.int 77)))) (.tup (.cs (.c (.int 0)) (.cs (.c (.str [])) .nl))))) .sk) .sk) (.sq (.iff (.cmp .Eq (.v 2) (.c (.int 2))) (.sq (.asg 4 (.ite (.tru (.bin .Mod (.bin .FloorDiv (.v 3) (.c (.int 6))) (.c (.int 2)))) (.idx (.g 32) (.bin .Mod (.v 3) (.c (.int 6)))) (.bin .Sub (.bin .Mod (.bin .FloorDiv (.v 3) (.c (.int 12))) (.c (.int 4294967296))) (.c (.int 2147483648))))) (.sq (.ret (.tup (.cs (.c (.int 32)) (.cs (.c (.str [108,100,99,46,105,52])) (.cs (.v 4) (.cs (.bin .Add (.ite (.and (.cmp .GtE (.v 4) (.c (.int 0))) (.cmp .Eq (.bin .Mod (.v 3) (.c (.int 5))) (.c (.int 4)))) (.c (.str [43])) (.c (.str []))) (.fn .str (.v 4))) .nl)))))) .sk)) .sk) (.sq (.iff (.cmp .Eq (.v 2) (.c (.int 3))) (.sq (.asg 4 (.idx (.tup (.cs (.neg (.bin .Pow (.c (.int 2)) (.c (.int 63)))) (.cs (.bin .Sub (.bin .Pow (.c (.int 2)) (.c (.int 63))) (.c (.int 1))) (.cs (.c (.int 0)) (.cs (.bin .Mod (.bin .FloorDiv (.v 3) (.c (.int 4))) (.bin .Pow (.c (.int 2)) (.c (.int 40)))) .nl))))) (.bin .Mod (.v 3) (.c (.int 4))))) (.sq (.ret (.tup (.cs (.c (.int 33)) (.cs (.c (.str [108,100,99,46,105,56])) (.cs (.v 4) (.cs (.fn .str (.v 4)) .nl)))))) .sk)) .sk) (.sq (.iff (.cmp .Eq (.v 2) (.c (.int 4))) (.sq (.asg 4 (.idx (.tup (.cs (.c (.int 0)) (.cs (.c (.int 1)) (.cs (.c (.int 255)) (.cs (.c (.int 256)) (.cs (.c (.int 65534)) .nl)))))) (.bin .Mod (.bin .FloorDiv (.v 3) (.c (.int 6))) (.c (.int 5))))) (.sq (.ret (.bin .Add (.idx (.g 26) (.bin .Mod (.v 3) (.c (.int 6)))) (.tup (.cs (.v 4) (.cs (.bin .Add (.ite (.cmp .Eq (.bin .Mod (.bin .FloorDiv (.v 3) (.c (.int 30))) (.c (.int 3))) (.c (.int 2))) (.c (.str [48,48])) (.c (.str []))) (.fn .str (.v 4))) .nl))))) .sk)) .sk) (.sq (.iff (.cmp .Eq (.v 2) (.c (.int 5))) (.sq (.ret (.bin .Add (.idx (.g 25) (.bin .Mod (.v 3) (.c (.int 14)))) (.tup (.cs (.bin .Mod (.bin .FloorDiv (.v 3) (.c (.int 14))) (.v 1)) (.cs (.c (.str [])) .nl))))) .sk) .sk) (.sq (.iff (.cmp .Eq (.v 2) (.c (.int 6))) (.sq (.ret (.tup (.cs (.c (.int 69)) (.cs (.c (.str [115,119,105,116,99,104])) (.cs (.fn .tuple (.comp (.bin .Mod (.bin .Add (.bin .FloorDiv (.v 3) (.c (.int 4))) (.bin .Mult (.bin .Mult (.c (.int 3)) (.v 11)) (.v 11))) (.v 1)) true 1 (.fn .range (.bin .Mod (.v 3) (.c (.int 4)))) .nl [false,true,false,true,false,false,false,false,false,false,false])) (.cs (.c (.str [])) .nl)))))) .sk) .sk) (.sq (.iff (.cmp .Eq (.v 2) (.c (.int 7))) (.sq (.asgT [5,6,7] (.idx (.g 27) (.bin .Mod (.v 3) (.c (.int 25))))) (.sq (.asg 8 (.idx (.tup (.cs (.g 28) (.cs (.g 29) (.cs (.g 30) .nl)))) (.v 7))) (.sq (.asgT [9,10] (.idx (.v 8) (.bin .Mod (.bin .FloorDiv (.v 3) (.c (.int 25))) (.fn .len (.v 8))))) (.sq (.ret (.tup (.cs (.v 5) (.cs (.v 6) (.cs (.v 9) (.cs (.v 10) .nl)))))) .sk)))) .sk) (.sq (.ret (.tup (.cs (.c (.int 114)) (.cs (.c (.str [108,100,115,116,114])) (.cs (.idx (.g 31) (.bin .Mod (.v 3) (.c (.int 10)))) (.cs (.c (.str [])) .nl)))))) .sk)))))))))
noncomputable def sV:IS:=.sq (.asg 4 (.bin .Add (.bin .FloorDiv (.v 0) (.c (.int 3))) (.bin .Mult (.c (.int 1003)) (.v 3)))) (.sq (.asg 5 (.idx (.tup (.cs (.c (.int 0)) (.cs (.c (.int 1)) (.cs (.c (.int 2)) (.cs (.c (.int 4)) .nl))))) (.bin .Mod (.v 4) (.c (.int 4))))) (.sq (.asg 6 (.ite (.cmp .Eq (.v 5) (.c (.int 0))) (.idx (.idx (.g 28) (.bin .Mod (.bin .FloorDiv (.v 4) (.c (.int 4))) (.c (.int 4)))) (.c (.int 0))) (.ite (.cmp .Eq (.v 5) (.c (.int 1))) (.bin .Mod (.bin .FloorDiv (.v 4) (.c (.int 4))) (.bin .Add (.v 1) (.c (.int 1)))) (.c (.int 0))))) (.sq (.expr (.m1 .append (.v 2) (.tup (.cs (.v 5) (.cs (.bin .Mod (.bin .FloorDiv (.v 4) (.c (.int 16))) (.bin .Add (.v 1) (.c (.int 1)))) (.cs (.bin .Mod (.bin .FloorDiv (.v 4) (.c (.int 5))) (.bin .Add (.v 1) (.c (.int 1)))) (.cs (.bin .Mod (.bin .FloorDiv (.v 4) (.c (.int 7))) (.bin .Add (.v 1) (.c (.int 1)))) (.cs (.bin .Mod (.bin .FloorDiv (.v 4) (.c (.int 11))) (.bin .Add (.v 1) (.c (.int 1)))) (.cs (.v 6) .nl))))))))) .sk)))
noncomputable def JJ:IS:=.sq (.asg 2 .nil) (.sq (.forr true [3] (.fn .range (.bin .Mod (.v 0) (.c (.int 3)))) sV [3,4,5,6]) (.sq (.ret (.v 2)) .sk))
noncomputable def sU:IS:=.sq (.aug 1 (.m2 .get (.dctc [[10],[9],[13],[34],[92]] [[92,110],[92,116],[92,114],[92,34],[92,92]]) (.v 2) (.v 2))) .sk
noncomputable def JI:IS:=.sq (.asg 1 (.c (.str [34]))) (.sq (.forr true [2] (.v 0) sU [2]) (.sq (.ret (.bin .Add (.v 1) (.c (.str [34])))) .sk))
noncomputable def sT:IS:=.sq (.iff (.cmp .Eq (.v 2) (.c (.int 69))) (.sq (.asg 1 (.addl (.v 1) (.fn .list (.v 4)))) .sk) (.sq (.iff (.or (.cmp2 .LtE .Lt (.c (.int 56)) (.v 2) (.c (.int 69))) (.cmp .Eq (.v 2) (.c (.int 221)))) (.sq (.expr (.m1 .append (.v 1) (.v 4))) .sk) .sk) .sk)) .sk
noncomputable def JH:IS:=.sq (.asg 1 .nil) (.sq (.forr false [2,3,4,5] (.v 0) sT [2,3,4,5]) (.sq (.ret (.v 1)) .sk))
noncomputable def Bl:IS:=.sq (.asgT [3,4,5,6] (.v 0)) (.sq (.iff (.cmp .Eq (.v 3) (.c (.int 69))) (.sq (.ret (.bin .Add (.bin .Add (.c (.str [40])) (.m1 .join (.bin .Add (.c (.str [44])) (.v 2)) (.comp (.idx (.v 1) (.v 7)) true 1 (.v 5) .nl [false,true,false,false,false,false,false]))) (.c (.str [41])))) .sk) .sk) (.sq (.iff (.or (.cmp2 .LtE .Lt (.c (.int 56)) (.v 3) (.c (.int 69))) (.cmp .Eq (.v 3) (.c (.int 221)))) (.sq (.ret (.idx (.v 1) (.v 5))) .sk) .sk) (.sq (.iff (.cmp .Eq (.v 3) (.c (.int 114))) (.sq (.ret (.call 31 (.cs (.v 5) .nl))) .sk) .sk) (.sq (.ret (.v 6)) .sk))))
noncomputable def Bk:IS:=.sq (.asgT [3,4,5,6,7,8] (.v 0)) (.sq (.iff (.cmp .Eq (.v 3) (.c (.int 0))) (.sq (.asg 9 (.bin .Add (.bin .Add (.c (.str [99,97,116,99,104])) (.v 2)) (.idx (.comp (.v 11) false 2 (.g 28) (.cmp .Eq (.v 10) (.v 8)) [false,false,false,false,false,false,false,false,true,false]) (.c (.int 0))))) .sk) (.sq (.iff (.cmp .Eq (.v 3) (.c (.int 1))) (.sq (.asg 9 (.bin .Add (.bin .Add (.bin .Add (.c (.str [102,105,108,116,101,114])) (.v 2)) (.idx (.v 1) (.v 8))) (.c (.str [32,99,97,116,99,104])))) .sk) (.sq (.asg 9 (.ite (.cmp .Eq (.v 3) (.c (.int 2))) (.c (.str [102,105,110,97,108,108,121])) (.c (.str [102,97,117,108,116])))) .sk)) .sk)) (.sq (.ret (.bin .Add (.bin .Add (.bin .Add (.bin .Add (.bin .Add (.bin .Add (.bin .Add (.bin .Add (.bin .Add (.bin .Add (.bin .Add (.c (.str [46,116,114,121])) (.v 2)) (.idx (.v 1) (.v 4))) (.c (.str [32,116,111,32]))) (.idx (.v 1) (.v 5))) (.c (.str [32]))) (.v 9)) (.v 2)) (.idx (.v 1) (.v 6))) (.c (.str [32,116,111]))) (.v 2)) (.idx (.v 1) (.v 7)))) .sk))
noncomputable def fG:IS:=.sq (.asg 8 (.bin .Add (.idx (.v 4) (.v 3)) (.c (.str [58])))) (.sq (.asg 9 (.bin .Add (.bin .FloorDiv (.v 2) (.c (.int 6))) (.bin .Mult (.c (.int 5)) (.v 3)))) (.sq (.iff (.cmp .Eq (.bin .Mod (.v 9) (.c (.int 4))) (.c (.int 0))) (.sq (.expr (.m1 .append (.v 7) (.v 8))) (.sq (.asg 8 (.c (.str []))) .sk)) (.sq (.iff (.cmp .Eq (.bin .Mod (.v 9) (.c (.int 4))) (.c (.int 1))) (.sq (.expr (.m1 .append (.v 7) (.bin .Add (.v 5) (.c (.str [47,47,32,114,101,116]))))) (.sq (.asg 8 (.bin .Add (.bin .Add (.bin .Add (.bin .Add (.c (.str [97,108,115,111])) (.fn .str (.v 3))) (.c (.str [58]))) (.v 5)) (.v 8))) .sk)) .sk) .sk)) (.sq (.asg 10 (.ite (.cmp .Eq (.idx (.idx (.v 0) (.v 3)) (.c (.int 2))) (.c (.str [55357,56832]))) (.c (.str [34,128512,34])) (.call 33 (.cs (.idx (.v 0) (.v 3)) (.cs (.v 4) (.cs (.v 5) .nl)))))) (.sq (.expr (.m1 .append (.v 7) (.bin .Add (.bin .Add (.bin .Add (.bin .Add (.bin .Add (.bin .Mult (.v 5) (.bin .Mod (.v 9) (.c (.int 2)))) (.v 8)) (.v 5)) (.idx (.idx (.v 0) (.v 3)) (.c (.int 1)))) (.ite (.tru (.v 10)) (.bin .Add (.v 5) (.v 10)) (.c (.str [])))) (.bin .Mult (.v 5) (.bin .Mod (.v 9) (.c (.int 3))))))) .sk))))
noncomputable def JG:IS:=.sq (.asg 4 (.comp (.bin .Add (.idx (.g 33) (.bin .Mod (.bin .Add (.v 2) (.v 11)) (.c (.int 7)))) (.fn .str (.v 11))) true 1 (.fn .range (.bin .Add (.fn .len (.v 0)) (.c (.int 1)))) .nl [false,false,true,false,false,false,false,false,false,false,false])) (.sq (.asg 5 (.idx (.tup (.cs (.c (.str [32])) (.cs (.c (.str [32,32])) (.cs (.c (.str [9,32])) .nl)))) (.bin .Mod (.v 2) (.c (.int 3))))) (.sq (.asg 6 (.comp (.bin .Add (.v 5) (.call 34 (.cs (.v 11) (.cs (.v 4) (.cs (.v 5) .nl))))) true 1 (.v 1) .nl [false,false,false,false,true,true,false,false,false,false,false])) (.sq (.asg 7 (.addl (.lst (.cs (.c (.str [])) (.cs (.c (.str [47,47,97,58,32,116,101,120,116])) .nl))) (.ite (.tru (.bin .Mod (.bin .FloorDiv (.v 2) (.c (.int 3))) (.c (.int 2)))) (.v 6) .nil))) (.sq (.forr true [3] (.fn .range (.fn .len (.v 0))) fG [3,8,9,10]) (.sq (.expr (.m1 .append (.v 7) (.bin .Add (.idx (.v 4) (.fn .len (.v 0))) (.c (.str [58]))))) (.sq (.ret (.addl (.addl (.v 7) (.lst (.cs (.c (.str [116,104,101,101,110,100,58])) .nl))) (.ite (.tru (.bin .Mod (.bin .FloorDiv (.v 2) (.c (.int 3))) (.c (.int 2)))) .nil (.v 6)))) .sk))))))
noncomputable def sQ:IS:=.sq (.setI (.v 2) (.v 3) (.c (.int 1))) .sk
noncomputable def sP:IS:=.sq (.setI (.v 2) (.v 5) (.c (.int 1))) .sk
noncomputable def sO:IS:=.sq (.forr true [5] (.slice (.v 4) (.c (.int 1)) (.c (.int 5))) sP [5]) (.sq (.iff (.cmp .Eq (.idx (.v 4) (.c (.int 0))) (.c (.int 1))) (.sq (.setI (.v 2) (.idx (.v 4) (.c (.int 5))) (.c (.int 1))) .sk) .sk) .sk)
noncomputable def sN:IS:=.sq (.setI (.v 6) (.v 7) (.bin .Add (.c (.str [76])) (.fn .str (.fn .len (.v 6))))) .sk
noncomputable def nF:IS:=.sq (.asg 10 (.ite (.and (.cmp .NotIn (.idx (.idx (.v 0) (.v 9)) (.c (.int 0))) (.tup (.cs (.c (.int 32)) (.cs (.c (.int 33)) .nl)))) (.nott (.cmp2 .LtE .LtE (.c (.int 65033)) (.idx (.idx (.v 0) (.v 9)) (.c (.int 0))) (.c (.int 65038))))) (.idx (.idx (.v 0) (.v 9)) (.c (.int 3))) (.fn .str (.idx (.idx (.v 0) (.v 9)) (.c (.int 2)))))) (.sq (.asg 11 (.call 33 (.cs (.bin .Add (.slice (.idx (.v 0) (.v 9)) (.c .none) (.c (.int 3))) (.tup (.cs (.v 10) .nl))) (.cs (.v 6) (.cs (.c (.str [32])) .nl))))) (.sq (.expr (.m1 .append (.v 8) (.bin .Add (.bin .Add (.ite (.cmp .In (.v 9) (.v 6)) (.bin .Add (.idx (.v 6) (.v 9)) (.c (.str [58,32]))) (.c (.str []))) (.idx (.idx (.v 0) (.v 9)) (.c (.int 1)))) (.ite (.tru (.v 11)) (.bin .Add (.c (.str [32])) (.v 11)) (.c (.str [])))))) .sk))
noncomputable def JF:IS:=.sq (.asg 2 .dct0) (.sq (.forr true [3] (.call 32 (.cs (.v 0) .nl)) sQ [3]) (.sq (.forr true [4] (.v 1) sO [4,5]) (.sq (.asg 6 .dct0) (.sq (.forr true [7] (.fn .sorted (.v 2)) sN [7]) (.sq (.asg 8 .nil) (.sq (.forr true [9] (.fn .range (.fn .len (.v 0))) nF [9,10,11]) (.sq (.iff (.cmp .In (.fn .len (.v 0)) (.v 6)) (.sq (.expr (.m1 .append (.v 8) (.bin .Add (.idx (.v 6) (.fn .len (.v 0))) (.c (.str [58]))))) .sk) .sk) (.sq (.ret (.m1 .join (.c (.str [10])) (.addl (.v 8) (.comp (.call 34 (.cs (.v 12) (.cs (.v 6) (.cs (.c (.str [32])) .nl)))) true 1 (.v 1) .nl [false,false,false,false,false,false,true,false,false,false,false,false])))) .sk))))))))
noncomputable def sM:IS:=.sq (.setI (.attr (.v 0) [107,105,110,100,115]) (.v 2) (.v 1)) .sk
noncomputable def sK:IS:=.sq (.setI (.attr (.v 0) [102,105,101,108,100,115,95]) (.v 2) (.v 1)) .sk
noncomputable def sJ:IS:=.sq (.setI (.attr (.v 0) [109,101,116,104,111,100,115]) (.v 2) (.v 1)) .sk
noncomputable def JE:IS:=.sq (.asg 0 (.new 0)) (.sq (.setI (.attr (.v 0) [107,105,110,100,115]) (.c (.str [109,121,32,32,107,105,110,100])) (.c (.int 41))) (.sq (.forr false [1,2] (.g 28) sM [1,2]) (.sq (.setI (.attr (.v 0) [107,105,110,100,115]) (.c (.str [105,110,116,51,50])) (.c (.int 7))) (.sq (.setI (.attr (.v 0) [107,105,110,100,115]) (.c (.str [])) (.c (.int 44))) (.sq (.forr false [1,2] (.g 29) sK []) (.sq (.forr false [1,2] (.g 30) sJ []) (.sq (.ret (.v 0)) .sk)))))))
noncomputable def J2:IS:=.asg 4 (.fn .len (.v 0))
noncomputable def J0:IS:=.asg 5 (.idx (.tup (.cs (.tup (.cs (.c (.int 36)) (.cs (.c (.int 0)) .nl))) (.cs (.tup (.cs (.c (.int 32)) (.cs (.c (.int 2147483648)) .nl))) (.cs (.tup (.cs (.c (.int 140)) (.cs (.c (.int 99)) .nl))) (.cs (.tup (.cs (.c (.int 0)) (.cs (.c (.int 1)) .nl))) (.cs (.tup (.cs (.c (.int 56)) (.cs (.bin .Add (.v 4) (.c (.int 1))) .nl))) (.cs (.tup (.cs (.c (.int 69)) (.cs (.tup (.cs (.c (.int 0)) (.cs (.neg (.c (.int 1))) .nl))) .nl))) (.cs (.tup (.cs (.c (.int 65036)) (.cs (.c (.int 65535)) .nl))) (.cs (.tup (.cs (.c (.int 123)) (.cs (.tup (.cs (.c (.int 20)) (.cs (.c (.int 99)) .nl))) .nl))) (.cs (.tup (.cs (.c (.int 140)) (.cs (.c (.int 44)) .nl))) (.cs (.tup (.cs (.c (.int 33)) (.cs (.bin .Sub (.neg (.bin .Pow (.c (.int 2)) (.c (.int 63)))) (.c (.int 1))) .nl))) .nl))))))))))) (.bin .Mod (.v 3) (.c (.int 10))))
noncomputable def JZ:IS:=.asg 6 (.tup (.cs (.tup (.cs (.c (.int 3)) (.cs (.c (.int 0)) (.cs (.c (.int 0)) (.cs (.c (.int 0)) (.cs (.c (.int 0)) (.cs (.c (.int 0)) .nl))))))) (.cs (.tup (.cs (.c (.int 2)) (.cs (.c (.int 0)) (.cs (.c (.int 0)) (.cs (.c (.int 0)) (.cs (.c (.int 0)) (.cs (.c (.int 7)) .nl))))))) (.cs (.tup (.cs (.c (.int 0)) (.cs (.c (.int 0)) (.cs (.c (.int 0)) (.cs (.c (.int 0)) (.cs (.c (.int 0)) (.cs (.c (.int 99)) .nl))))))) (.cs (.tup (.cs (.c (.int 4)) (.cs (.c (.int 0)) (.cs (.bin .Add (.v 4) (.c (.int 1))) (.cs (.c (.int 0)) (.cs (.c (.int 0)) (.cs (.c (.int 0)) .nl))))))) (.cs (.tup (.cs (.c (.int 1)) (.cs (.c (.int 0)) (.cs (.c (.int 0)) (.cs (.c (.int 0)) (.cs (.c (.int 0)) (.cs (.neg (.c (.int 1))) .nl))))))) (.cs (.tup (.cs (.c (.int 4)) (.cs (.c (.int 0)) (.cs (.c (.int 0)) (.cs (.c (.int 0)) (.cs (.c (.int 0)) (.cs (.c (.int 7)) .nl))))))) .nl)))))))
noncomputable def JY:IS:=.asg 7 (.ite (.tru (.bin .Mod (.bin .FloorDiv (.v 3) (.c (.int 10))) (.c (.int 2)))) (.tup (.cs (.addl (.v 0) (.lst (.cs (.v 5) .nl))) (.cs (.v 1) .nl))) (.tup (.cs (.v 0) (.cs (.addl (.v 1) (.lst (.cs (.idx (.v 6) (.bin .Mod (.bin .FloorDiv (.v 3) (.c (.int 20))) (.c (.int 6)))) .nl))) .nl))))
noncomputable def JD:IS:=.sq J2 (.sq J0 (.sq JZ (.sq JY (.sq (.tryE (.call 28 (.cs (.idx (.v 7) (.c (.int 0))) (.cs (.idx (.v 7) (.c (.int 1))) (.cs (.v 2) .nl)))) none (.sq (.ret (.c (.bool true))) .sk)) (.sq (.ret (.c (.bool false))) .sk)))))
noncomputable def Kc:IS:=.asg 1 (.ite (.tru (.v 0)) (.idx (.v 0) (.c (.int 0))) (.c (.int 0)))
noncomputable def Kb:IS:=.asg 2 (.ite (.cmp .Gt (.fn .len (.v 0)) (.c (.int 1))) (.idx (.v 0) (.c (.int 1))) (.c (.int 1)))
noncomputable def Ka:IS:=.asg 3 (.ite (.cmp .Gt (.fn .len (.v 0)) (.c (.int 2))) (.slice (.v 0) (.c (.int 2)) (.c (.int 18))) (.lst (.cs (.bin .Add (.c (.int 2)) (.bin .Mult (.c (.int 9)) (.c (.int 9)))) (.cs (.c (.int 5)) (.cs (.bin .Add (.c (.int 8)) (.bin .Mult (.c (.int 9)) (.c (.int 3)))) .nl)))))
noncomputable def J9:IS:=.asg 4 (.comp (.call 29 (.cs (.v 12) (.cs (.fn .len (.v 3)) .nl))) true 1 (.v 3) .nl [false,false,false,true,false,false,false,false,false,false,false,false])
noncomputable def J8:IS:=.asg 5 (.call 30 (.cs (.v 2) (.cs (.fn .len (.v 4)) .nl)))
noncomputable def J7:IS:=.asg 6 (.comp (.tup (.cs (.idx (.v 12) (.c (.int 0))) (.cs (.idx (.v 12) (.c (.int 2))) .nl))) true 1 (.v 4) .nl [false,false,false,false,false,false,false,false,false,false,false,false])
noncomputable def J6:IS:=.asg 7 (.call 37 .nl)
noncomputable def J5:IS:=.asg 8 (.call 35 (.cs (.v 4) (.cs (.v 5) (.cs (.v 1) .nl))))
noncomputable def J4:IS:=.iff (.cmp .NotEq (.call 22 (.cs (.m1 .join (.c (.str [10])) (.v 8)) (.cs (.v 7) .nl))) (.tup (.cs (.v 6) (.cs (.v 5) .nl)))) (.sq (.ret (.c (.bool false))) .sk) .sk
noncomputable def J3:IS:=.asg 9 (.call 28 (.cs (.v 6) (.cs (.v 5) (.cs (.v 7) .nl))))
noncomputable def Hf:IS:=.iff (.or (.cmp .NotEq (.v 9) (.call 36 (.cs (.v 4) (.cs (.v 5) .nl)))) (.cmp .NotEq (.call 22 (.cs (.v 9) (.cs (.v 7) .nl))) (.tup (.cs (.v 6) (.cs (.v 5) .nl))))) (.sq (.ret (.c (.bool false))) .sk) .sk
noncomputable def He:IS:=.asg 10 (.bin .Mod (.bin .FloorDiv (.v 1) (.c (.int 47))) (.fn .len (.v 8)))
noncomputable def Bn:IS:=.iff (.or (.cmp .In (.c (.str [115,119,105,116,99,104])) (.idx (.g 34) (.bin .Mod (.v 1) (.c (.int 47))))) (.cmp .Eq (.c (.str [98,114,32,116,104,101,101,110,100])) (.idx (.g 34) (.bin .Mod (.v 1) (.c (.int 47)))))) (.sq (.asg 10 (.c (.int 0))) .sk) .sk
noncomputable def Hd:IS:=.expr (.m2 .insert (.v 8) (.v 10) (.idx (.g 34) (.bin .Mod (.v 1) (.c (.int 47)))))
noncomputable def nE:IS:=.sq Kc (.sq Kb (.sq Ka (.sq J9 (.sq J8 (.sq J7 (.sq J6 (.sq J5 (.sq J4 (.sq J3 (.sq Hf (.sq He (.sq Bn (.sq Hd (.sq (.tryE (.call 22 (.cs (.m1 .join (.c (.str [10])) (.v 8)) (.cs (.v 7) .nl))) (some 11) (.sq (.ret (.andv (.cmp .Eq (.attr (.v 11) [97,116]) (.bin .Add (.v 10) (.c (.int 1)))) (.call 38 (.cs (.v 6) (.cs (.v 5) (.cs (.v 7) (.cs (.v 1) .nl))))))) .sk)) .sk))))))))))))))
noncomputable def lC (i:Nat):Option Fd:=[⟨1,1,false,JX⟩,⟨1,3,false,Ml⟩,⟨1,1,false,Mk⟩,⟨1,1,false,Mj⟩,⟨0,2,false,Mi⟩,⟨1,1,false,Mh⟩,⟨1,1,false,Mg⟩,⟨1,2,false,Mf⟩,⟨1,2,false,Me⟩,⟨1,5,false,Mc⟩,⟨4,6,false,FA⟩,⟨3,3,false,JW⟩,⟨3,3,false,JV⟩,⟨3,4,false,JU⟩,⟨4,7,false,Fy⟩,⟨2,5,false,JT⟩,⟨3,6,false,JR⟩,⟨3,3,false,JQ⟩,⟨5,7,false,JP⟩,⟨2,2,false,JO⟩,⟨4,10,false,Fx⟩,⟨4,4,false,Fw⟩,⟨2,9,false,JN⟩,⟨2,8,false,JM⟩,⟨3,4,false,JL⟩,⟨1,3,false,JK⟩,⟨5,9,false,Fv⟩,⟨4,6,false,Bm⟩,⟨3,10,false,Fu⟩,⟨2,11,false,wN⟩,⟨2,7,false,JJ⟩,⟨1,3,false,JI⟩,⟨1,6,false,JH⟩,⟨3,7,false,Bl⟩,⟨3,10,false,Bk⟩,⟨3,11,true,JG⟩,⟨2,12,false,JF⟩,⟨0,3,false,JE⟩,⟨4,8,false,JD⟩,⟨1,12,false,nE⟩][i]?
end Mine
end
section
open PySem PySem.W PyProof.Rows PySem.Calls
namespace Mine
noncomputable section
noncomputable def lp (h:Heap)(hd:Option Value):Prop:=∀ v,hd=some v→∃ x o vs,v=.ref x∧h.get? x=some o∧o.data=.fields vs∧vs[2]?=some .none
theorem lp.keep {h h':Heap}{hd}(x:lp h hd)(k:h.StaysIn h'):lp h' hd:=λ v e=>(x v e).imp λ Z9 x=>x.imp λ Z9 x=>x.imp λ Z9 y=>⟨y.1,k _ _ y.2.1,y.2.2⟩
structure rf where
 oc:Value
 od:Option Addr
 osl:Array (Option Value)
 name:Str
 qual:Str
 params:Arguments
 body:List Stmt
 scope:Scope
 dV:Value
 kV:Value
 doc:Value
 pm:Value
 an:Option Addr
 cdv:Value
 ct:Value
noncomputable def rf.fd (r:rf):FuncData:=fnX r.name r.qual r.params r.body r.scope [] r.dV r.kV r.doc r.pm r.an r.cdv r.ct
noncomputable def rf.ps (r:rf):List Str:=r.params.args.map (·.arg)
noncomputable def rf.slots (r:rf):List Str:=vY r.scope r.ps
noncomputable def B9 (sc:Scope)(slots:List Str):CE:=⟨sc.names,slots,uW,qC,Cf,"BadCode"⟩
structure F2 (h:Heap) (fa:Addr) (r:rf):Prop where
 get:h.get? fa=some ⟨r.oc,r.od,.func r.fd,r.osl⟩
 code:h.CodeRec r.cdv r.qual
 co:r.scope.isCoroutine=false
 gen:r.scope.isGenerator=false
 kind:r.scope.kind=.function
 bind:∀ vals:List Value,vals.length=r.ps.length→bindArgs r.fd ⟨vals,[]⟩=pure (r.ps.zip vals)
theorem F2.keep {h h':Heap}{fa r}(x:F2 h fa r)(k:h.StaysIn h'):F2 h' fa r:=⟨k _ _ x.get,x.code.keeps k,x.co,x.gen,x.kind,x.bind⟩
structure MH (fd:Fd) (r:rf):Prop where
 par:∀ x∈r.ps,r.scope.names.lookup x=some .local∨r.scope.names.lookup x=some .cell
 nds:r.slots.Nodup
 ndc:((cellsFrom 0 r.scope.names []).map (·.1)).Nodup
 celk:∀ c∈cellsFrom 0 r.scope.names [],r.scope.names.lookup c.1=some .cell
 na:fd.nargs=r.ps.length
 ns:fd.nslots=r.slots.length
 rel:(lK fd.body (B9 r.scope r.slots)).ss r.body=true
noncomputable def Fn.val:Fn→Value
 | .len=>.builtin "len" | .ord=>.builtin "ord" | .chr=>.builtin "chr" | .sorted=>.builtin "sorted"
 | .str=>.type "str" | .list=>.type "list" | .tuple=>.type "tuple" | .range=>.type "range"
 | _=>.none
structure t3 (K:Frag) (C:Addr) (fs:List (List Nat×Bool)):Prop where
 makes:makesIn K C=true
 setattr:findIn K (.ref C) "__setattr__"=some (some (.builtin "object.__setattr__"))
 over:plainOver K C=true
 dict:hasDictIn K C=true
 taker:∀ p∈fs,takerIn K C (aG p.1)=some none
 attr:∀ p∈fs,Cw K C (aG p.1)
 nd:(fs.map (·.1)).Nodup
 le:fs.length≤1000
 keep:keepIn K (.ref C)=true
noncomputable def Jp (b:Bool)(e:Expr):Bool:=match b with | true=>Dw e List.isEmpty | false=>wu e λ ks vs=>ks.isEmpty&&vs.isEmpty
noncomputable def wq (s:Stmt)(k:Str→Expr→Bool):Bool:=AO s λ t e=>o6 t λ o a Z9=>eQ o (·=="self")&&k a e
noncomputable def pj:List (List Nat×Bool)→List Stmt→Bool
 | [],b=>b.isEmpty
 | f::fs,b=>(match b with | s::r=>wq s (λ a e=>a==aG f.1&&Jp f.2 e)&&pj fs r | []=>false)
structure xD (K:Frag) (B:Heap) (C:Addr) (fs:List (List Nat×Bool)) (fa:Addr) (r:rf):Prop where
 cls:t3 K C fs
 init:findIn K (.ref C) "__init__"=some (some (.ref fa))
 ty:typeIn K (.ref fa)=some (.type "function")
 fn:F2 B fa r
 ps:r.ps=[("self":Str)]
 loc:r.scope.names.lookup ("self":Str)=some .local
 body:pj fs r.body=true
inductive fw (o:Obj) (C:Addr):Prop
 | mk (nm q:Str) (N:Addr) (bs tl:List Value) (sn:List Str) (sub:List Value) (ab:Bool) (col:Option Bool) (dd:Option Addr) (k0 k1 k2 k3 k5:Option Value) (e:o=excClassObj nm q C N bs tl true sn sub ab col dd k0 k1 k2 k3 k5 "Exception.__new__") (c1:tl.contains (.type "Exception")=true) (c2:tl.contains (.type "BaseException")=true) (c3:tl.contains (.type "object")=true)
  (c4:tl.contains (.type "AttributeError")=false) (c5:tl.contains (.type "NameError")=false) (hp:∀ self,refuseLoop self "__setattr__" tl=pure ()):fw o C
noncomputable def Hz:List Stmt→Bool
 | [s,t]=>wq s (λ a e=>a=="code"&&eQ e (·=="code"))&&wq t λ a e=>a=="at"&&eQ e (·=="at")
 | _=>false
structure oq (K:Frag) (P:Setting) (B:Heap) (C:Addr) (oC:Obj) (fa:Addr) (r:rf):Prop where
 ck:∀ a b,peek K P (checkBuiltinCall "Exception.__new__" ⟨[.ref C,a,b],[]⟩)=some ()
 get:K.lookup C=some oC
 exc:fw oC C
 setattr:findIn K (.ref C) "__setattr__"=some (some (.builtin "object.__setattr__"))
 tc:takerIn K C "code"=some none
 ta:takerIn K C "at"=some none
 init:findIn K (.ref C) "__init__"=some (some (.ref fa))
 ty:typeIn K (.ref fa)=some (.type "function")
 keep:keepIn K (.ref C)=true
 fn:F2 B fa r
 ps:r.ps=[("self":Str),("code":Str),("at":Str)]
 loc:∀ x∈r.ps,r.scope.names.lookup x=some .local
 body:Hz r.body=true
 ga:findIn K (.ref C) "__getattribute__"=some (some (.builtin "BaseException.__getattribute__"))
 gn:findIn K (.ref C) "__getattr__"=some none
 sub:subIn K (.ref C) (.type "BaseException")=some true
 dict:hasDictIn K C=true
 at_:∃ attr,findIn K (.ref C) "at"=some attr∧noGet K attr=true
structure tX (S:Sy) (B:Heap) (mg mb:Str→Option Value):Prop where
 inK:S.K.In B
 nolimit:B.NoLimit
 g:B.Ns mainGlobals mg
 b:B.Ns builtinsNs mb
 gv:∀ x i,uW.lookup x=some i→∃ p v,kZ i=some p∧mg x=some v∧bj S ⟨B,[]⟩ p v
 bv:∀ p:Fn,p.isFn=true→mg p.name=none∧mb p.name=some p.val
 fv:∀ x i,qC.lookup x=some i→∃ fa fd r,mg x=some (.ref fa)∧lC i=some fd∧F2 B fa r∧MH fd r∧nt fd.body=false
 cv:∀ x c,Cf.lookup x=some c→mg x=some (.ref (S.cls c))∧∃ fa r,xD S.K B (S.cls c) (fk c) fa r
 rv:mg "BadCode"=some (.ref S.bad)∧∃ oC fa r,oq S.K ⟨S.prog,S.w.params⟩ B S.bad oC fa r
structure Cx where
 S:Sy
 mg:Str→Option Value
 mb:Str→Option Value
 B0:Heap
 os:OsState
 gens:Array GenState
 env:Env
 A:Around
 l:List Env
 slots:List Str
 d:Nat          -- how many calls deep it may go
noncomputable abbrev Cx.M (X:Cx):Model:=model X.S.prog X.S.w
noncomputable abbrev Cx.ce (X:Cx):CE:=B9 X.env.scope X.slots
structure lq (X:Cx):Prop where
 kind:X.env.scope.kind=.function
 glob:X.env.globals=mainGlobals
 blt:X.env.builtins=builtinsNs
 frames:X.A.frames=some X.l
 roomU:X.A.units+40*X.d+200<cLine
 roomD:X.A.depth+X.d+5<recursionLimit
 top:tX X.S X.B0 X.mg X.mb
 hok:lp X.B0 X.A.handled
noncomputable def KQ (X:Cx)(Φ:Ow)(x:Str)(p:PV):Prop:=match X.env.kindOf x with
 | some .local=>∃ k vs,⟨X.env.locals,k,.frame vs⟩∈Φ∧(x,p)∈vs
 | some .cell=>∃ a k vs,X.env.cells.lookup x=some a∧⟨a,k,.cell vs⟩∈Φ∧(x,p)∈vs
 | _=>True
noncomputable def iO (l:List Env)(Φ:Ow):Prop:=∀ e∈l,∃ L k vs,e.frame=some L∧(⟨L,k,.frame vs⟩:En)∈Φ∧e.scope.kind≠.module
structure Cr (X:Cx) (ρ:am) (Φ:Ow):Prop where
 var:∀ i x p,X.slots[i]?=some x→cT ρ i=some p→KQ X Φ x p
 cel:∀ x,X.env.kindOf x=some .cell→∃ a k vs,X.env.cells.lookup x=some a∧(⟨a,k,.cell vs⟩:En)∈Φ
 stk:iO X.l Φ
noncomputable def At (X:Cx)(s:Shared)(β:Fz)(σ:aa)(Φ:Ow):Prop:=(s.os=X.os∧s.gens=X.gens)∧cy X.S X.B0 s.heap β σ Φ
inductive Md where
 | raw | fly (T:Addr) | held (T L:Addr)
noncomputable def qD (hd:Option Value)(ea d:Addr):Md→Ow
 | .raw=>[⟨ea,0,.exc hd none d⟩]
 | .fly T=>[⟨ea,0,.exc hd (some T) d⟩,⟨T,0,.tb none⟩]
 | .held T L=>[⟨ea,0,.exc hd (some T) d⟩,⟨T,0,.tb (some L)⟩]
noncomputable def bD:Md→Prop
 | .fly _=>True
 | _=>False
noncomputable abbrev RT (β α:Type):=Fz→β→α→Prop
noncomputable abbrev Wp (α:Type):=(α→Shared→Prop)→(Value→Shared→Prop)→Shared→Prop
noncomputable abbrev Cx.wp (X:Cx){α:Type}(t:Sem α):Wp α:=λ Q E s=>wpAny X.M X.A t Q E s
noncomputable def fu {b α:Type}(X:Cx)(Φ:Ow)(R:RT b α)(P:Md→Prop)(β:Fz)(Q:α→Shared→Prop)(E:Value→Shared→Prop):aY b→Prop
 | .ok p σ'=>∀ v s' β',At X s' β' σ' Φ→Le β β'→R β' p v→Q v s'
 | .exc c a σ'=>∀ ea d s' md β',P md→At X s' β' σ' (qD X.A.handled ea d md++Φ)→Le β β'→vK d c a β'.B→E (.ref ea) s'
theorem fu.le {b α:Type}{X Φ}{R:RT b α}{P β β₁ Q E}{r:aY b}(k:Le β β₁)(x:fu X Φ R P β Q E r):fu X Φ R P β₁ Q E r:=by
 cases r with
 | ok p σ=>exact λ v s β' a l q=>x v s β' a (k.trans l) q
 | exc c m σ=>exact λ ea d s md β' p a l q=>x ea d s md β' p a (k.trans l) q
noncomputable abbrev Iq:=List (PV×Value)
noncomputable def vI (S:Sy)(β:Fz)(Γ:Iq):Prop:=Γ.foldr (λ q p=>bj S β q.1 q.2∧p) True
theorem vI.mono {S β β'}(k:Le β β'){Γ:Iq}(x:vI S β Γ):vI S β' Γ:=by
 induction Γ with
 | nil=>exact x
 | cons q Γ ih=>exact ⟨x.1.mono k,ih x.2⟩
noncomputable def J {b α:Type}(X:Cx)(Φ:Ow)(Γ:Iq)(W:Wp α)(R:RT b α)(P:Md→Prop)(σ:aa)(r:aY b):Prop :=
 ∀ s β Q E,At X s β σ Φ→vI X.S β Γ→fu X Φ R P β Q E r→W Q E s
theorem J.map {b α:Type}{X Φ Γ}{W W':Wp α}{R:RT b α}{P σ r}(h:J X Φ Γ W R P σ r)(k:∀ Q E s,W Q E s→W' Q E s):J X Φ Γ W' R P σ r:=λ s β Q E a g p=>k Q E s (h s β Q E a g p)
noncomputable def dc {b c:Type}(A:aY b→Prop)(Q:b→aa→aY c→Prop)(r:aY c):Prop:=(∃ x σ,A (.ok x σ)∧Q x σ r)∨∃ k m σ,A (.exc k m σ)∧r=.exc k m σ
theorem J.seq {b c α α':Type}{X Φ Γ}{t:Sem α}{W:α→Wp α'}{R:RT b α}{R':RT c α'}{P σ}{r:aY c}{A:aY b→Prop}{Q:b→aa→aY c→Prop}(h:dc A Q r)(hA:∀ r,A r→J X Φ Γ (X.wp t) R P σ r)
  (hQ:∀ x σ₁,Q x σ₁ r→∀ a s β Q E,At X s β σ₁ Φ→vI X.S β Γ→R β x a→fu X Φ R' P β Q E r→W a Q E s):J X Φ Γ (λ Q E s=>wpAny X.M X.A t (λ a s₁=>W a Q E s₁) E s) R' P σ r :=
 λ s β Q E a g p=>h.elim (λ h=>h.elim λ x h=>h.elim λ σ₁ h=>hA _ h.1 s β _ E a g λ v s₁ β₁ a₁ l q=>hQ x σ₁ h.2 v s₁ β₁ Q E a₁ (g.mono l) q (p.le l))
  λ h=>h.elim λ k h=>h.elim λ m h=>h.elim λ σ₁ h=>hA _ h.1 s β _ E a g (show fu X Φ R' P β Q E (.exc k m σ₁) from ri h.2 p)
theorem J.seqV {c α':Type}{X Φ Γ}{t:Sem Value}{W:Value→Wp α'}{R':RT c α'}{P σ}{r:aY c}{A:aY PV→Prop}{Q:PV→aa→aY c→Prop}(h:dc A Q r)(hA:∀ r,A r→J X Φ Γ (X.wp t) (bj X.S) P σ r)
  (hQ:∀ x σ₁,Q x σ₁ r→∀ a,J X Φ ((x,a)::Γ) (W a) R' P σ₁ r):J X Φ Γ (λ Q E s=>wpAny X.M X.A t (λ a s₁=>W a Q E s₁) E s) R' P σ r :=
 J.seq h hA λ x σ₁ q a s β Q E at' g rx p=>hQ x σ₁ q a s β Q E at' ⟨rx,g⟩ p
theorem aQ {b c:Type}{f:KV b}{ρ σ os}{K:KO c}{k:b→aa→List OV→Prop}{A:aY b→Prop}{Q:b→aa→aY c→Prop}(hf:∀ os K,(∀ r os,A r→K r os)→f ρ σ os K)(hK:∀ r os,dc A Q r→K r os)
  (hk:∀ x σ₁ os,(∀ r os,Q x σ₁ r→K r os)→k x σ₁ os):th f ρ σ os K k:=hf os _ λ r os ha=>by
 cases r with
 | ok x σ₁=>exact hk x σ₁ os λ r os q=>hK r os (.inl ⟨x,σ₁,ha,q⟩)
 | exc c m σ₁=>exact hK _ os (.inr ⟨c,m,σ₁,ha,rfl⟩)
end
noncomputable section
theorem Fs {M:Model}{A:Around}{E:Value→Shared→Prop}{s:Shared}{α:Type}{c:Prop}[Decidable c]{a b:Sem α}{Q:α→Shared→Prop}(h:¬ c)(k:PySem.wpAny M A b Q E s):PySem.wpAny M A (if c then a else b) Q E s:=by refine ru (if_neg h) ?_;exact k
theorem K6 {M:Model}{A:Around}{E:Value→Shared→Prop}{s:Shared}{α:Type}{c:Prop}[Decidable c]{a b:Sem α}{Q:α→Shared→Prop}(h:c)(k:PySem.wpAny M A a Q E s):PySem.wpAny M A (if c then a else b) Q E s:=by refine ru (if_pos h) ?_;exact k
theorem bI {a b:Bool}(h:PV.bool a=.bool b):a=b:=by cases h;rfl
theorem tI {a b:List PV}(h:PV.tup a=.tup b):a=b:=by cases h;rfl
section
variable {motive:Expr→Prop} (e:Expr)
theorem ff {G:Prop}(h:false=true):G:=rh h
theorem aj {a b:Bool}(h:(a&&b)=true):a=true:=(N4.mp h).1
theorem aE {a b:Bool}(h:(a&&b)=true):b=true:=(N4.mp h).2
theorem an {a b:Bool}(h:(a&&b)=true):a=true∧b=true:=N4.mp h
@[elab_as_elim] theorem jA {k}(h:uE e k=true)(f:∀ c u p,k c=true→motive (.Constant c u p)):motive e:=by revert h;cases e<;>first | exact f _ _ _ | exact λ (h:false=true)=>ff h
@[elab_as_elim] theorem cj {k}(h:eQ e k=true)(f:∀ x p,k x=true→motive (.Name x p)):motive e:=by revert h;cases e<;>first | exact f _ _ | exact λ (h:false=true)=>ff h
@[elab_as_elim] theorem AN {k}(h:G1 e k=true)(f:∀ l o r p,k l o r=true→motive (.BinOp l o r p)):motive e:=by revert h;cases e<;>first | exact f _ _ _ _ | exact λ (h:false=true)=>ff h
@[elab_as_elim] theorem Fk {k}(h:L0 e k=true)(f:∀ o x p,k o x=true→motive (.UnaryOp o x p)):motive e:=by revert h;cases e<;>first | exact f _ _ _ | exact λ (h:false=true)=>ff h
@[elab_as_elim] theorem Fl {k}(h:L5 e k=true)(f:∀ t b c p,k t b c=true→motive (.IfExp t b c p)):motive e:=by revert h;cases e<;>first | exact f _ _ _ _ | exact λ (h:false=true)=>ff h
@[elab_as_elim] theorem AL {k}(h:G0 e k=true)(f:∀ l o r p,k l o r=true→motive (.Compare l o r p)):motive e:=by revert h;cases e<;>first | exact f _ _ _ _ | exact λ (h:false=true)=>ff h
@[elab_as_elim] theorem jB {k}(h:o6 e k=true)(f:∀ v x p,k v x p=true→motive (.Attribute v x p)):motive e:=by revert h;cases e<;>first | exact f _ _ _ | exact λ (h:false=true)=>ff h
@[elab_as_elim] theorem uC {k}(h:Dv e k=true)(f:∀ v i p,k v i=true→motive (.Subscript v i p)):motive e:=by revert h;cases e<;>first | exact f _ _ _ | exact λ (h:false=true)=>ff h
@[elab_as_elim] theorem GV {k}(h:Jm e k=true)(f:∀ es u p,k es=true→motive (.Tuple es u p)):motive e:=by revert h;cases e<;>first | exact f _ _ _ | exact λ (h:false=true)=>ff h
@[elab_as_elim] theorem uD {k}(h:Dw e k=true)(f:∀ es p,k es=true→motive (.List es p)):motive e:=by revert h;cases e<;>first | exact f _ _ | exact λ (h:false=true)=>ff h
@[elab_as_elim] theorem qj {k}(h:wu e k=true)(f:∀ ks vs p,k ks vs=true→motive (.Dict ks vs p)):motive e:=by revert h;cases e<;>first | exact f _ _ _ | exact λ (h:false=true)=>ff h
@[elab_as_elim] theorem AF {k}(h:AG e k=true)(f:∀ l u p,k l u=true→motive (.Slice l u none p)):motive e:=by
 revert h
 cases e with
 | Slice l u s p=>cases s with
  | none=>exact f _ _ _
  | some=>exact λ (h:false=true)=>ff h
 | _=>exact λ (h:false=true)=>ff h
@[elab_as_elim] theorem fY {k}(h:lx e k=true)(f:∀ g as p,k g as p=true→motive (.Call g as [] p)):motive e:=by
 revert h
 cases e with
 | Call g as kw p=>cases kw with
  | nil=>exact f _ _ _
  | cons=>exact λ (h:false=true)=>ff h
 | _=>exact λ (h:false=true)=>ff h
@[elab_as_elim] theorem qk {k}(h:AM e k=true)(f:∀ o x y r p,k o x y r p=true→motive (.BoolOp o (x::y::r) p)):motive e:=by
 revert h
 cases e with
 | BoolOp o l p=>cases l with
  | nil=>exact λ (h:false=true)=>ff h
  | cons x l=>cases l with
   | nil=>exact λ (h:false=true)=>ff h
   | cons y r=>exact f _ _ _ _ _
 | _=>exact λ (h:false=true)=>ff h
@[elab_as_elim] theorem Dy {k}(h:Fo e k=true)(f:∀ el g sc p,k el g sc=true→motive (.ListComp el [g] sc p)):motive e:=by
 revert h
 cases e with
 | ListComp el l sc p=>cases l with
  | nil=>exact λ (h:false=true)=>ff h
  | cons x l=>cases l with
   | nil=>exact f _ _ _ _
   | cons=>exact λ (h:false=true)=>ff h
 | _=>exact λ (h:false=true)=>ff h
theorem Dl (h:Fc e=true)(env:Env)(whole:Sem Value):isTrue e env whole=(do let v ← whole;standAt e.pos;holding [v] (truthy v)):=by
 revert h;cases e<;>first | exact λ (h:false=true)=>ff h | exact λ Z9=>rfl
end
noncomputable def RB:RT PV Bool:=λ Z9 p b=>p=.bool b
noncomputable def RL (S:Sy):RT PV (List Value):=λ β p vs=>∃ ps,p=.tup ps∧RepL S β ps vs
noncomputable def Nf (n:Nat)(ir:IE)(ρ:am)(σ:aa)(r:aY PV):Prop:=∀ X e Φ,lq X→X.d=n→(rel ir X.ce).v e=true→Cr X ρ Φ→J X Φ [] (X.wp (eval e X.env)) (bj X.S) bD σ r
noncomputable def Nh (n:Nat)(ir:IE)(ρ:am)(σ:aa)(r:aY PV):Prop:=∀ X e Φ,lq X→X.d=n→(rel ir X.ce).b e=true→Cr X ρ Φ→J X Φ [] (X.wp (isTrue e X.env (eval e X.env))) RB bD σ r
noncomputable def Ng (n:Nat)(ir:IE)(ρ:am)(σ:aa)(r:aY PV):Prop:=∀ X es Φ,lq X→X.d=n→(rel ir X.ce).l es=true→Cr X ρ Φ→∀ pos,J X Φ [] (X.wp (spliced (backTo pos (starEach es X.env)))) (RL X.S) bD σ r
structure Ev (n:Nat) (ir:IE) (ρ:am) (σ:aa) (r:aY PV):Prop where
 v:Nf n ir ρ σ r
 b:Nh n ir ρ σ r
 l:Ng n ir ρ σ r
section
variable {n:Nat} {ρ:am} {σ:aa} {r:aY PV}
theorem Ev.ofV {ir:IE}(hb:∀ E e,(rel ir E).b e=false)(hl:∀ E e,(rel ir E).l e=false)(h:Nf n ir ρ σ r):Ev n ir ρ σ r :=
 ⟨h,λ X e Z9 Z9 Z9 q=>ff ((hb X.ce e).symm.trans q),λ X e Z9 Z9 Z9 q=>ff ((hl X.ce e).symm.trans q)⟩
theorem Ev.ofB {ir:IE}(hb:∀ E e,(rel ir E).v e=false)(hl:∀ E e,(rel ir E).l e=false)(h:Nh n ir ρ σ r):Ev n ir ρ σ r :=
 ⟨λ X e Z9 Z9 Z9 q=>ff ((hb X.ce e).symm.trans q),h,λ X e Z9 Z9 Z9 q=>ff ((hl X.ce e).symm.trans q)⟩
theorem Ev.ofL {ir:IE}(hb:∀ E e,(rel ir E).v e=false)(hl:∀ E e,(rel ir E).b e=false)(h:Ng n ir ρ σ r):Ev n ir ρ σ r :=
 ⟨λ X e Z9 Z9 Z9 q=>ff ((hb X.ce e).symm.trans q),λ X e Z9 Z9 Z9 q=>ff ((hl X.ce e).symm.trans q),h⟩
theorem J.wk {b α:Type}{X Φ Γ}{W:Wp α}{R:RT b α}{P σ}{r:aY b}(h:J X Φ [] W R P σ r):J X Φ Γ W R P σ r:=λ s β Q E a Z9 p=>h s β Q E a trivial p
noncomputable def Lf (Γ:Iq)(t:Sem Value)(σ:aa)(r:aY PV):Prop:=∀ X Φ P,lq X→J X Φ Γ (X.wp t) (bj X.S) P σ r
theorem At.ns {X:Cx}{s:Shared}{β σ Φ}(a:At X s β σ Φ):X.B0.StaysIn s.heap:=λ b o e=>a.2.st b o (a.2.top b o e)
theorem dI {v:PV}:Ev n (.c v) ρ σ (.ok v σ):=.ofV (λ Z9 Z9=>rfl) (λ Z9 Z9=>rfl) λ X e Φ fx d h vis=>jA e h λ c u p h s β Q E a g po=>by
 replace h:=beq_iff_eq.mp h
 show wpAny _ _ (constValue X.env c) _ _ _
 cases v with
 | none=>exact ru (Option.some.inj h) (wpAny_pure (po _ _ β a .rfl' rfl))
 | bool b=>exact ru (Option.some.inj h) (wpAny_pure (po _ _ β a .rfl' rfl))
 | int i=>exact ru (Option.some.inj h) (wpAny_mkInt (po _ _ β a .rfl' ⟨_,rfl⟩))
 | str x =>
  replace h:some c=if wc x=true then some (Const.str (aG x)) else none:=h
  by_cases q:wc x=true
  ·exact ru (Option.some.inj (h.trans (if_pos q))) (wpAny_mkText (po _ _ β a .rfl' ⟨⟨N1 (of_decide_eq_true (aj q)) (by decide),λ c m=>of_decide_eq_true (O2.mp (aE q) c m)⟩,_,rfl⟩))
  ·exact Jf (h.trans (if_neg q))
 | _=>exact Jf h
theorem ww {X:Cx}{Φ:Ow}{Γ:Iq}{P}{x:Str}{i:Nat}{v:PV}(fx:lq X)(vis:Cr X ρ Φ)(h:X.ce.isVar x i=true)(hv:cT ρ i=some v):J X Φ Γ (X.wp (loadName X.env x)) (bj X.S) P σ (.ok v σ):=λ s β Q E a g po=>by
 have w:=vis.var i x v (beq_iff_eq.mp (aE (aj h))) hv
 unfold KQ at w
 rcases P5.mp (aj (aj h)) with hk | hk
 ·have hk:X.env.kindOf x=some .local:=beq_iff_eq.mp hk
  rw [hk] at w
  obtain ⟨k,vs,m,q⟩:=w
  obtain ⟨o,e,mp,on,va⟩:=(a.2.own _ m).up
  obtain ⟨w,e1,e2⟩:=va _ q
  exact wpAny_loadName_local fx.kind hk (on _ e) e1 (po _ _ β a .rfl' e2)
 ·have hk:X.env.kindOf x=some .cell:=beq_iff_eq.mp hk
  rw [hk] at w
  obtain ⟨c,k,vs,el,m,q⟩:=w
  obtain ⟨o,e,mp,on,va⟩:=(a.2.own _ m).up
  obtain ⟨w,e1,e2⟩:=va _ q
  exact wpAny_loadName_cell fx.kind hk el (ri e1 (on _ e)) (po _ _ β a .rfl' e2)
theorem dG {i:Nat}{v:PV}(hv:cT ρ i=some v):Ev n (.v i) ρ σ (.ok v σ):=.ofV (λ Z9 Z9=>rfl) (λ Z9 Z9=>rfl) λ X e Φ fx d h vis=>cj e h λ x p h=>(ww fx vis h hv).map λ Z9 Z9 Z9 q=>wpAny_Name q (by simpa using (aE h))
theorem CE.isGlob_e {X:Cx}{x:Str}(h:X.ce.isGlob x=true):X.env.kindOf x=some .globalImplicit∧(x==("__debug__":Str))=false:=⟨beq_iff_eq.mp (aj h),by simpa using (aE h)⟩
theorem u7 {i:Nat}{v:PV}(hv:kZ i=some v):Ev n (.g i) ρ σ (.ok v σ):=.ofV (λ Z9 Z9=>rfl) (λ Z9 Z9=>rfl) λ X e Φ fx d h vis=>cj e h λ x p h s β Q E a g po =>
 (fx.top.gv x i (beq_iff_eq.mp (aE h))).elim λ p w=>w.elim λ v w=>Name_function_global fx.kind (CE.isGlob_e (aj h)).1 (loadGlobal_global (ru fx.glob (fx.top.g.keeps a.ns)) w.2.1 (po _ _ β a .rfl' (ri (Option.some.inj (w.1.symm.trans hv)) (w.2.2.mono ⟨a.2.top,List.nil_prefix⟩)))) (CE.isGlob_e (aj h)).2
noncomputable def de (o:Operator)(x y:PV)(σ:aa)(r:aY PV):Prop:=∀ va vb,Lf [(y,vb),(x,va)] (binaryOp o va vb) σ r
theorem u8 {o:Operator}{a b:IE}(k:dc (Ev n a ρ σ) (λ x σ₁=>dc (Ev n b ρ σ₁) λ y σ₂=>de o x y σ₂) r):Ev n (.bin o a b) ρ σ r:=.ofV (λ Z9 Z9=>rfl) (λ Z9 Z9=>rfl) λ X e Φ fx d h vis=>AN e h λ l o' r p h =>
 have h1:=an (aj h)
 ru (beq_iff_eq.mp h1.1) ((J.seqV k (λ Z9 ha=>ha.v X l Φ fx d h1.2 vis) λ x σ₁ k va=>J.seqV k (λ Z9 hb=>(hb.v X r Φ fx d (aE h) vis).wk) λ y σ₂ k vb=>k va vb X Φ _ fx).map λ Z9 Z9 Z9=>wpAny_BinOp)
theorem Ei {a b:IE}(k:dc (Ev n a ρ σ) (λ x σ₁=>dc (Ev n b ρ σ₁) λ y σ₂=>de .Add x y σ₂) r):Ev n (.addl a b) ρ σ r:=.ofV (λ Z9 Z9=>rfl) (λ Z9 Z9=>rfl) λ X e Φ fx d h vis=>AN e h λ l o' r p h =>
 have h1:=an (aj h)
 ru (beq_iff_eq.mp h1.1) ((J.seqV k (λ Z9 ha=>ha.v X l Φ fx d h1.2 vis) λ x σ₁ k va=>J.seqV k (λ Z9 hb=>(hb.v X r Φ fx d (aE h) vis).wk) λ y σ₂ k vb=>k va vb X Φ _ fx).map λ Z9 Z9 Z9=>wpAny_BinOp)
theorem HE {a:IE}(k:dc (Ev n a ρ σ) (λ x σ₁ r=>∃ i,x=.int i∧r=.ok (.int (-i)) σ₁) r):Ev n (.neg a) ρ σ r:=.ofV (λ Z9 Z9=>rfl) (λ Z9 Z9=>rfl) λ X e Φ fx d h vis=>Fk e h λ o x p h =>
 beq_iff_eq.mp (aj h)▸(J.seqV k (λ Z9 ha=>ha.v X x Φ fx d (aE h) vis) λ x σ₁ k va s β Q E a g po=>by
  obtain ⟨i,rfl,rfl⟩:=k
  obtain ⟨t,rfl⟩:=g.1
  exact P.neg_int (po _ _ β a .rfl' ⟨_,rfl⟩)).map λ Z9 Z9 Z9=>wpAny_UnaryOp
noncomputable def QB {b:Type}(T F:aY b→Prop)(x:PV)(r:aY b):Prop:=x=.bool true∧T r∨x=.bool false∧F r
theorem QB.el {b:Type}{T F:aY b→Prop}{c:Bool}{r:aY b}(q:QB T F (.bool c) r):if c=true then T r else F r:=by
 rcases q with ⟨e,q⟩ | ⟨e,q⟩<;>cases e<;>exact q
theorem w3 {a:IE}(k:dc (Ev n a ρ σ) (λ x σ₁=>QB (·=.ok (.bool false) σ₁) (·=.ok (.bool true) σ₁) x) r):Ev n (.nott a) ρ σ r:=.ofB (λ Z9 Z9=>rfl) (λ Z9 Z9=>rfl) λ X e Φ fx d h vis=>Fk e h λ o x p h =>
 beq_iff_eq.mp (aj h)▸(J.seq k (W:=λ c Q E s=>Q (!c) s) (λ Z9 ha=>ha.b X x Φ fx d (aE h) vis) λ x σ₁ k va s β Q E a g rx po=>by
  cases rx
  cases va<;>(cases k.el;exact po _ _ β a .rfl' rfl)).map λ Z9 Z9 Z9=>isTrue_not
theorem DO {α b:Type}{X Φ Γ}{t:Sem Bool}{W1 W2:Wp α}{R:RT b α}{P σ}{r:aY b}{A:aY PV→Prop}{T F:aa→aY b→Prop}(k:dc A (λ x σ₁=>QB (T σ₁) (F σ₁) x) r)(hA:∀ r,A r→J X Φ Γ (X.wp t) RB P σ r)
  (h1:∀ σ₁,T σ₁ r→J X Φ Γ W1 R P σ₁ r) (h2:∀ σ₁,F σ₁ r→J X Φ Γ W2 R P σ₁ r):J X Φ Γ (λ Q E s=>wpAny X.M X.A t (λ c s₁=>if c=true then W1 Q E s₁ else W2 Q E s₁) E s) R P σ r :=
 J.seq k (W:=λ c Q E s=>if c=true then W1 Q E s else W2 Q E s) hA λ x σ₁ k va s β Q E a g rx po=>by
  cases rx
  cases va
  ·exact h2 _ k.el s β Q E a g po
  ·exact h1 _ k.el s β Q E a g po
theorem Fq {X Φ Γ}{W:Wp Bool}{P σ b r}(h:r=.ok (.bool b) σ)(k:∀ Q E s,Q b s→W Q E s):J X Φ Γ W RB P σ r:=λ s β Q E a g po=>k Q E s ((show fu X Φ RB P β Q E (.ok (.bool b) σ) from ri h po) _ _ β a .rfl' rfl)
theorem MB {X:Cx}{y p env whole Q E s}(h:wpAny X.M X.A (isTrue y env (eval y env)) Q E s):wpAny X.M X.A (isTrue (.BoolOp .And [y] p) env whole) Q E s :=
 isTrue_and (wpAny_mono h (λ c s q=>by cases c;exact q;exact isTrue_and_nil q) λ Z9 Z9 e=>e)
theorem Nv {X:Cx}{y p env whole Q E s}(h:wpAny X.M X.A (isTrue y env (eval y env)) Q E s):wpAny X.M X.A (isTrue (.BoolOp .Or [y] p) env whole) Q E s :=
 isTrue_or (wpAny_mono h (λ c s q=>by cases c;exact isTrue_or_nil q;exact q) λ Z9 Z9 e=>e)
@[elab_as_elim] theorem zY {motive:List Expr→Prop}{p:Expr→Bool}{o:BoolOp}{y:Expr}{q:Pos}(l:List Expr)(h:(match l with | []=>p y | _=>p (.BoolOp o (y::l) q))=true)(f1:p y=true→motive [])(f2:∀ l,p (.BoolOp o (y::l) q)=true→motive l):motive l:=by
 revert h;cases l<;>first | exact f1 | exact f2 _
theorem BQ {a b:IE}(k:dc (Ev n a ρ σ) (λ x σ₁=>QB (Ev n b ρ σ₁) (·=.ok (.bool false) σ₁) x) r):Ev n (.and a b) ρ σ r:=.ofB (λ Z9 Z9=>rfl) (λ Z9 Z9=>rfl) λ X e Φ fx d h vis=>qk e h λ o x y l p h =>
 have h1:=an (aj h)
 beq_iff_eq.mp h1.1▸(DO k (λ Z9 ha=>ha.b X x Φ fx d h1.2 vis) (λ σ₁ hb=>zY (motive:=λ l=>J X Φ [] (λ Q E s=>wpAny X.M X.A (PySem.isTrue (.BoolOp .And (y::l) p) X.env (eval (.BoolOp o (x::y::l) p) X.env)) Q E s) RB bD σ₁ r) l (aE h) (λ h2=>(hb.b X y Φ fx d h2 vis).map λ Z9 Z9 Z9=>MB) λ l h2=>ri (beq_iff_eq.mp h1.1) (hb.b X _ Φ fx d h2 vis)) λ σ₁ hb=>Fq hb λ Z9 Z9 Z9 q=>q).map λ Z9 Z9 Z9=>isTrue_and
theorem FJ {a b:IE}(k:dc (Ev n a ρ σ) (λ x σ₁=>QB (·=.ok (.bool true) σ₁) (Ev n b ρ σ₁) x) r):Ev n (.or a b) ρ σ r:=.ofB (λ Z9 Z9=>rfl) (λ Z9 Z9=>rfl) λ X e Φ fx d h vis=>qk e h λ o x y l p h =>
 have h1:=an (aj h)
 beq_iff_eq.mp h1.1▸(DO k (λ Z9 ha=>ha.b X x Φ fx d h1.2 vis) (λ σ₁ hb=>Fq hb λ Z9 Z9 Z9 q=>q) λ σ₁ hb=>zY (motive:=λ l=>J X Φ [] (λ Q E s=>wpAny X.M X.A (PySem.isTrue (.BoolOp .Or (y::l) p) X.env (eval (.BoolOp o (x::y::l) p) X.env)) Q E s) RB bD σ₁ r) l (aE h) (λ h2=>(hb.b X y Φ fx d h2 vis).map λ Z9 Z9 Z9=>Nv) λ l h2=>ri (beq_iff_eq.mp h1.1) (hb.b X _ Φ fx d h2 vis)).map λ Z9 Z9 Z9=>isTrue_or
theorem dU {c a b:IE}(k:dc (Ev n c ρ σ) (λ x σ₁=>QB (Ev n a ρ σ₁) (Ev n b ρ σ₁) x) r):Ev n (.ite c a b) ρ σ r :=
 ⟨λ X e Φ fx d h vis=>Fl e h λ t y z p h=>(DO k (λ Z9 ha=>ha.b X t Φ fx d (aj (aj h)) vis) (λ Z9 ha=>ha.v X y Φ fx d (aE (aj h)) vis) λ Z9 ha=>ha.v X z Φ fx d (aE h) vis).map λ Z9 Z9 Z9=>wpAny_IfExp,
  λ X e Φ fx d h vis=>Fl e h λ t y z p h=>(DO k (λ Z9 ha=>ha.b X t Φ fx d (aj (aj h)) vis) (λ Z9 ha=>ha.b X y Φ fx d (aE (aj h)) vis) λ Z9 ha=>ha.b X z Φ fx d (aE h) vis).map λ Z9 Z9 Z9=>isTrue_IfExp,
  λ X e Φ fx d h=>ff h⟩
noncomputable def KR (x:PV)(σ:aa)(b:Bool):Prop:=∀ va X Φ P,lq X→J X Φ [(x,va)] (X.wp (truthy va)) RB P σ (.ok (.bool b) σ)
noncomputable def gi (o:CmpOp)(x y:PV)(σ:aa)(b:Bool):Prop:=∀ va vb,Lf [(y,vb),(x,va)] (compareOp o va vb) σ (.ok (.bool b) σ)
theorem qF {a:IE}(k:dc (Ev n a ρ σ) (λ x σ₁ r=>∃ b,KR x σ₁ b∧r=.ok (.bool b) σ₁) r):Ev n (.tru a) ρ σ r:=.ofB (λ Z9 Z9=>rfl) (λ Z9 Z9=>rfl) λ X e Φ fx d h vis =>
 (J.seqV k (λ Z9 ha=>ha.v X e Φ fx d (aE h) vis) λ x σ₁ k va=>k.elim λ b k=>ru k.2 (k.1 va X Φ _ fx)).map λ Z9 Z9 Z9 q=>isTrue_plain q (Dl e (aj h) _ _)
theorem gi.t {o x y σ b X Φ Γ P va vb}(h:gi o x y σ b)(fx:lq X):J X Φ ((y,vb)::(x,va)::Γ) (λ Q E s=>wpAny X.M X.A (compareOp o va vb) (λ c s₁=>wpAny X.M X.A (truthy c) Q E s₁) E s) RB P σ (.ok (.bool b) σ) :=
 λ s β Q E a g po=>h va vb X Φ P fx s β _ E a ⟨g.1,g.2.1,trivial⟩ λ v s' β' a' l rv=>ru (show v=.bool b from rv) (wpAny_truthy_bool (po _ _ β' a' l rfl))
@[elab_as_elim] theorem FS {motive:Expr→Prop}{o:CmpOp}{a b:IE}{E:CE}(e:Expr)(h:(rel (.cmp o a b) E).v e=true)(f:∀ l r p,behindInMarks o r=false→(rel a E).v l=true→(rel b E).v r=true→motive (.Compare l [o] [r] p)):motive e:=AL e h λ l os rs p h=>by
 cases os with
 | nil=>exact ff h
 | cons o' os=>cases os with
  | cons=>exact ff h
  | nil=>cases rs with
   | nil=>exact ff h
   | cons r' rs=>cases rs with
    | cons=>exact ff h
    | nil =>
     exact beq_iff_eq.mp (aj (aj (aj h)))▸f l r' p (beq_iff_eq.mp (aj (aj (aj h)))▸(ri (U2 _) (aE (aj (aj h))))) (aE (aj h)) (aE h)
theorem gS {o:CmpOp}{a b:IE}(k:dc (Ev n a ρ σ) (λ x σ₁=>dc (Ev n b ρ σ₁) λ y σ₂ r=>∃ q,gi o x y σ₂ q∧r=.ok (.bool q) σ₂) r):Ev n (.cmp o a b) ρ σ r :=
 ⟨λ X e Φ fx d h vis=>FS e h λ l r p hm h1 h2=>(J.seqV k (λ Z9 ha=>ha.v X l Φ fx d h1 vis) λ x σ₁ k va=>J.seqV k (λ Z9 hb=>(hb.v X r Φ fx d h2 vis).wk) λ y σ₂ k vb=>k.elim λ q k=>ru k.2 (k.1 va vb X Φ _ fx)).map λ Z9 Z9 Z9 q=>wpAny_Compare1 q hm,
  λ X e Φ fx d h vis=>FS e h λ l r p hm h1 h2=>(J.seqV k (λ Z9 ha=>ha.v X l Φ fx d h1 vis) λ x σ₁ k va=>J.seqV k (λ Z9 hb=>(hb.v X r Φ fx d h2 vis).wk) λ y σ₂ k vb=>k.elim λ q k=>ru k.2 (k.1.t fx)).map λ Z9 Z9 Z9 q=>wpAny_isTrue_Compare1 q hm,
  λ X e Φ fx d h=>ff h⟩
end
end
noncomputable section
section
variable {n:Nat} {ρ:am} {σ:aa} {r:aY PV}
section
variable {prog:Program} {w:World} {A:Around} {E:Value→Shared→Prop} {s:Shared}
theorem HY {env:Env}{m r:Expr}{o o':CmpOp}{va:Value}{pos:Pos}{Q:Bool→Shared→Prop}(h:wpAny (model prog w) A (eval m env) (λ rv s=>wpAny (model prog w) A (compareOp o va rv) (λ c s=>wpAny (model prog w) A (truthy c) (λ b s=>if b=true then
   wpAny (model prog w) A (eval r env) (λ z s=>wpAny (model prog w) A (compareOp o' rv z) (λ c s=>wpAny (model prog w) A (truthy c) Q E s) E s) E s else Q false s) E s) E s) E s) :
  wpAny (model prog w) A (testChain pos va [o,o'] [eval m env,eval r env]) Q E s:=by
 show wpAny _ _ (do
  let rv ← holding [va] (eval m env)
  standAt pos
  let c ← holding [va,rv] (compareOp o va rv)
  release [va,rv] [c]
  if ← holding [c,rv] (truthy c) then testChain pos rv [o'] [eval r env] else pure false) _ _ s
 refine wpAny_bind (wpAny_holding (wpAny_mono h (λ rv s h=>wpAny_bind (wpAny_standAt (wpAny_bind (wpAny_holding (wpAny_mono h (λ c s h=>wpAny_bind (wpAny_release' (wpAny_bind (wpAny_holding (wpAny_mono h (λ b s h=>?_) λ Z9 Z9 e=>e))))) λ Z9 Z9 e=>e))))) λ Z9 Z9 e=>e))
 cases b
 ·exact wpAny_pure h
 ·show wpAny _ _ (do
   let z ← holding [rv] (eval r env)
   standAt pos
   let c ← operate [rv,z] (compareOp o' rv z)
   holding [c] (truthy c)) _ _ s
  exact wpAny_bind (wpAny_holding (wpAny_mono h (λ z s h=>wpAny_bind (wpAny_standAt (wpAny_bind (wpAny_operating (wpAny_mono h (λ c s h=>wpAny_holding h) λ Z9 Z9 e=>e))))) λ Z9 Z9 e=>e))
theorem Lw (slice:Expr)(o i:Value):∃ vs,subscripted slice false o i=operate vs (getItem o i):=by
 cases slice with
 | Slice a b c p=>cases c<;>exact ⟨_,rfl⟩
 | _=>exact ⟨_,rfl⟩
theorem zA {value slice:Expr}{o i:Value}{Q:Value→Shared→Prop}(h:ItemOn (model prog w) A E o i Q s):wpAny (model prog w) A (subscriptTail value slice o i) Q E s:=by
 refine h.elim λ T w1z=>w1z.elim λ id w2z=>w2z.elim λ hl w3z=>w3z.elim λ hT hg=>?_
 refine wpAny_bind ?_
 refine ru (getitemInPython_of_ne hT.not_modules) ?_
 refine wpAny_bind (wpAny_specialOf hT hl ?_)
 have gA:wpAny (model prog w) A (subscripted slice false o i) (λ r s₃=>wpAny (model prog w) A (letTemporaryGo value o r >>= λ Z9=>pure r) Q E s₃) E s :=
  (Lw slice o i).elim λ vs e=>ru e (wpAny_operating (wpAny_mono hg (λ r s₃ h₃=>wpAny_bind (wpAny_letTemporaryGo (wpAny_pure h₃))) λ Z9 Z9 x=>x))
 first
  | exact wpAny_pure (wpAny_bind gA)
  | exact wpAny_bind (wpAny_pure (wpAny_bind gA))
  | exact wpAny_bind gA
theorem km {e:Expr}{env:Env}(h:bR e=true)(r:List Expr):starEach (e::r) env=(false,eval e env)::starEach r env:=by
 revert h;cases e<;>first | exact λ Z9=>rfl | exact λ (h:false=true)=>ff h
theorem zJ {e:Expr}{env:Env}(h:bR e=true):starEach [e] env=[(false,eval e env)]:=km h []
theorem IR {e f:Expr}{env:Env}(h:bR e=true)(h':bR f=true):starEach [e,f] env=[(false,eval e env),(false,eval f env)]:=(km h [f]).trans (congrArg _ (zJ h'))
theorem qX {o:Expr}{attr:Str}{env:Env}{m:Sem Value}(h:m9 o=true):attributeBase o attr env m=m:=by
 revert h
 cases o with
 | Call f as kw p=>cases f with
  | Name=>cases as with
   | nil=>cases kw with
    | nil=>exact λ (h:false=true)=>ff h
    | cons=>exact λ Z9=>rfl
   | cons=>exact λ Z9=>rfl
  | _=>exact λ Z9=>rfl
 | _=>exact λ Z9=>rfl
theorem EC {f:Value}{pos:Pos}{x:Sem Value}{Q:Value→Shared→Prop}(hf:(∃ id,f=.builtin id)∨∃ T,f=.type T)(h:wpAny (model prog w) A x (λ v s₁=>wpAny (model prog w) A (call f [v]) Q E s₁) E s):wpAny (model prog w) A (callWith pos f [] [(false,x)] []) Q E s :=
 hf.elim (λ ⟨id,e⟩=>e▸callWith_builtin rfl (evalArgs_plain (spliced_cons (wpAny_mono h (λ v s₁ h₁=>spliced_nil (ri e h₁)) λ Z9 Z9 e=>e))))
  λ ⟨T,e⟩=>e▸PyProof.Rows.callWith_type rfl (evalArgs_plain (spliced_cons (wpAny_mono h (λ v s₁ h₁=>spliced_nil (ri e h₁)) λ Z9 Z9 e=>e)))
theorem H1 {id:String}{ov:Value}{pos:Pos}{Q:Value→Shared→Prop}(h:wpAny (model prog w) A (call (.builtin id) [ov]) Q E s):wpAny (model prog w) A (callWith pos (.builtin id) [ov] [] []) Q E s:=callWith_builtin rfl (evalArgs_nil3 h)
theorem H0 {id:String}{ov:Value}{pos:Pos}{x:Sem Value}{Q:Value→Shared→Prop}(h:wpAny (model prog w) A x (λ v s₁=>wpAny (model prog w) A (call (.builtin id) [ov,v]) Q E s₁) E s):wpAny (model prog w) A (callWith pos (.builtin id) [ov] [(false,x)] []) Q E s :=
 callWith_builtin rfl (evalArgs_plain (spliced_cons (wpAny_mono h (λ v s₁ h₁=>spliced_nil h₁) λ Z9 Z9 e=>e)))
theorem HZ {id:String}{ov:Value}{pos:Pos}{x y:Sem Value}{Q:Value→Shared→Prop}(h:wpAny (model prog w) A x (λ v s₁=>wpAny (model prog w) A y (λ u s₂=>wpAny (model prog w) A (call (.builtin id) [ov,v,u]) Q E s₂) E s₁) E s):wpAny (model prog w) A (callWith pos (.builtin id) [ov] [(false,x),(false,y)] []) Q E s :=
 callWith_builtin rfl (evalArgs_plain (spliced_cons (wpAny_mono h (λ v s₁ h₁=>spliced_cons (wpAny_mono h₁ (λ u s₂ h₂=>spliced_nil h₂) λ Z9 Z9 e=>e)) λ Z9 Z9 e=>e)))
end
@[elab_as_elim] theorem HV {motive:Expr→Prop}{o o':CmpOp}{a b c:IE}{E:CE}(e:Expr)(h:(rel (.cmp2 o o' a b c) E).b e=true)(f:∀ l m r p,lastMarks [o,o'] [m,r]=false→(rel a E).v l=true→(rel b E).v m=true→(rel c E).v r=true→motive (.Compare l [o,o'] [m,r] p)):motive e:=AL e h λ l os rs p h =>
 match os,rs,h with
 | [p1,p2],[m,r'],h =>
  have h5:=an (aj (aj (aj (aj h))))
  have e1:p1=o:=beq_iff_eq.mp h5.1
  e1▸(beq_iff_eq.mp h5.2:p2=o')▸f l m r' p (e1▸(beq_iff_eq.mp h5.2:p2=o')▸(ri (U2 _) (aE (aj (aj (aj h)))))) (aE (aj (aj h))) (aE (aj h)) (aE h)
 | [],_,h=>ff h
 | [_],_,h=>ff h
 | _::_::_::_,_,h=>ff h
 | [_,_],[],h=>ff h
 | [_,_],[_],h=>ff h
 | [_,_],_::_::_::_,h=>ff h
theorem w6 {o o':CmpOp}{a b c:IE}(k:dc (Ev n a ρ σ) (λ x σ₁=>dc (Ev n b ρ σ₁) λ y σ₂ r=>∃ q,gi o x y σ₂ q∧QB (dc (Ev n c ρ σ₂) λ z σ₃ r=>∃ q,gi o' y z σ₃ q∧r=.ok (.bool q) σ₃) (·=.ok (.bool false) σ₂) (.bool q) r) r):Ev n (.cmp2 o o' a b c) ρ σ r:=.ofB (λ Z9 Z9=>rfl) (λ Z9 Z9=>rfl) λ X e Φ fx d h vis=>HV e h λ l m r' p hm h1 h2 h3 =>
 (J.seqV k (λ Z9 ha=>ha.v X l Φ fx d h1 vis) λ x σ₁ k1 va=>(J.seqV k1 (λ Z9 hb=>(hb.v X m Φ fx d h2 vis).wk) λ y σ₂ k2 vb s β Q E a g po=>k2.elim λ q k3=>k3.1.t (P:=bD) fx s β _ E a g λ w s' β' a' l' rb=>by
  rcases k3.2 with ⟨e,k4⟩ | ⟨e,k4⟩<;>cases (bI rb).symm.trans (bI e)
  ·exact (J.seqV (R':=RB) k4 (λ Z9 hc=>(hc.v X r' Φ fx d h3 vis).wk) λ z σ₃ k5 vz=>k5.elim λ q k=>ru k.2 (k.1.t fx)) s' β' Q E a' (g.mono l') (po.le l')
  ·exact (show fu X Φ RB bD β Q E (.ok (.bool false) σ₂) from ri k4 po) _ _ β' a' l' rfl).map λ Z9 Z9 Z9=>HY).map λ Z9 Z9 Z9 q=>isTrue_chain q hm
noncomputable def tY (x y:PV)(σ:aa)(v:PV):Prop:=∀ va vb X Φ P,lq X→J X Φ [(y,vb),(x,va)] (λ Q E s=>ItemOn X.M X.A E va vb Q s) (bj X.S) P σ (.ok v σ)
theorem i9 {a i:IE}(k:dc (Ev n a ρ σ) (λ x σ₁=>dc (Ev n i ρ σ₁) λ y σ₂ r=>∃ v,tY x y σ₂ v∧r=.ok v σ₂) r):Ev n (.idx a i) ρ σ r:=.ofV (λ Z9 Z9=>rfl) (λ Z9 Z9=>rfl) λ X e Φ fx d h vis=>uC e h λ v j p h =>
 (J.seqV k (λ Z9 ha=>ha.v X v Φ fx d (aj h) vis) λ x σ₁ k va=>J.seqV k (λ Z9 hb=>(hb.v X j Φ fx d (aE h) vis).wk) λ y σ₂ k vb=>k.elim λ q k=>ru k.2 ((k.1 va vb X Φ bD fx).map λ Z9 Z9 Z9=>zA)).map λ Z9 Z9 Z9=>Subscript_
theorem GF {X:Cx}{f:Value}{args:List Expr}{env:Env}{pos:Pos}{Q:Args→Shared→Prop}{E s}(hs:args=[]∨∃ e r,args=e::r∧bR e=true)(h:wpAny X.M X.A (spliced (backTo pos (starEach args env))) (λ vs s'=>Q ⟨vs,[]⟩ s') E s):wpAny X.M X.A (evalArgs f true (backTo pos (starEach args env)) []) Q E s:=by
 rcases hs with rfl | ⟨e,r,rfl,hs⟩
 ·exact wpAny_bind (wpAny_mono h (λ vs s h=>wpAny_bind (wpAny_pure (wpAny_holding (wpAny_bind (wpAny_pure (wpAny_bind (wpAny_pure (wpAny_pure h)))))))) λ Z9 Z9 e=>e)
 ·rw [km hs] at h ⊢
  exact evalArgs_plain h
noncomputable def Fn.ty:Fn→String
 | .extend=>"list" | .append=>"list" | .insert=>"list" | .get=>"dict" | _=>"str"
noncomputable def Fn.id:Fn→String
 | .strip=>"str.strip" | .split=>"str.split" | .join=>"str.join" | .splitOn=>"str.split" | .endswith=>"str.endswith" | .startswith=>"str.startswith" | .index=>"str.index" | .extend=>"list.extend" | .append=>"list.append"
 | .get=>"dict.get" | .insert=>"list.insert" | _=>""
structure MF (p:Fn):Prop where
 plain:PlainAttrs p.ty
 slot:Slot p.ty p.name p.id
 ty:typeOf (.builtin p.id)=pure (.type "method_descriptor")
theorem NP {p:Fn}{id:String}(h:p.ty="str")(hi:p.id=id)(s:Slot "str" p.name id)(t:typeOf (.builtin id)=pure (.type "method_descriptor")):MF p:=⟨ru h PySem.F.plainAttrs_str,by refine ru h (ru hi ?_);exact s,by refine ru hi ?_;exact t⟩
theorem Au:MF .strip:=⟨PySem.F.plainAttrs_str,PySem.F.slot_str_strip,PySem.F.type_str_strip⟩
theorem Av:MF .split:=⟨PySem.F.plainAttrs_str,PySem.F.slot_str_split,PySem.F.type_str_split⟩
theorem Dt:MF .join:=⟨PySem.F.plainAttrs_str,PySem.F.slot_str_join,PySem.F.type_str_join⟩
theorem uB:MF .splitOn:=⟨PySem.F.plainAttrs_str,PySem.F.slot_str_split,PySem.F.type_str_split⟩
theorem r7:MF .endswith:=⟨PySem.F.plainAttrs_str,PySem.F.slot_str_endswith,PySem.F.type_str_endswith⟩
theorem oA:MF .startswith:=⟨PySem.F.plainAttrs_str,PySem.F.slot_str_startswith,PySem.F.type_str_startswith⟩
theorem Aw:MF .index:=⟨PySem.F.plainAttrs_str,PySem.F.slot_str_index,PySem.F.type_str_index⟩
theorem yr:MF .extend:=⟨PySem.F.plainAttrs_list,PySem.F.slot_list_extend,PySem.F.type_list_extend⟩
theorem yt:MF .append:=⟨PySem.F.plainAttrs_list,PySem.F.slot_list_append,PySem.F.type_list_append⟩
theorem yq:MF .insert:=⟨PySem.F.plainAttrs_list,PySem.F.slot_list_insert,PySem.F.type_list_insert⟩
theorem GP:MF .get:=⟨PySem.F.plainAttrs_dict,PySem.F.slot_dict_get,PySem.F.type_dict_get⟩
noncomputable def oo (p:Fn)(x:PV)(σ:aa):Prop:=MF p∧∀ X s β Φ va,At X s β σ Φ→bj X.S β x va→s.TypeIs va p.ty∧∀ a,va=.ref a→∃ ob,s.heap.get? a=some ob∧ob.dict=none
theorem oo.on {p x σ}(h:oo p x σ){X:Cx}{s β Φ va E pos args Q}(a:At X s β σ Φ)(r:bj X.S β x va)(q:wpAny X.M X.A (callWith pos (.builtin p.id) [va] args []) Q E s):MethodOnS X.S.prog X.S.w X.A E p.name va pos args Q s :=
 ⟨p.ty,p.id,h.1.plain,h.1.slot,h.1.ty,(h.2 X s β Φ va a r).1,(h.2 X s β Φ va a r).2,q⟩
theorem Fn.val_k {p:Fn}(h:p.isFn=true):(∃ id,p.val=.builtin id)∨∃ T,p.val=.type T:=by
 revert h;cases p<;>first | exact λ (h:false=true)=>ff h | exact λ Z9=>.inl ⟨_,rfl⟩ | exact λ Z9=>.inr ⟨_,rfl⟩
noncomputable def t8 (p:Fn)(x:PV)(σ:aa)(v:PV):Prop:=∀ va,Lf [(x,va)] (call p.val [va]) σ (.ok v σ)
@[elab_as_elim] theorem Fa {motive:List Expr→Prop}{k:Expr→Bool}(l:List Expr)(h:(match l with | [y]=>bR y&&k y | _=>false)=true)(f:∀ y,bR y=true→k y=true→motive [y]):motive l :=
 match l,h with
 | [y],h=>f y (aj h) (aE h)
 | [],h=>ff h
 | _::_::_,h=>ff h
theorem BP {p:Fn}{a:IE}(k:dc (Ev n a ρ σ) (λ x σ₁ r=>∃ v,t8 p x σ₁ v∧r=.ok v σ₁) r):Ev n (.fn p a) ρ σ r:=.ofV (λ Z9 Z9=>rfl) (λ Z9 Z9=>rfl) λ X e Φ fx d h vis=>fY e h λ g as pos h=>cj g h λ x np h=>Fa as (aE h) λ y h1 h2 =>
 have h3:=an (aj h)
 have h4:=an h3.1
 have hg:=CE.isGlob_e h3.2
 have hx:x=p.name:=beq_iff_eq.mp h4.2
 have hb:=fx.top.bv p h4.1
 λ s β Q E a g po=>Call_Name1 (Name_function_global fx.kind hg.1 (loadGlobal_builtin (ru fx.glob (fx.top.g.keeps a.ns)) (ru hx hb.1) (ru fx.blt (fx.top.b.keeps a.ns)) (ru hx hb.2)
  (EC (Fn.val_k h4.1) ((J.seqV k (λ Z9 ha=>ha.v X y Φ fx d h2 vis) λ x σ₁ k va=>k.elim λ q k=>ru k.2 (k.1 va X Φ bD fx)) s β Q E a g po))) hg.2) (zJ h1)
noncomputable def M0 (p:Fn)(x:PV)(σ:aa)(v:PV):Prop:=oo p x σ∧∀ va,Lf [(x,va)] (call (.builtin p.id) [va]) σ (.ok v σ)
theorem Kz {p:Fn}{a:IE}(k:dc (Ev n a ρ σ) (λ x σ₁ r=>∃ v,M0 p x σ₁ v∧r=.ok v σ₁) r):Ev n (.m0 p a) ρ σ r:=.ofV (λ Z9 Z9=>rfl) (λ Z9 Z9=>rfl) λ X e Φ fx d h vis=>fY e h λ g as pos h=>jB g h λ o x ap h =>
 have h3:=an (aj (aj h))
 (beq_iff_eq.mp (aj h3.1):x=p.name)▸S6.mp (aE (aj h))▸(J.seqV k (λ Z9 ha=>ha.v X o Φ fx d (aE h) vis) λ x σ₁ k va s β Q E a g po=>k.elim λ q k=>k.1.1.on a g.1 (H1 (k.1.2 va X Φ bD fx s β Q E a g (ri k.2 po)))).map λ Z9 Z9 Z9 q=>Call_method0 (qX h3.2) (aE h3.1) q
noncomputable def M1 (p:Fn)(x y:PV)(σ:aa)(r:aY PV):Prop:=∀ va vb,Lf [(y,vb),(x,va)] (call (.builtin p.id) [va,vb]) σ r
theorem Ky {p:Fn}{a b:IE}(k:dc (Ev n a ρ σ) (λ x σ₁ r=>oo p x σ₁∧dc (Ev n b ρ σ₁) (λ y σ₂=>M1 p x y σ₂) r) r):Ev n (.m1 p a b) ρ σ r:=.ofV (λ Z9 Z9=>rfl) (λ Z9 Z9=>rfl) λ X e Φ fx d h vis=>fY e h λ g as pos h=>jB g h λ o x ap h=>Fa as (aE h) λ y h5 h6 =>
 have h2:=an (aj (aj h))
 ru (beq_iff_eq.mp (aj h2.1):x=p.name) ((J.seqV k (λ Z9 ha=>ha.v X o Φ fx d (aE (aj h)) vis) λ x σ₁ k va s β Q E a g po=>k.1.on a g.1 (H0 ((J.seqV k.2 (λ Z9 ha=>(ha.v X y Φ fx d h6 vis).wk) λ y σ₂ k vb=>k va vb X Φ bD fx) s β Q E a g po))).map λ Z9 Z9 Z9 q=>Call_method1 (qX h2.2) (zJ h5) (aE h2.1) q)
@[elab_as_elim] theorem IK {motive:List Expr→Prop}{k k':Expr→Bool}(l:List Expr)(h:(match l with | [y,z]=>bR y&&bR z&&k y&&k' z | _=>false)=true)(f:∀ y z,bR y=true→bR z=true→k y=true→k' z=true→motive [y,z]):motive l :=
 match l,h with
 | [y,z],h=>f y z (aj (aj (aj h))) (aE (aj (aj h))) (aE (aj h)) (aE h)
 | [],h=>ff h
 | [_],h=>ff h
 | _::_::_::_,h=>ff h
noncomputable def M2 (p:Fn)(x y z:PV)(σ:aa)(r:aY PV):Prop:=∀ va vb vc,Lf [(z,vc),(y,vb),(x,va)] (call (.builtin p.id) [va,vb,vc]) σ r
theorem Kx {p:Fn}{a b c:IE}(k:dc (Ev n a ρ σ) (λ x σ₁ r=>oo p x σ₁∧dc (Ev n b ρ σ₁) (λ y σ₂=>dc (Ev n c ρ σ₂) λ z σ₃=>M2 p x y z σ₃) r) r):Ev n (.m2 p a b c) ρ σ r:=.ofV (λ Z9 Z9=>rfl) (λ Z9 Z9=>rfl) λ X e Φ fx d h vis=>fY e h λ g as pos h=>jB g h λ o x ap h=>IK as (aE h) λ y z h5 h7 h6 h8 =>
 have h1:=an (aj h)
 ru (beq_iff_eq.mp (aj (aj h1.1)):x=p.name) ((J.seqV k (λ Z9 ha=>ha.v X o Φ fx d h1.2 vis) λ x σ₁ k va s β Q E a g po=>k.1.on a g.1 (HZ ((J.seqV k.2 (λ Z9 ha=>(ha.v X y Φ fx d h6 vis).wk) λ y σ₂ k vb=>J.seqV k (λ Z9 ha=>(ha.v X z Φ fx d h8 vis).wk) λ z σ₃ k vc=>k va vb vc X Φ bD fx) s β Q E a g po))).map λ Z9 Z9 Z9 q=>Call_method2 (qX (aE h1.1)) (IR h5 h7) (aE (aj h1.1)) q)
noncomputable def ar (n f:Nat)(vs:List PV)(σ:aa)(r:aY PV):Prop:=∀ X fd fr fa Φ,lq X→X.d=n→lC f=some fd→F2 X.B0 fa fr→MH fd fr→(nt fd.body=true→X.A.handled=none)→iO X.l Φ→∀ s β Q E vals,At X s β σ Φ→RepL X.S β vs vals→fu X Φ (bj X.S) bD β Q E r→wpAny X.M X.A (call (.ref fa) vals) Q E s
theorem xa {f:Nat}{as:IE}(k:dc (Ev n as ρ σ) (λ x σ₁ r=>∃ vs,x=.tup vs∧ar n f vs σ₁ r) r):Ev n (.call f as) ρ σ r:=.ofV (λ Z9 Z9=>rfl) (λ Z9 Z9=>rfl) λ X e Φ fx d h vis=>fY e h λ g as pos h=>cj g h λ x np h =>
 have h1:=an (aj (aj h))
 have hg:=CE.isGlob_e h1.1
 λ s β Q E a g po=>(fx.top.fv x f (beq_iff_eq.mp h1.2)).elim λ fa w=>w.elim λ fd w=>w.elim λ fr w=>Call_Name rfl (Name_function_global fx.kind hg.1 (loadGlobal_global (ru fx.glob (fx.top.g.keeps a.ns)) w.1
  (callWith_function (o:=⟨fr.oc,fr.od,.func fr.fd,fr.osl⟩) (fd:=fr.fd) (GF (by
   cases as with
   | nil=>exact .inl rfl
   | cons y l=>exact .inr ⟨y,l,rfl,(aE (aj h))⟩) ((J.seq (W:=λ vs Q E s=>(s.heap.get? fa=some ⟨fr.oc,fr.od,.func fr.fd,fr.osl⟩∧Data.func fr.fd=Data.func fr.fd)∧wpAny X.M X.A (call (.ref fa) ([]++vs)) Q E s) k (λ Z9 ha=>ha.l X as Φ fx d (aE h) vis pos) λ x σ₁ k vs s β Q E a g rx po =>
    ⟨⟨a.ns _ _ w.2.2.1.get,rfl⟩,k.elim λ vs' k=>rx.elim λ ps rx=>k.2 X fd fr fa Φ fx d w.2.1 w.2.2.1 w.2.2.2.1 (λ z=>LW (z.symm.trans w.2.2.2.2)) vis.stk s β Q E vs a (ru (tI (k.1.symm.trans rx.1)) rx.2) po⟩) s β Q E a g po)))) hg.2)
theorem Kw:Ev n .nl ρ σ (.ok (.tup []) σ):=.ofL (λ Z9 Z9=>rfl) (λ Z9 Z9=>rfl) λ X es Φ fx d h vis pos s β Q E a g po=>ru (S6.mp h) (spliced_nil (po _ _ β a .rfl' ⟨[],rfl,rfl⟩))
theorem KA {e q:IE}(k:dc (Ev n e ρ σ) (λ x σ₁=>dc (Ev n q ρ σ₁) λ w σ₂ r=>∃ vs,w=.tup vs∧r=.ok (.tup (x::vs)) σ₂) r):Ev n (.cs e q) ρ σ r:=.ofL (λ Z9 Z9=>rfl) (λ Z9 Z9=>rfl) λ X es Φ fx d h vis pos=>by
 revert h
 cases es with
 | nil=>exact λ (h:false=true)=>ff h
 | cons y l =>
  intro h
  rw [km (aj (aj h))]
  exact (J.seqV k (λ Z9 ha=>ha.v X y Φ fx d (aE (aj h)) vis) λ x σ₁ k va=>J.seq (W:=λ vs Q E s=>Q (va::vs) s) k (λ Z9 ha=>(ha.l X l Φ fx d (aE h) vis pos).wk) λ w σ₂ k vs s β Q E a g rw' po=>k.elim λ vs' k=>rw'.elim λ ps rw'=>(show fu X Φ (RL X.S) bD β Q E (.ok (.tup (x::vs')) σ₂) from ri k.2 po) _ _ β a .rfl' ⟨_,rfl,va,vs,rfl,g.1,ru (tI (k.1.symm.trans rw'.1)) rw'.2⟩).map λ Z9 Z9 Z9=>spliced_cons
theorem uq {X:Cx}{s:Shared}{β σ Φ}(at':At X s β σ Φ){o:Obj}(hf:o.isFreed=false):∃ β',At X { s with heap:=s.heap.push o } β' σ Φ∧Le β β'∧β'.B.get? s.heap.objs.size=some o :=
 (at'.2.keeps λ Z9 Z9 e=>Heap.get?_push_of_some o e).elim λ β' q=>⟨β',⟨at'.1,q.1⟩,q.2.1,q.2.2.2 _ _ (λ m=>at'.2.new (Heap.get?_none_of_le (N8 _)) m) (Heap.get?_push_size _ hf)⟩
theorem uz {X:Cx}{s:Shared}{β σ Φ}{R:RT PV Value}{P}{Q:Value→Shared→Prop}{E}{p:PV}{o:Obj}{s':Shared}(a:At X s β σ Φ)(po:fu X Φ R P β Q E (.ok p σ))(hf:o.isFreed=false)(e:s'={ s with heap:=s.heap.push o,toks:=s'.toks })(h:∀ β',Le β β'→β'.B.get? s.heap.objs.size=some o→R β' p (.ref s.heap.objs.size)):Q (.ref s.heap.objs.size) s' :=
 (uq a hf).elim λ β' q=>po _ _ β' (ru e q.1) q.2.1 (h β' q.2.1 q.2.2)
theorem mC {h:Heap}{a:Addr}{is:List Value}{n:Nat}(e:h.get? a=some { cls:=.type "tuple",data:=.seq is.toArray n }):h.IsTuple a is.toArray:=⟨_,e,rfl,_,rfl⟩
theorem si {h:Heap}{a:Addr}{is:List Value}{n:Nat}(e:h.get? a=some { cls:=.type "list",data:=.seq is.toArray n }):h.IsList a is.toArray:=⟨_,e,rfl,_,rfl⟩
theorem HA {as:IE}(k:dc (Ev n as ρ σ) (λ x σ₁ r=>∃ vs,x=.tup vs∧vs.length≤ax∧r=.ok x σ₁) r):Ev n (.tup as) ρ σ r:=.ofV (λ Z9 Z9=>rfl) (λ Z9 Z9=>rfl) λ X e Φ fx d h vis=>GV e h λ es u p h =>
 (J.seq (W:=λ vs Q E s=>wpAny X.M X.A (newTuple vs) Q E s) k (λ Z9 ha=>ha.l X es Φ fx d (aE h) vis _) λ x σ₁ k vs s β Q E a g rx po=>k.elim λ ps k=>rx.elim λ ps' rx =>
  have e:=tI (k.1.symm.trans rx.1)
  have hl:=k.2.1
  wpAny_newTuple (uz a (show fu X Φ (bj X.S) bD β Q E (.ok (.tup ps) σ₁) from k.1▸ri k.2.2 po) rfl rfl λ β' l g=>⟨hl,_,vs,rfl,mC g,(e▸rx.2:RepL X.S β ps vs).mono l⟩) (by refine ru ((e▸rx.2:RepL X.S β ps vs).length) ?_;exact N1 hl bt)).map λ Z9 Z9 Z9=>Tuple_
theorem HF {as:IE}(k:dc (Ev n as ρ σ) (λ x σ₁ r=>∃ vs,x=.tup vs∧vs.length≤ax∧r=.ok (.lst vs) σ₁) r):Ev n (.lst as) ρ σ r:=.ofV (λ Z9 Z9=>rfl) (λ Z9 Z9=>rfl) λ X e Φ fx d h vis=>uD e h λ es p h =>
 (J.seq (W:=λ vs Q E s=>wpAny X.M X.A (newList vs) Q E s) k (λ Z9 ha=>ha.l X es Φ fx d (aE h) vis _) λ x σ₁ k vs s β Q E a g rx po=>k.elim λ ps k=>rx.elim λ ps' rx =>
  have e:=tI (k.1.symm.trans rx.1)
  have hl:=k.2.1
  wpAny_newList (uz a (show fu X Φ (bj X.S) bD β Q E (.ok (.lst ps) σ₁) from ri k.2.2 po) rfl rfl λ β' l g=>⟨hl,_,vs,rfl,si g,(e▸rx.2:RepL X.S β ps vs).mono l⟩) (by refine ru ((e▸rx.2:RepL X.S β ps vs).length) ?_;exact N1 hl bt)).map λ Z9 Z9 Z9=>List_
theorem GI {X:Cx}{s s':Shared}{β σ Φ}{P}{Q:Value→Shared→Prop}{E}{o:Obj}{x:aN}(a:At X s β σ Φ)(po:fu X Φ (bj X.S) P β Q E (.ok (.loc σ.length) (σ++[x])))(hf:o.isFreed=false)(e:s'={ s with heap:=s.heap.push o,toks:=s'.toks })(h:∀ h':Heap,h'.get? s.heap.objs.size=some o→eH X.S β s.heap.objs.size o x):Q (.ref s.heap.objs.size) s' :=
 have q:=a.2.addσ (λ Z9 Z9 e=>Heap.get?_push_of_some o e) (a.2.fresh (Heap.get?_none_of_le (N8 _))) ⟨o,Heap.get?_push_size _ hf,h _ (Heap.get?_push_size s.heap hf)⟩
 po _ _ _ (ru e (⟨a.1,q.1⟩)) q.2 ⟨_,rfl,by refine ri a.2.len ?_;exact S9 ..⟩
end
end
end Mine
end
section
open PySem PySem.W PyProof.Rows PySem.Calls
open PySem.Builtin PySem.Builtin.Str
namespace Mine
noncomputable section
section
variable {S:Sy} {β:Fz} {motive:Value→Prop}
@[elab_as_elim] theorem rI {i:Int}(v:Value)(r:bj S β (.int i) v)(f:∀ t,motive (.int i t)):motive v:=r.elim λ t e=>ru e (f t)
@[elab_as_elim] theorem rS {x:List Nat}(v:Value)(r:bj S β (.str x) v)(f:oM x→∀ t,motive (.str (aG x) t)):motive v:=r.2.elim λ t e=>ru e (f r.1 t)
@[elab_as_elim] theorem rT {vs:List PV}(v:Value)(r:bj S β (.tup vs) v)(f:vs.length≤ax→∀ a is,β.B.IsTuple a is.toArray→RepL S β vs is→motive (.ref a)):motive v:=r.2.elim λ a w=>w.elim λ is w=>ru w.1 (f r.1 a is w.2.1 w.2.2)
@[elab_as_elim] theorem rL {vs:List PV}(v:Value)(r:bj S β (.lst vs) v)(f:vs.length≤ax→∀ a is,β.B.IsList a is.toArray→RepL S β vs is→motive (.ref a)):motive v:=r.2.elim λ a w=>w.elim λ is w=>ru w.1 (f r.1 a is w.2.1 w.2.2)
end
section
variable {σ:aa}
theorem Ih {a b:Int}:de .Add (.int a) (.int b) σ (.ok (.int (a+b)) σ):=λ va vb X Φ P fx s β Q E at' g po=>rI va g.2.1 λ t=>rI vb g.1 λ u=>PySem.P.add_int (po _ _ β at' .rfl' ⟨_,rfl⟩)
theorem vG {a b:List Nat}(h:a.length+b.length≤ax):de .Add (.str a) (.str b) σ (.ok (.str (a++b)) σ):=λ va vb X Φ P fx s β Q E at' g po=>rS va g.2.1 λ l1 t=>rS vb g.1 λ l2 u =>
 SB.add (λ t' k=>po _ _ β at' .rfl' ⟨⟨ri ((N5 ..).symm) h,λ c m=>(R0.mp m).elim (l1.2 c) (l2.2 c)⟩,t',congrArg (Value.str · t') (fT a b)⟩) (by refine ru (aK ..) (ru (aK ..) ?_);exact N1 h bt)
theorem Ig {a b:List PV}(h:a.length+b.length≤ax∧a≠[]∧b≠[]):de .Add (.tup a) (.tup b) σ (.ok (.tup (a++b)) σ):=λ va vb X Φ P fx s β Q E at' g po=>rT va g.2.1 λ l1 ta ia ha qa=>rT vb g.1 λ l2 tb ib hb qb=>by
 obtain ⟨⟨_,da,_,sa⟩,ga,rfl,na,rfl⟩:=ha
 obtain ⟨⟨_,db,_,sb⟩,gb,rfl,nb,rfl⟩:=hb
 have za:ia≠[]:=λ q=>h.2.1 (U6.mp (by refine ri qa.length (ru q ?_);rfl))
 have zb:ib≠[]:=λ q=>h.2.2 (U6.mp (by refine ri qb.length (ru q ?_);rfl))
 refine concat_meets ⟨_,(at'.2.st _ _ ga),rfl⟩ ⟨_,(at'.2.st _ _ gb),rfl⟩ noFill_tuple_add seq_tuple_add PySem.F.slot_tuple_add PySem.F.entry_tuple_add (PySem.F.args_tuple_add_2 _ _) (tuple_addW2 ta tb ia.toArray ib.toArray na nb da db sa sb (by simpa using za) (by simpa using zb) (N1 (by refine ru P2 (ru P2 (ru qa.length (ru qb.length ?_)));exact h.1:ia.toArray.size+ib.toArray.size≤ax) bt)) ⟨(at'.2.st _ _ ga),(at'.2.st _ _ gb),?_⟩
 exact uz at' po (o:={ cls:=.type "tuple",data:=.seq (ia++ib).toArray }) rfl (by simp) λ β' l g=>⟨ri ((N5 ..).symm) h.1,_,ia++ib,rfl,mC g,(qa.append qb).mono l⟩
theorem Gf {a b:Int}:de .Sub (.int a) (.int b) σ (.ok (.int (a-b)) σ):=λ va vb X Φ P fx s β Q E at' g po=>rI va g.2.1 λ t=>rI vb g.1 λ u=>PySem.P.sub_int (po _ _ β at' .rfl' ⟨_,rfl⟩)
set_option tactic.hygienic true in
theorem r5 {x:Int}(h:m8 x=true):Builtin.Int.intBits x≤256:=by
 unfold m8 at h
 unfold Builtin.Int.intBits
 split
 ·(first | lia | omega)
 ·rename_i hx
  have:x.natAbs≠0:=z2z.mpr λ q=>hx (by refine ru q ?_;decide)
  have:=(z2n this).mpr (of_decide_eq_true h)
  (first | lia | omega)
theorem Dm {x y:Int}(hx:m8 x=true)(hy:m8 y=true):IntMulOk x y:=by
 unfold IntMulOk Builtin.Int.intTooBig bitsLine
 have:=r5 hx;have:=r5 hy
 have:¬ (((Builtin.Int.intBits x+Builtin.Int.intBits y:Nat):Int) > ((2 ^ 27:Nat):Int)):=by
  (first | lia | omega)
 simp only [X5,decide_eq_true_eq,not_and]
 intro _ _
 first | exact this | (first | lia | omega)
theorem GN {a b:Int}(h:m8 a=true)(h':m8 b=true):de .Mult (.int a) (.int b) σ (.ok (.int (a*b)) σ):=λ va vb X Φ P fx s β Q E at' g po=>rI va g.2.1 λ t=>rI vb g.1 λ u=>PySem.P.mul_int (po _ _ β at' .rfl' ⟨_,rfl⟩) (Dm h h')
set_option tactic.hygienic true in
theorem pW {x y:Int}(h:y.natAbs<2 ^ 256):Builtin.divisionGoesByPylong x y=false:=by
 unfold Builtin.divisionGoesByPylong
 have:¬ ((if (y==0)=true then 0 else y.natAbs.log2 / 30+1) > 300):=by
  split
  ·(first | lia | omega)
  ·rename_i hy
   have:y.natAbs≠0:=z2z.mpr λ q=>hy (by refine ru q ?_;decide)
   have:=(z2n this).mpr h
   (first | lia | omega)
 simp only [this,decide_false,Bool.false_and]
theorem Eb {a b:Int}(h:0<b∧b<1000000000000):de .FloorDiv (.int a) (.int b) σ (.ok (.int (a / b)) σ):=λ va vb X Φ P fx s β Q E at' g po=>rI va g.2.1 λ t=>rI vb g.1 λ u =>
 AutoIntOps.floordiv_1 (by simp;(first | lia | omega)) (by refine ru (pW (by (first | lia | omega))) ?_;decide) (ru (z1o a (U9 h.1)) (po _ _ β at' .rfl' ⟨_,rfl⟩))
theorem GO {a b:Int}(h:0<b∧b<2000000000000):de .Mod (.int a) (.int b) σ (.ok (.int (a % b)) σ):=λ va vb X Φ P fx s β Q E at' g po=>rI va g.2.1 λ t=>rI vb g.1 λ u =>
 AutoIntOps.mod_1 (by simp;(first | lia | omega)) (ru (Int.fmod_eq_emod_of_nonneg a (U9 h.1)) (po _ _ β at' .rfl' ⟨_,rfl⟩))
theorem Gw {a b:Int}(h:a=2∧0≤b∧b<200):de .Pow (.int a) (.int b) σ (.ok (.int (2 ^ b.toNat)) σ):=λ va vb X Φ P fx s β Q E at' g po=>rI va g.2.1 λ t=>rI vb g.1 λ u=>by
 obtain ⟨rfl,h1,h2⟩:=h
 by_cases hy:b=0
 ·subst hy
  exact AutoIntOps.pow_0 (by (first | lia | omega)) rfl (po _ _ β at' .rfl' ⟨_,rfl⟩)
 ·refine AutoIntOps.pow_4 (by (first | lia | omega)) (by simpa using hy) (by decide) (by decide) ?_ (po _ _ β at' .rfl' ⟨_,rfl⟩)
  refine ru (show ((Builtin.Int.intBits 2:Nat):Int)=2 by decide) ?_
  unfold Builtin.Int.intTooBig bitsLine
  simp only [decide_eq_true_eq]
  (first | lia | omega)
theorem Gj {a b:Int}(h:0≤b∧b<100):de .RShift (.int a) (.int b) σ (.ok (.int (a / 2 ^ b.toNat)) σ):=λ va vb X Φ P fx s β Q E at' g po=>rI va g.2.1 λ t=>rI vb g.1 λ u =>
 rshift_int h.1 (ru (z1o a (U9 (Int.pow_pos (show (0:Int)<2 by decide)))) (po _ _ β at' .rfl' ⟨_,rfl⟩))
theorem EF {a b:Int}(h:0≤a∧0≤b):de .BitAnd (.int a) (.int b) σ (.ok (.int (a.toNat &&& b.toNat:Nat)) σ):=λ va vb X Φ P fx s β Q E at' g po=>rI va g.2.1 λ t=>rI vb g.1 λ u =>
 PyProof.Rows.and_int (ru (show Builtin.bitAnd a b=((a.toNat &&& b.toNat:Nat):Int) by unfold Builtin.bitAnd;exact ru (decide_eq_true h.1) (ru (decide_eq_true h.2) rfl)) (po _ _ β at' .rfl' ⟨_,rfl⟩))
set_option tactic.hygienic true in
theorem BH (x:List Nat)(n:Int)(h0:0≤n)(h1:n<100)(hl:n.toNat*x.length≤ax):MulOk (aG x) n∧Txt.mul (aG x) n=aG (List.flatten (List.replicate n.toNat x)):=by
 refine ⟨⟨?_,λ h2 h3=>?_,λ h2 h3=>?_⟩,?_⟩
 ·simp only [z0r,decide_eq_false_iff_not];(first | lia | omega)
 ·refine ru (aK ..) ?_
  have:(x.length:Int)*n≤16000000:=by
   have:((n.toNat*x.length:Nat):Int)≤((16000000:Nat):Int):=V5.mpr hl
   rw [Int.natCast_mul,(T4 h0:(n.toNat:Int)=n),Int.mul_comm] at this;exact this
  have:(x.length:Int)≤(2 ^ 63-1) / n:=by
   rw [Int.le_ediv_iff_mul_le (by (first | lia | omega))]
   (first | lia | omega)
  (first | lia | omega)
 ·refine ru (aK ..) ?_
  unfold Builtin.Str.tooLong
  refine ru (Nat.mul_comm ..) ?_
  simp only [decide_eq_false_iff_not,W5]
  exact N1 hl bt
 ·unfold Txt.mul
  by_cases h2:n<1
  ·have:n=0:=by (first | lia | omega)
   subst this
   simp [aG,Str.empty]
  ·refine ru (if_neg h2) ?_
   split
   ·rename_i h3
    simp only [Bool.or_eq_true,beq_iff_eq,aK] at h3
    rcases h3 with h3 | h3
    ·subst h3;simp
    ·refine ru (U6.mp h3) ?_;simp
   ·have hf:∀ (k:Nat) (acc:Array Nat),(List.foldl (λ x1 x2=>x1++x2) acc (List.replicate k (aG x).cps)).toList=acc.toList++List.flatten (List.replicate k x):=by
     intro k
     induction k with
     | zero=>intro acc;simp
     | succ k ih=>intro acc;refine ru z2q (ru List.foldl_cons (ru (ih ..) (ru z2q (ru List.flatten_cons ?_))));simp [aG,N6]
    have:=hf n.toNat #[]
    simp only [aG] at this ⊢
    congr 1
    apply Array.ext'
    simpa using this
theorem GM {a:List Nat}{b:Int}(h:0≤b∧b<100∧b.toNat*a.length≤ax):de .Mult (.str a) (.int b) σ (.ok (.str (List.flatten (List.replicate b.toNat a))) σ):=λ va vb X Φ P fx s β Q E at' g po=>rS va g.2.1 λ l t=>rI vb g.1 λ u =>
 have q:=BH a b h.1 h.2.1 h.2.2
 SB.mul q.1 λ t' k=>po _ _ β at' .rfl' ⟨⟨by refine ru z2r (ru z2x (ru z2a ?_));exact h.2.2,λ c m=>(List.mem_flatten.mp m).elim λ y m=>l.2 c (ri ((List.mem_replicate.mp m.1).2) m.2)⟩,t',congrArg (Value.str · t') q.2⟩
section
variable {x y:PV} {K:PV→Prop}
theorem fg {motive:PV→Prop}{k:Int→Prop}{x:PV}(h:motive x)(f:∀ a,motive (.int a)→k a):yf x k:=by cases x<;>first | trivial | exact f _ h
theorem cV {motive:PV→Prop}{k:List Nat→Prop}{x:PV}(h:motive x)(f:∀ a,motive (.str a)→k a):mY x k:=by cases x<;>first | trivial | exact f _ h
theorem iW {motive:PV→Prop}{k:List PV→Prop}{x:PV}(h:motive x)(f:∀ a,motive (.tup a)→k a):Dk x k:=by cases x<;>first | trivial | exact f _ h
theorem vw {motive:PV→Prop}{ki ks kt}{x:PV}(h:motive x)(fi:∀ a,motive (.int a)→ki a)(fs:∀ a,motive (.str a)→ks a)(ft:∀ a,motive (.tup a)→kt a):Ld x ki ks kt:=by
 cases x<;>first | trivial | exact fi _ h | exact fs _ h | exact ft _ h
theorem ky {o:Operator}{k:Int→Int→Prop}(h:∀ v,de o x y σ (.ok v σ)→K v)(f:∀ a b,(∀ v,de o (.int a) (.int b) σ (.ok v σ)→K v)→k a b):Gz x y k :=
 fg (motive:=λ x=>∀ v,de o x y σ (.ok v σ)→K v) h λ a h=>fg (motive:=λ y=>∀ v,de o (.int a) y σ (.ok v σ)→K v) h λ b h=>f a b h
theorem EN (h:∀ v,de .Add x y σ (.ok v σ)→K v):KP x y K:=vw (motive:=λ x=>∀ v,de .Add x y σ (.ok v σ)→K v) h
 (λ a h=>fg (motive:=λ y=>∀ v,de .Add (.int a) y σ (.ok v σ)→K v) h λ b h=>h _ Ih)
 (λ a h=>cV (motive:=λ y=>∀ v,de .Add (.str a) y σ (.ok v σ)→K v) h λ b h l=>h _ (vG l))
 λ a h=>iW (motive:=λ y=>∀ v,de .Add (.tup a) y σ (.ok v σ)→K v) h λ b h l=>h _ (Ig l)
theorem ED {o:Operator}(h:∀ v,de o x y σ (.ok v σ)→K v):KE o x y K:=by
 cases o with
 | Add=>exact EN h
 | Sub=>exact ky h λ a b h=>h _ Gf
 | Mult=>exact vw (motive:=λ x=>∀ v,de .Mult x y σ (.ok v σ)→K v) h (λ a h=>fg (motive:=λ y=>∀ v,de .Mult (.int a) y σ (.ok v σ)→K v) h λ b h l l'=>h _ (GN l l'))      (λ a h=>fg (motive:=λ y=>∀ v,de .Mult (.str a) y σ (.ok v σ)→K v) h λ b h l=>h _ (GM l)) λ Z9 Z9=>trivial
 | FloorDiv=>exact ky h λ a b h l=>h _ (Eb l)
 | Mod=>exact ky h λ a b h l=>h _ (GO l)
 | Pow=>exact ky h λ a b h l=>h _ (Gw l)
 | RShift=>exact ky h λ a b h l=>h _ (Gj l)
 | BitAnd=>exact ky h λ a b h l=>h _ (EF l)
 | _=>trivial
end
end
end
end Mine
end
section
open PySem PySem.W PyProof.Rows PySem.Calls
open PySem.Builtin PySem.Builtin.Str
namespace Mine
noncomputable section
section
variable {X:Cx} {s:Shared} {β:Fz} {σ:aa} {Φ:Ow}
theorem At.obj (a:At X s β σ Φ){l:Nat}{o:aN}(e:σ[l]?=some o):∃ ad,β.μ[l]?=some ad∧jf s.heap ad λ x=>eH X.S β ad x o :=
 have hl:l<β.μ.length:=ru a.2.len ((O6.mp e).1)
 ⟨_,O4 hl,a.2.obj l _ o (O4 hl) e⟩
@[elab_as_elim] theorem pV {motive:Value→Prop}{l:Nat}{o:aN}(v:Value)(r:bj X.S β (.loc l) v)(a:At X s β σ Φ)(e:σ[l]?=some o)(f:∀ ad x,β.μ[l]?=some ad→s.heap.get? ad=some x→eH X.S β ad x o→motive (.ref ad)):motive v :=
 r.elim λ ad w=>w.1▸(a.obj e).elim λ ad' w'=>ri (Option.some.inj (w'.1.symm.trans w.2)) (w'.2.elim λ x h=>f ad' x w'.1 h.1 h.2)
theorem ql {o:aN}{vs:List PV}(h:eR o=some vs):o=.lst vs:=by cases o<;>first | exact congrArg aN.lst (Option.some.inj h) | exact b2 h
theorem DA {x:PV}{vs:List PV}(h:iJ σ x=some vs):∃ l,x=.loc l∧σ[l]?=some (.lst vs):=by
 cases x<;>first | exact ⟨_,rfl,(O5.mp h).elim λ o w=>ri (ql w.2) w.1⟩ | exact b2 h
@[elab_as_elim] theorem vL {motive:Value→Prop}{x:PV}{xs:List PV}(v:Value)(r:bj X.S β x v)(a:At X s β σ Φ)(h:bw σ x=some xs)(f:∀ ad is,s.heap.IsList ad is.toArray→RepL X.S β xs is→xs.length≤ax→motive (.ref ad)):motive v:=by
 cases x with
 | lst vs=>exact rL v r λ l ad is t q=>f ad is (DU t a.2.st) (ri (Option.some.inj h) q) (ri (Option.some.inj h) l)
 | loc l =>
  exact pV (o:=.lst xs) v r a ((O5.mp h).elim λ o w=>ri (ql w.2) w.1) λ ad x Z9 e o=>o.2.elim λ is w=>f ad is (w.1 _ e).isList w.2 o.1
 | _=>exact b2 h
end
section
variable {σ:aa}
theorem EM {x y:PV}{xs ys:List PV}(hx:bw σ x=some xs)(hy:bw σ y=some ys)(hl:xs.length+ys.length≤ax):de .Add x y σ (.ok (.loc σ.length) (σ++[.lst (xs++ys)])):=λ va vb X Φ P fx s β Q E at' g po=>vL va g.2.1 at' hx λ la ia ha qa Z9=>vL vb g.1 at' hy λ lb ib hb qb Z9=>by
 obtain ⟨⟨_,da,_,sa⟩,ga,rfl,na,rfl⟩:=ha
 obtain ⟨⟨_,db,_,sb⟩,gb,rfl,nb,rfl⟩:=hb
 refine concat_meets ⟨_,ga,rfl⟩ ⟨_,gb,rfl⟩ noFill_list_add seq_list_add PySem.F.slot_list_add PySem.F.entry_list_add (PySem.F.args_list_add_2 _ _) (list_addW la lb ia.toArray ib.toArray na nb da db sa sb ?_) ⟨ga,gb,?_⟩
 ·refine ru P2 (ru P2 (ru qa.length (ru qb.length ?_)));exact N1 hl bt
 ·exact GI at' po (o:={ cls:=.type "list",data:=.seq (ia++ib).toArray }) rfl (by simp) λ h' Z9=>⟨ri ((N5 ..).symm) hl,ia++ib,λ h e=>⟨_,e⟩,qa.append qb⟩
noncomputable def RO (h:Heap)(v:Value)(d:PyData)(n:Nat):Prop:=(∃ as,Reads h v d as)∧d.canLay0=true∧d.depth≤n
noncomputable def NM (h:Heap)(vs:List Value)(ds:List PyData)(n:Nat):Prop:=(∃ as,ReadsAll h vs ds as)∧PyData.canLayAll0 ds=true∧PyData.depthAll ds≤n
theorem zX {h S β n x v}(r:bj S β (.str x) v):RO h v (.str (aG x)) n:=rS v r λ l t=>⟨⟨_,.str _ _⟩,by simpa only [PyData.canLay0,PyData.strOk,aG,List.all_toArray,O2,decide_eq_true_eq] using l.2,P4 _⟩
theorem MQ {S:Sy}{β:Fz}{h:Heap}{n:Nat}(ih:∀ p v,shal n p=true→bj S β p v→RO h v (pd p) n)(ps:List PV)(vs:List Value)(hs:ps.all (shal n)=true)(r:RepL S β ps vs):NM h vs (pds ps) n:=by
 induction ps generalizing vs with
 | nil=>refine ru (show vs=[] from r) ?_;exact ⟨⟨_,.nil⟩,rfl,P4 _⟩
 | cons p ps ihp=>exact r.elim λ v r=>r.elim λ q r=>r.1 ▸
   have a:=ih p v (aj (hs:(shal n p&&ps.all (shal n))=true)) r.2.1
   have b:=ihp q (aE (hs:(shal n p&&ps.all (shal n))=true)) r.2.2
   ⟨a.1.elim λ Z9 a=>b.1.elim λ Z9 b=>⟨_,.cons a b⟩,N4.mpr ⟨a.2.1,b.2.1⟩,Nat.max_le.mpr ⟨a.2.2,b.2.2⟩⟩
theorem jw {S:Sy}{β:Fz}{h:Heap}(hB:β.B.StaysIn h)(n:Nat):∀ p v,shal n p=true→bj S β p v→RO h v (pd p) n:=by
 induction n with
 | zero=>exact λ p v hs r=>match p,hs,r with
  | .int _,_,r=>rI v r λ t=>⟨⟨_,.int _ _⟩,rfl,P4 _⟩
  | .str _,_,r=>zX r
 | succ n ih=>exact λ p v hs r=>match p,hs,r with
  | .int _,_,r=>rI v r λ t=>⟨⟨_,.int _ _⟩,rfl,P4 _⟩
  | .str _,_,r=>zX r
  | .tup vs,hs,r=>rT v r λ l a is t q =>
   have z:=MQ ih vs is hs q
   ⟨z.1.elim λ Z9 z=>t.elim λ o t=>t.2.2.elim λ Z9 d=>⟨_,.tuple (hB _ _ t.1) t.2.1 d z⟩,z.2.1,P3 z.2.2⟩
  | .lst vs,hs,r=>rL v r λ l a is t q =>
   have z:=MQ ih vs is hs q
   ⟨z.1.elim λ Z9 z=>t.elim λ o t=>t.2.2.elim λ Z9 d=>⟨_,.list (hB _ _ t.1) t.2.1 d z⟩,z.2.1,P3 z.2.2⟩
set_option tactic.hygienic true in
theorem FL {x y:PV}{b:Bool}(h:BS x y=some b):shal 8 x=true∧shal 8 y=true∧PyData.eqv (pd x) (pd y)=b:=by
 unfold BS at h
 split at h
 ·rename_i q;exact ⟨(aj q),(aE q),Option.some.inj h⟩
 ·cases h
theorem E5 {X:Cx}(fx:lq X){a b:Nat}(h:a≤8):X.A.units+min a b<cLine:=O0 (S5 (N1 (Z0 a b) h) _) (O0 (by (first | lia | omega)) fx.roomU)
theorem HU {x y:PV}{b:Bool}(h:BS x y=some b):gi .Eq x y σ b:=λ va vb X Φ P fx s β Q E at' g po =>
 have q:=FL h
 have r1:=jw at'.2.st 8 x va q.1 g.2.1
 have r2:=jw at'.2.st 8 y vb q.2.1 g.1
 r1.1.elim λ Z9 w1=>r2.1.elim λ Z9 w2=>SeqAt.compareEq_reads w1 w2 r1.2.1 r2.2.1 (E5 fx r1.2.2) (ru q.2.2 (po _ _ β at' .rfl' rfl))
theorem HT {x y:PV}{b:Bool}(h:BS x y=some b):gi .NotEq x y σ !b:=λ va vb X Φ P fx s β Q E at' g po =>
 have q:=FL h
 have r1:=jw at'.2.st 8 x va q.1 g.2.1
 have r2:=jw at'.2.st 8 y vb q.2.1 g.1
 r1.1.elim λ Z9 w1=>r2.1.elim λ Z9 w2=>SeqAt.neOverData _ _ _ _ _ _ _ _ _ _ _ _ w1 w2 r1.2.1 r2.2.1 (E5 fx r1.2.2) (ru q.2.2 (po _ _ β at' .rfl' rfl))
end
end
end Mine
end
section
open PySem PySem.W PyProof.Rows PySem.Calls
open PySem.Builtin PySem.Builtin.Str
namespace Mine
noncomputable section
noncomputable def j5 (S:Sy)(β:Fz):Option PV→Option Value→Prop
 | some p,rv=>∃ v,rv=some v∧bj S β p v
 | none,rv=>rv=none
theorem j5.same {S β r rv}(h:j5 S β r rv):rv.isSome=r.isSome:=by
 cases r with
 | none=>exact congrArg Option.isSome (show rv=none from h)
 | some p=>exact h.elim λ v h=>congrArg Option.isSome h.1
section
variable {S:Sy} {β:Fz}
theorem pM {K:Type}[DecidableEq K](a k:K)(v:Value)(r:List (K×Value)):valueAt ((a,v)::r) k=if a=k then some v else valueAt r k:=by
 unfold valueAt
 refine ru (List.find?_cons) ?_
 by_cases h:a=k<;>simp [h]
theorem vN {L K:Type}[DecidableEq L][DecidableEq K](enc:L→K)(inj:∀ a b,enc a=enc b→a=b)(k:L)(ks:List L):∀ (vs:List Value) (ps:List PV),RepL S β ps vs→j5 S β (bz k ks ps) (valueAt ((ks.map enc).zip vs) (enc k)):=by
 induction ks with
 | nil=>exact λ Z9 Z9 Z9=>rfl
 | cons a r ih =>
  intro vs ps h
  cases ps with
  | nil=>refine ru (show vs=[] from h) ?_;exact rfl
  | cons p ps =>
   refine h.elim λ v h=>h.elim λ q h=>ru h.1 (?_)
   show j5 S β (if k=a then some p else bz k r ps) (valueAt ((enc a,v)::(r.map enc).zip q) (enc k))
   refine ru (pM ..) ?_
   by_cases hk:k=a
   ·refine ru (if_pos hk) (ru (if_pos (congrArg enc hk.symm)) ?_);exact ⟨v,rfl,h.2.1⟩
   ·refine ru (if_neg hk) (ru (if_neg λ e=>hk (inj _ _ e).symm) ?_);exact ih q ps h.2.2
theorem gU {h:Heap}{a:Addr}{vals:List Value}(x:lr (K8 S) id a [] vals h):h.DictOf (KZ S) a []:=by
 obtain ⟨hl,_,o,es,ep,e,x,d,k,p,n⟩:=x
 have hv:vals=[]:=U6.mp hl
 subst hv
 have he:es.toList=[]:=by
  generalize es.toList=l at p
  cases p with | nil=>rfl
 have he':es=#[]:=by apply Array.ext';simpa using he
 subst he'
 exact ⟨o,#[],ep,e,x,d,λ Z9 m=>by simp at m,.nil,by simp⟩
noncomputable def MI (S:Sy)(β:Fz)(h:Heap)(d:Addr)(r:Option PV)(C:Prop)(key:Value):Prop :=
 (∀ {K:Type} [DecidableEq K] (knd:PySem.KeyKind S.prog S.w K) (k':K) kvs,knd.is k' key=true→h.DictOf knd d kvs→j5 S β r (valueAt kvs k')→(d==sysModules)=false→C)→C
theorem tU {C:Prop}{h:Heap}{d:Addr}{o:aN}{k:PV}{r:Option PV}{key:Value}(x:jf h d λ x=>eH S β d x o)(rk:bj S β k key)(e:dF o k=some r):MI S β h d r C key:=x.elim λ x y=>by
 cases o with
 | lst=>exact b2 e
 | dctS ks vs=>cases k with
  | str i =>
   exact y.2.2.elim λ is z=>rS key rk λ Z9 t f =>
   f _ (aG i) _ (strKind_is _ _ _ _) (z.1 h y.1).2.2 (ri (Option.some.inj e) (vN aG (λ Z9 Z9 e=>cU e) i ks is vs z.2)) (z.1 h y.1).2.1
  | _=>exact b2 e
 | dctI ks vs=>cases k with
  | int i =>
   exact y.2.2.elim λ is z=>rI key rk λ t f =>
   have q:=z.1 h y.1
   f _ i _ (intKind_is _ _ _ _) q.2.2 (ri (Option.some.inj e) (vN (λ i:Int=>i) (λ Z9 Z9 e=>e) i ks is vs z.2)) q.2.1
  | str i=>cases ks with
   | cons=>exact b2 e
   | nil =>
    exact y.2.2.elim λ is z=>rS key rk λ Z9 t f =>
    f _ (aG i) _ (strKind_is _ _ _ _) (gU (z.1 h y.1)) (ri (Option.some.inj e) rfl) (z.1 h y.1).2.1
  | _=>exact b2 e
end
section
variable {X:Cx} {s:Shared} {β:Fz} {σ:aa} {Φ:Ow}
@[elab_as_elim] theorem vD {motive:Value→Prop}{x:PV}{o:aN}(v:Value)(r:bj X.S β x v)(a:At X s β σ Φ)(h:df σ x=some o)(f:∀ d,jf s.heap d (λ x=>eH X.S β d x o)→motive (.ref d)):motive v:=by
 cases x with
 | dctI ks vs=>exact r.2.elim λ d w=>w.elim λ is w=>w.1▸f d (w.2.1.elim λ ob y=>⟨ob,a.2.st _ _ y.1,ri (Option.some.inj h) (⟨r.1,is,y.2,w.2.2⟩)⟩)
 | dctS ks vs=>exact r.2.elim λ d w=>w.elim λ is w=>w.1▸f d (w.2.1.elim λ ob y=>⟨ob,a.2.st _ _ y.1,ri (Option.some.inj h) (⟨r.1,is,y.2,w.2.2⟩)⟩)
 | loc l=>exact pV (o:=o) v r a h λ d x Z9 e q=>f d ⟨x,e,q⟩
 | _=>exact b2 h
end
section
variable {σ:aa}
theorem xo {o:CmpOp}{x y:PV}{f:Int→Int→Bool}{b:Bool}(h:Bq x y f=some b)(k:∀ (i j:Int) t u X Q E s,Q (.bool (f i j)) s→wpAny (Cx.M X) (Cx.A X) (compareOp o (.int i t) (.int j u)) Q E s):gi o x y σ b:=by
 cases x with
 | int i=>cases y with
  | int j=>exact λ va vb X Φ P fx s β Q E at' g po=>rI va g.2.1 λ t=>rI vb g.1 λ u=>k i j t u X Q E s (po _ _ β at' .rfl' (congrArg Value.bool (Option.some.inj h)))
  | _=>exact b2 h
 | _=>exact b2 h
noncomputable def K7 (i:Int):Value→Bool
 | .int j _=>j==i
 | _=>false
theorem Ax {S:Sy}{β:Fz}{i:Int}(vs:List PV):∀ (items:List Value) (l:List Int),RepL S β vs items→i3 pi vs=some l→(∀ y∈items,∃ j t,y=.int j t)∧items.any (K7 i)=l.contains i:=by
 induction vs with
 | nil=>exact λ items l r e=>(show items=[] from r)▸ri (Option.some.inj e) (⟨O1 _,rfl⟩)
 | cons p vs ih =>
  intro items l r e
  refine r.elim λ v r=>r.elim λ q r=>ru r.1 (?_)
  refine (O5.mp e).elim λ j e=>(O9.mp e.2).elim λ l' e'=>ri e'.2 (?_)
  cases p with
  | int j' =>
   have ej:j'=j:=Option.some.inj e.1
   subst ej
   refine r.2.1.elim λ t ht=>?_
   cases ht
   refine ⟨N7.mpr ⟨⟨_,_,rfl⟩,(ih q l' r.2.2 e'.1).1⟩,?_⟩
   refine ru z1y (ru (ih q l' r.2.2 e'.1).2 (ru W8 ?_))
   exact congrArg (·||_) (Bool.beq_comm (a:=j') (b:=i))
  | _=>exact b2 e.1
theorem FK {A:Around}{s:Shared}{i:Int}{t:Tok}{S:Sy}{β:Fz}{vs:List PV}{items:List Value}{l:List Int}(hA:A.units+1<cLine)(r:RepL S β vs items)(e:i3 pi vs=some l):∀ y∈items.toArray,SeqAt.EqAt A.in1 s y (.int i t) (K7 i y):=λ y m =>
 ((Ax (i:=i) vs items l r e).1 y (by simpa using m)).elim λ j w=>w.elim λ u w=>ru w (SeqAt.eqAt_reads (.int j) (.int i) A.in1 s _ _ _ _ (.int _ _) (.int _ _) rfl rfl hA)
theorem Mn {b:Bool}{x t:List Nat}(h:gN x t=b):gi .In (.str x) (.str t) σ b:=λ va vb X Φ P fx s β Q E at' g po=>rS va g.2.1 λ Z9 u=>rS vb g.1 λ Z9 u'=>SB.contains (po _ _ β at' .rfl' (congrArg Value.bool h))
theorem Jh {b:Bool}{x t:List Nat}(h:gN x t=b):gi .NotIn (.str x) (.str t) σ !b:=λ va vb X Φ P fx s β Q E at' g po=>rS va g.2.1 λ Z9 u=>rS vb g.1 λ Z9 u'=>SB.notContains (po _ _ β at' .rfl' (congrArg (Value.bool !·) h))
theorem GQ {x:PV}{vs:List PV}{b:Bool}(h:GR x vs=some b):∃ i l,x=.int i∧i3 pi vs=some l∧l.contains i=b:=by
 cases x with
 | int i=>exact (O9.mp h).elim λ l w=>⟨i,l,rfl,w⟩
 | _=>exact b2 h
theorem Mm {x:PV}{vs:List PV}{b:Bool}(h:GR x vs=some b):gi .In x (.tup vs) σ b∧gi .NotIn x (.tup vs) σ !b:=(GQ h).elim λ i w=>w.elim λ l w=>w.1 ▸
 ⟨λ va vb X Φ P fx s β Q E at' g po=>rI va g.2.1 λ t=>rT vb g.1 λ Z9 d is ht q=>SeqAt.in_tupleAt (K7 i) (rj ht at'.2.st) (FK (O0 (by (first | lia | omega)) fx.roomU) q w.2.1) (po _ _ β at' .rfl' (congrArg Value.bool ((z3k ..).trans ((Ax vs is l q w.2.1).2.trans w.2.2)))),
  λ va vb X Φ P fx s β Q E at' g po=>rI va g.2.1 λ t=>rT vb g.1 λ Z9 d is ht q=>SeqAt.notIn_tupleAt (K7 i) (rj ht at'.2.st) (FK (O0 (by (first | lia | omega)) fx.roomU) q w.2.1) (po _ _ β at' .rfl' (congrArg (Value.bool !·) ((z3k ..).trans ((Ax vs is l q w.2.1).2.trans w.2.2))))⟩
theorem Mo {x y:PV}{o:aN}{r:Option PV}(h:df σ y=some o)(k:dF o x=some r):gi .In x y σ r.isSome∧gi .NotIn x y σ !r.isSome :=
 ⟨λ va vb X Φ P fx s β Q E at' g po=>vD (motive:=λ v=>wpAny X.M X.A (compareOp .In va v) Q E s) vb g.1 at' h λ d q=>tU q g.2.1 k λ knd k' kvs a1 a2 a3 a4=>wpAny_in_of a1 a4 a2.mapOf (po _ _ β at' .rfl' (congrArg Value.bool a3.same)),
  λ va vb X Φ P fx s β Q E at' g po=>vD (motive:=λ v=>wpAny X.M X.A (compareOp .NotIn va v) Q E s) vb g.1 at' h λ d q=>tU q g.2.1 k λ knd k' kvs a1 a2 a3 a4=>wpAny_notIn_of a1 a4 a2.mapOf (po _ _ β at' .rfl' (congrArg (Value.bool !·) a3.same))⟩
theorem FD {x y:PV}{b:Bool}(h:Mp x y σ=some b):gi .In x y σ b∧gi .NotIn x y σ !b:=by
 have dct:((df σ y).bind λ o=>(dF o x).map (·.isSome))=some b→gi .In x y σ b∧gi .NotIn x y σ !b:=λ h =>
  (O5.mp h).elim λ o w=>(O9.mp w.2).elim λ r w'=>ri w'.2 (Mo w.1 w'.1)
 cases y with
 | str t=>cases x with
  | str x=>exact ⟨Mn (Option.some.inj h),Jh (Option.some.inj h)⟩
  | _=>exact b2 h
 | tup vs=>exact Mm h
 | _=>exact dct h
theorem dl {o:CmpOp}{x y:PV}{b:Bool}(h:bT o x y σ=some b):gi o x y σ b:=by
 cases o with
 | Eq=>exact HU h
 | NotEq=>exact (O9.mp h).elim λ c w=>ri w.2 (HT w.1)
 | Lt=>exact xo h λ i j t u X Q E s h=>P.lt_int h
 | LtE=>exact xo h λ i j t u X Q E s h=>P.le_int h
 | Gt=>exact xo h λ i j t u X Q E s h=>P.gt_int h
 | GtE=>exact xo h λ i j t u X Q E s h=>P.ge_int h
 | In=>exact (FD h).1
 | NotIn=>exact (O9.mp h).elim λ c w=>ri w.2 ((FD w.1).2)
 | _=>exact b2 h
theorem small {n:Nat}(h:n≤ax):(n:Int)<2 ^ 63∧¬ (n:Int) ≥ 2 ^ 63:=by unfold ax at h;(first | lia | omega)
theorem GJ {α:Type}(l:List α):((l.length:Int) !=0)=!l.isEmpty:=by cases l<;>simp;(first | lia | omega)
theorem Em {α β:Type}{l:List α}{m:List β}(h:l.length=m.length):l.isEmpty=m.isEmpty:=by cases l<;>cases m<;>first | rfl | exact nomatch h
theorem tB {a b:Bool}(h:some a=some b):PV.bool b=.bool a:=congrArg PV.bool (Option.some.inj h).symm
theorem pN {x:PV}{b:Bool}(h:zo σ x=some b):KR x σ b:=by
 cases x with
 | bool c=>exact λ va X Φ P fx s β Q E at' g po=>ru (show va=_ from g.1) (wpAny_truthy_bool (po _ _ β at' .rfl' (tB h)))
 | none=>exact λ va X Φ P fx s β Q E at' g po=>ru (show va=_ from g.1) (truthy_none (po _ _ β at' .rfl' (tB h)))
 | int i=>exact λ va X Φ P fx s β Q E at' g po=>rI va g.1 λ t=>PySem.P.truthy_int (po _ _ β at' .rfl' (tB h))
 | str x=>exact λ va X Φ P fx s β Q E at' g po=>rS va g.1 λ l t=>PySem.P.truthy_str (by refine ru (aK ..) ?_;exact (small l.1).2) (po _ _ β at' .rfl' (by refine ru (aK ..) (ru (GJ ..) ?_);exact tB (a:=!x.isEmpty) h))
 | lst vs=>exact λ va X Φ P fx s β Q E at' g po=>rL va g.1 λ l a is t q=>wpAny_truthy_list (DU t at'.2.st) (by refine ru P2 (ru q.length ?_);exact (small l).1) (po _ _ β at' .rfl' (by
   refine ru (List.isEmpty_toArray ..) (ru (Em q.length) ?_);exact tB (a:=!vs.isEmpty) h))
 | _=>exact b2 h
end
end
end Mine
end
section
open PySem PySem.W PyProof.Rows PySem.Calls
open PySem.Builtin PySem.Builtin.Str
namespace Mine
noncomputable section
theorem cW {α:Type}{c:Prop}[Decidable c]{x:α}{v:α}(h:(if c then some x else none)=some v):c∧x=v:=by
 by_cases hc:c
 ·exact ⟨hc,Option.some.inj ((if_pos hc).symm.trans h)⟩
 ·exact cH (if_neg hc) h
theorem xA {i j:Int}{n k:Nat}(e:(if i<0 then i+n else i)=j)(h:t7 i n=some k):(0≤j∧j<n)∧j.toNat=k:=by
 unfold t7 at h
 rw [e] at h
 exact ⟨(N4.mp (cW h).1).imp of_decide_eq_true of_decide_eq_true,(cW h).2⟩
theorem Ks {i n:Int}(h:0≤i+n∧i<n)(hn:n≤16000000):-(2 ^ 63)≤i∧i<2 ^ 63:=by (first | lia | omega)
theorem iC {i:Int}{n j:Nat}(h:t7 i n=some j)(hn:n≤ax):-(2 ^ 63)≤i∧i<2 ^ 63 :=
 Ks (if hi:i<0 then have h:=xA (if_pos hi) h;⟨h.1.1,Int.lt_of_lt_of_le hi (Q7 n)⟩ else have h:=xA (if_neg hi) h;⟨Int.add_nonneg h.1.1 (Q7 n),h.1.2⟩) (V5.mpr hn)
section
variable {σ:aa}
theorem Kh {vs:List PV}{i:Int}{j:Nat}{v:PV}(h:t7 i vs.length=some j)(e:vs[j]?=some v):tY (.tup vs) (.int i) σ v:=λ va vb X Φ P fx s β Q E at' g po=>rT va g.2.1 λ l a is t q=>rI vb g.1 λ u =>
 (q.get e).elim λ w w'=>⟨"tuple",_,slot_tuple_getitem.lookup,(rj t at'.2.st).typeIs,PyProof.Rows.getItem_tuple (rj t at'.2.st) (iC h l).1 (iC h l).2 (by refine ru P2 (ru q.length ?_);exact h) (by refine ru (T7) ?_;exact w'.1) (po _ _ β at' .rfl' w'.2)⟩
theorem Ki {x:List Nat}{i:Int}{j c:Nat}(h:t7 i x.length=some j)(e:x[j]?=some c):tY (.str x) (.int i) σ (.str [c]):=λ va vb X Φ P fx s β Q E at' g po=>rS va g.2.1 λ l t=>rI vb g.1 λ u =>
 have hc:Txt.charAt (aG x) i=some c:=by
  unfold Txt.charAt
  refine ru (show seqIndex? i (aG x).length=some j from ri ((aK x).symm) h) ?_
  simpa [aG] using e
 ⟨"str",_,PySem.F.slot_str_getitem.lookup,typeIs_str _ _ _,SB.getItem (by (rewrite [fitsSsize];refine ru (decide_eq_false (V2.mpr (iC h l.1).1)) (ru (decide_eq_false (Y7.mpr (iC h l.1).2)) ?_));rfl) (by refine ru hc ?_;rfl)
  (po _ _ β at' .rfl' ⟨⟨by show 1≤ax;decide,λ c' m=>ru (P7.mp m) (l.2 _ (Q1 e))⟩,_,congrArg (Value.str · _) (show Txt.item (aG x) i=aG [c] by unfold Txt.item;refine ru hc ?_;rfl)⟩)⟩
theorem FE {x:PV}{vs:List PV}{i:Int}{j:Nat}{v:PV}(hx:bw σ x=some vs)(h:t7 i vs.length=some j)(e:vs[j]?=some v):tY x (.int i) σ v:=λ va vb X Φ P fx s β Q E at' g po=>vL (motive:=λ va=>ItemOn X.M X.A E va vb Q s) va g.2.1 at' hx λ a is t q l=>rI vb g.1 λ u =>
 (q.get e).elim λ w w'=>⟨"list",_,slot_list_getitem.lookup,t.typeIs,by
  by_cases hi:i<0
  ·have g:=xA (if_pos hi) h
   exact wpAny_getItem_list_neg t hi (by refine ru P2 (ru q.length ?_);exact Int.add_nonneg_iff_neg_le.mp g.1.1) (iC h l).1 (by refine ru P2 (ru q.length (ru g.2 (ru (T7) ?_)));exact w'.1) (po _ _ β at' .rfl' w'.2)
  ·have g:=xA (if_neg hi) h
   exact wpAny_getItem_list t g.1.1 (iC h l).2 (by refine ru g.2 (ru (T7) ?_);exact w'.1) (po _ _ β at' .rfl' w'.2)⟩
theorem Kj {x k:PV}{o:aN}{v:PV}(hx:df σ x=some o)(e:dF o k=some (some v)):tY x k σ v:=λ va vb X Φ P fx s β Q E at' g po=>vD (motive:=λ va=>ItemOn X.M X.A E va vb Q s) va g.2.1 at' hx λ a q=>tU q g.1 e λ knd k' kvs a1 a2 a3 a4=>a3.elim λ w w' =>
 ⟨"dict",_,slot_dict_getitem.lookup,a2.mapOf.typeIs,wpAny_getItem_of a1 a2.mapOf w'.1 (po _ _ β at' .rfl' w'.2)⟩
theorem wQ {C:Prop}{i:PV}{f:Int→Option PV}{v:PV}(h:(match i with | .int i=>f i | _=>none)=some v)(k:∀ j,i=.int j→f j=some v→C):C:=by cases i<;>first | exact k _ rfl h | exact b2 h
theorem i6 {x y v:PV}(h:bp x y σ=some v):tY x y σ v:=by
 have dct:((df σ x).bind λ o=>match o with
   | .lst vs=>(match y with | .int i=>(t7 i vs.length).bind λ j=>vs[j]? | _=>none)
   | o=>(dF o y).bind id)=some v→bw σ x=((df σ x).bind eR)→tY x y σ v:=λ h hl=>(O5.mp h).elim λ o w=>by
  have dd:(dF o y).bind _root_.id=some v→tY x y σ v:=λ h=>(O5.mp h).elim λ r w'=>Kj w.1 (w'.1.trans (congrArg some w'.2))
  cases o with
  | lst vs=>exact wQ w.2 λ i e h=>ru e ((O5.mp h).elim λ j z=>FE (hl.trans ((congrArg (Option.bind · eR) w.1).trans rfl)) z.1 z.2)
  | _=>exact dd w.2
 cases x with
 | tup vs=>exact wQ h λ i e h=>ru e ((O5.mp h).elim λ j z=>Kh z.1 z.2)
 | lst vs=>exact wQ h λ i e h=>ru e ((O5.mp h).elim λ j z=>FE rfl z.1 z.2)
 | str s=>exact wQ h λ i e h=>e▸(O5.mp h).elim λ j z=>(O9.mp z.2).elim λ c w=>ri w.2 (Ki z.1 w.1)
 | loc l=>exact dct h rfl
 | dctI=>exact dct h rfl
 | dctS=>exact dct h rfl
 | _=>exact b2 h
end
theorem FR (a b:Nat)(f:Int→Int)(h:f ((b:Int)-a)=(b:Int)-a):(if (a:Int)<b then f ((b:Int)-a) else 0).toNat=b-a:=by
 by_cases c:(a:Int)<b
 ·refine ru (if_pos c) (ru h ?_);exact z3p b a
 ·refine ru (if_neg c) ?_;exact (Nat.sub_eq_zero_of_le (V5.mp (V2.mp c))).symm
theorem Aa {α:Type}(l:List α)(a n:Nat)(f:Nat→Option α)(h:∀ k,f k=l[a+k]?):(List.range n).filterMap f=(l.drop a).take n:=by
 induction n with
 | zero=>rfl
 | succ n ih =>
  refine ru Z1 (ru List.filterMap_append (ru ih (ru z1d (ru (z2y) (ru List.filterMap_cons (ru (h n) ?_))))))
  cases l[a+n]?<;>rfl
theorem v6 (a b:Nat):sliceRange (a:Int) (b:Int) 1=(List.range (b-a)).map (a+·) :=
 (congrArg (λ n=>(List.range n).map λ (k:Nat)=>((a:Int)+1*(k:Int)).toNat) (FR a b (λ x=>(x+1-1) / 1) ((Int.ediv_one _).trans (z3a _ _)))).trans (congrArg (List.map · (List.range (b-a))) (funext λ k=>congrArg (λ x:Int=>((a:Int)+x).toNat) (Int.one_mul _)))
theorem mU {α:Type}(l:List α)(a b:Nat):(sliceRange (a:Int) (b:Int) 1).filterMap (l[·]?)=ba a b l:=by
 refine ru (v6 ..) (ru List.filterMap_map ?_)
 exact Aa l a _ _ λ Z9=>rfl
noncomputable def jc (n d:Nat):Option Int→Nat
 | none=>d
 | some i=>if i<0 then (i+n).toNat else min i.toNat n
theorem jY {S:Sy}{β:Fz}{n d l:Nat}{lo:PV}{v:Value}(h:gW n d lo=some l)(r:bj S β lo v):∃ p,IsPart v p∧l=jc n d p:=by
 cases lo with
 | none=>exact ⟨none,ru (show v=.none from r) .none,(Option.some.inj h).symm⟩
 | int i=>exact r.elim λ t e=>⟨some i,ru e (.int _ _),(Option.some.inj h).symm⟩
 | _=>exact b2 h
theorem xq (n d:Nat)(v:Option Int):(v.elim (d:Int) λ i=>max 0 (min (if i<0 then i+n else i) (n:Int)))=(jc n d v:Nat):=by
 cases v with
 | none=>rfl
 | some i =>
  show max 0 (min (if i<0 then i+n else i) (n:Int))=((if i<0 then (i+n).toNat else min i.toNat n:Nat):Int)
  by_cases h:i<0
  ·exact ru (if_pos h) (ru (if_pos h) (ru (z1n (z1p (ru (z2h _) (U9 h)))) (ru (Int.ofNat_toNat ..) (ru (Int.max_comm ..) rfl))))
  ·refine ru (if_neg h) (ru (if_neg h) ?_)
   obtain ⟨k,rfl⟩:=z1z (V2.mp h)
   exact (Int.max_eq_right (Int.le_min.mpr ⟨Q7 _,Q7 _⟩)).trans ((Nat.le_total k n).elim (λ h=>(z1n (V5.mpr h)).trans (congrArg _ (V0 h).symm)) λ h=>(Int.min_eq_right (V5.mpr h)).trans (congrArg _ (Nat.min_eq_right h).symm))
theorem y2 (lo hi:Option Int)(n:Nat):sliceBounds lo hi none n=(((jc n 0 lo:Nat):Int),((jc n n hi:Nat):Int),(1:Int)) :=
 have k:=λ l h=>congr (congrArg (λ (a b:Int)=>(a,b,(1:Int))) (xq n 0 l)) (xq n n h)
 match lo,hi with
 | none,none=>k none none
 | none,some h=>k none (some h)
 | some l,none=>k (some l) none
 | some l,some h=>k (some l) (some h)
theorem xP (lo hi:Option Int)(n:Nat):strSliceIndices lo hi 1 n=sliceRange (jc n 0 lo:Nat) (jc n n hi:Nat) 1 :=
 have k:=λ l h=>congr (congrArg (λ (a b:Int)=>sliceRange a b 1) (xq n 0 l)) (xq n n h)
 match lo,hi with
 | none,none=>k none none
 | none,some h=>k none (some h)
 | some l,none=>k (some l) none
 | some l,some h=>k (some l) (some h)
theorem Ez (n:Nat)(p:Option Int):jc n n p≤n:=by
 cases p with
 | none=>exact N8 _
 | some i =>
  show (if i<0 then (i+n).toNat else min i.toNat n)≤n
  by_cases h:i<0
  ·refine ru (if_pos h) ?_;exact z1g.mpr (z1p (ru (z2h _) (U9 h)))
  ·refine ru (if_neg h) ?_;exact Nat.min_le_right _ _
theorem yb (items:List Value)(lo hi:Option Int):slicePick items.toArray lo hi none=(ba (jc items.length 0 lo) (jc items.length items.length hi) items).toArray:=by
 unfold slicePick
 refine ru P2 (ru (y2 ..) (ri (mU ..) ?_))
 exact congrArg (λ f=>(List.filterMap f _).toArray) (funext λ x=>T7)
theorem xN (x:List Nat)(lo hi:Option Int):Txt.slice (aG x) lo hi=aG (ba (jc x.length 0 lo) (jc x.length x.length hi) x):=by
 have hp:=mU x (jc x.length 0 lo) (jc x.length x.length hi)
 have hh:=Ez x.length hi
 unfold Txt.slice
 refine ru (aK ..) (ru (xP ..) ?_)
 revert hp hh
 generalize jc x.length x.length hi=b
 generalize jc x.length 0 lo=a
 intro hp hh
 by_cases hc:((1:Int)==1&&(sliceRange (a:Nat) (b:Nat) 1).length==x.length)=true
 ·refine ru (if_pos hc) ?_
  have hc:=beq_iff_eq.mp (aE hc)
  rw [v6,N3,Q4] at hc
  exact congrArg aG (((z3b _ _).trans (List.drop_sublist _ _)).eq_of_length (by
   refine ru V1 (ru V4 (ru (V0 (Y8 hh a)) ?_));exact hc)).symm
 ·refine ru (if_neg hc) ?_
  exact congrArg aG ((congrArg (List.filterMap · _) (funext λ i=>T7)).trans hp)
theorem Es {α:Type}{lo hi:Nat}{l:List α}{x:α}(m:x∈ba lo hi l):x∈l:=X3 (X2 m)
theorem mj {α:Type}{lo hi:Nat}{l:List α}:(ba lo hi l).length≤l.length:=N1 (z2j _ _) (ru V4 (z0a _ _))
theorem RepL.cut {S:Sy}{β:Fz}{ps:List PV}{vs:List Value}(lo hi:Nat)(r:RepL S β ps vs):RepL S β (ba lo hi ps) (ba lo hi vs):=(r.drop lo).take _
theorem Ab (xs:List Value)(a b:Nat):((List.range (b-a)).filterMap λ (k:Nat)=>xs.toArray[((a:Int)+(k:Int)*1).toNat]?).toArray=(ba a b xs).toArray :=
 congrArg List.toArray (Aa xs a _ _ λ k=>by refine ru (Int.mul_one ..) (ru (T7) ?_);rfl)
section
variable {prog:Program} {w:World} {A:Around} {E:Value→Shared→Prop} {s:Shared}
theorem v8 {v:Value}{k:Option Int}{Q:Option Int→Shared→Prop}(pv:IsPart v k)(hq:Q k s):wpAny (model prog w) A (Builtin.Slice.slicePartIndex v) Q E s:=by
 cases pv with
 | none=>exact slicePart_none hq
 | int i t=>exact slicePart_int hq
theorem MC {c n:Nat}(h:c≤n):(if (c:Int)<0 then max ((c:Int)+n) 0 else min (c:Int) n)=c:=(if_neg (V2.mpr (Q7 c))).trans (z1n (V5.mpr h))
theorem y7 (lo:Option Int)(a b n:Nat)(ha:lo=none∧a=0∨lo=some (a:Int))(hab:a≤b)(hb:b≤n):Builtin.Slice.sliceAdjust lo (some (b:Int)) 1 (n:Int)=((a:Int),(b:Int)) :=
 ha.elim (λ h=>h.1▸ru h.2 (congrArg (Prod.mk (0:Int)) (MC hb))) λ h=>ru h (Prod.ext (MC (N1 hab hb)) (MC hb))
theorem tV {sl:Addr}{va vb:Value}{lo:Option Int}{b n:Nat}{Q:Int×Int×Nat→Shared→Prop}(hs:s.heap.IsSliceOf sl va vb .none)(pa:IsPart va lo)(pb:IsPart vb (some (b:Int)))
  (a:Nat) (ha:lo=none∧a=0∨lo=some (a:Int)) (hab:a≤b) (hb:b≤n) (h:Q ((a:Int),1,b-a) s) :
  wpAny (model prog w) A (Builtin.Slice.sliceApplied (.ref sl) (pure (n:Int))) Q E s:=by
 refine hs.elim λ os w1z=>w1z.elim λ hos w2z=>w2z.elim λ hcs hds=>?_
 refine wpAny_bind (wpAny_bind (wpAny_field hos hds (x:=va) rfl (wpAny_bind (wpAny_field hos hds (x:=vb) rfl (wpAny_bind (wpAny_field hos hds (x:=.none) rfl (wpAny_pure ?_)))))))
 refine wpAny_bind (slicePart_none ?_)
 refine ru (if_neg (by decide)) ?_
 refine wpAny_bind (v8 pa (wpAny_bind (v8 pb (wpAny_bind (wpAny_pure ?_)))))
 refine ru (y7 lo a b n ha hab hb) ?_
 have e2:Builtin.Slice.slicePlaces (a:Int) (b:Int) 1=b-a:=FR a b (λ x=>(x-1) / 1+1) (by exact ru (Int.ediv_one ..) (ru (Int.sub_add_cancel ..) rfl))
 exact wpAny_pure (show Q ((a:Int),(1:Int),Builtin.Slice.slicePlaces (a:Int) (b:Int) 1) s from ri e2.symm h)
theorem jO {t sl:Addr}{items:List Value}{va vb:Value}{lo:Option Int}{b:Nat}{Q:Value→Shared→Prop}(ht:s.heap.IsTuple t items.toArray)(hs:s.heap.IsSliceOf sl va vb .none)(pa:IsPart va lo)(pb:IsPart vb (some (b:Int)))
  (a:Nat) (ha:lo=none∧a=0∨lo=some (a:Int)) (hab:a≤b) (hb:b≤items.length) (hno:a≠0∨b≠items.length)
  (h:Q (.ref s.heap.objs.size) { s with heap:=s.heap.push { cls:=.type "tuple",data:=.seq (ba a b items).toArray } })
  (hsz:items.length≤sizeLine):wpAny (model prog w) A (getItem (.ref t) (.ref sl)) Q E s:=by
 have hcut:sizeOk (.seq (ba a b items).toArray):=by
  show (ba a b items).toArray.size≤sizeLine
  refine ru P2 ?_
  exact N1 mj hsz
 unfold getItem
 try with_reducible refine wpAny_holding ?_
 first | refine wpAny_bind (wpAny_pure ?_) | skip
 refine wpAny_bind (wpAny_sequenceKey ht.typeIs (by decide) ?_)
 refine wpAny_bind (wpAny_callSpecial?_slot (name:=Str.ofString "__getitem__") ht.typeIs slot_tuple_getitem
  (wpAny_call_entry slot_tuple_getitem ht.typeIs entry_tuple_getitem ?_ (args_tuple_getitem _ _)))
 show wpAny _ _ (Builtin.Tuple.tupleItemsOf (.ref t) >>= _) _ _ s
 refine wpAny_bind (tupleItemsOf_ ht ?_)
 refine wpAny_bind (wpAny_typeOf (hs.imp λ os q=>⟨q.1,q.2.1⟩:s.TypeIs (.ref sl) "slice") ?_)
 refine ru (if_pos (by decide)) ?_
 refine wpAny_bind ?_
 refine ru (P2:items.toArray.size=items.length) ?_
 refine tV hs pa pb a ha hab hb ?_
 have hno':¬ (((a:Int)==0&&(1:Int)==1&&(b-a)==items.length)=true):=λ h =>
  have h:=N4.mp h
  have z:=Int.ofNat.inj (beq_iff_eq.mp (aj h.1))
  hno.elim (· z) (· ((z▸Nat.sub_zero b).symm.trans (beq_iff_eq.mp h.2)))
 show wpAny _ _ (if ((a:Int)==0&&(1:Int)==1&&(b-a)==items.toArray.size)=true then _ else _) _ _ s
 refine ru (P2:items.toArray.size=items.length) (ru (if_neg hno') (ru (Ab items a b) ?_))
 first
  | exact wpAny_bind (m:=Builtin.Tuple.tupleExact _) (wpAny_newObj_type (wpAny_pure ⟨_,rfl,wpAny_pure h⟩) hcut)
  | exact wpAny_bind (m:=Builtin.Tuple.tupleExact _) (wpAny_newObj_type (wpAny_bind (wpAny_pure (wpAny_pure ⟨_,rfl,wpAny_pure h⟩))) hcut)
  | exact wpAny_bind (wpAny_bind (m:=Builtin.Tuple.tupleExact _) (wpAny_newObj_type (wpAny_pure (wpAny_pure ⟨_,rfl,wpAny_pure h⟩)) hcut))
  | exact wpAny_bind (wpAny_bind (m:=Builtin.Tuple.tupleExact _) (wpAny_newObj_type (wpAny_pure ⟨_,rfl,wpAny_pure h⟩) hcut))
end
end
end Mine
end
section
open PySem PySem.W PyProof.Rows PySem.Calls
open PySem.Builtin PySem.Builtin.Str
namespace Mine
noncomputable section
section
variable {n:Nat} {ρ:am} {σ:aa} {r:aY PV}
noncomputable def E3 (vb vc:Value):Obj:={ cls:=.type "slice",data:=.fields #[vb,vc,.none] }
noncomputable def om (x y z:PV)(σ:aa)(v:PV):Prop:=∀ va vb vc X Φ P,lq X→J X Φ [(z,vc),(y,vb),(x,va)] (λ Q E s=>ItemOn X.M X.A E va (.ref s.heap.objs.size) Q { s with heap:=s.heap.push (E3 vb vc) }) (bj X.S) P σ (.ok v σ)
theorem Ac {a:IE}{X:Cx}{Φ:Ow}(l:Option Expr)(fx:lq X)(d:X.d=n)(vis:Cr X ρ Φ)(h:(rel a X.ce).v (yd l)=true)(ha:Ev n a ρ σ r):J X Φ [] (X.wp (evalPart l X.env)) (bj X.S) bD σ r:=by
 cases l with
 | none=>exact (ha.v X _ Φ fx d h vis).map λ Z9 Z9 Z9 q=>q
 | some e=>exact ha.v X _ Φ fx d h vis
theorem tr {a b c:IE}(k:dc (Ev n a ρ σ) (λ x σ₁=>dc (Ev n b ρ σ₁) λ y σ₂=>dc (Ev n c ρ σ₂) λ z σ₃ r=>∃ v,om x y z σ₃ v∧r=.ok v σ₃) r):Ev n (.slice a b c) ρ σ r:=.ofV (λ Z9 Z9=>rfl) (λ Z9 Z9=>rfl) λ X e Φ fx d h vis=>uC e h λ v i p h =>
 AF (motive:=λ i=>J X Φ [] (X.wp (eval (.Subscript v i p) X.env)) (bj X.S) bD σ r) i (aE h) λ l u q h2=>(J.seqV k (λ Z9 ha=>ha.v X v Φ fx d (aj h) vis) λ x σ₁ k va=>(J.seqV (W:=λ vb Q E s=>wpAny X.M X.A (evalPart u X.env) (λ vc s₁=>ItemOn X.M X.A E va (.ref s₁.heap.objs.size) Q { s₁ with heap:=s₁.heap.push (E3 vb vc) }) E s) k (λ Z9 hb=>(Ac l fx d vis (aj h2) hb).wk) λ y σ₂ k vb =>
  J.seqV k (λ Z9 hc=>(Ac u fx d vis (aE h2) hc).wk) λ z σ₃ k vc=>k.elim λ v k=>ru k.2 (k.1 va vb vc X Φ bD fx)).map λ Z9 Z9 Z9 q=>wpAny_Slice (wpAny_mono q (λ Z9 Z9 q=>wpAny_mono q (λ Z9 Z9 q=>evalPart_none_step (zA q)) λ Z9 Z9 e=>e) λ Z9 Z9 e=>e)).map λ Z9 Z9 Z9=>Subscript_
theorem f6 (h:Heap):KeptH (λ h'=>h.StaysIn h'):=λ h' ob k b o e=>Heap.get?_push_of_some ob (k b o e)
theorem CW {x:List Nat}{y z:PV}{l h:Nat}(hy:gW x.length 0 y=some l)(hz:gW x.length x.length z=some h):om (.str x) y z σ (.str (ba l h x)):=λ va vb vc X Φ P fx s β Q E at' g po=>rS (motive:=λ va=>ItemOn X.M X.A E va (.ref s.heap.objs.size) Q { s with heap:=s.heap.push (E3 vb vc) }) va g.2.2.1 λ ok t =>
 (jY hy g.2.1).elim λ p pp=>(jY hz g.1).elim λ q qq=>by
  have hx:(aG x).length≤sizeLine:=by refine ru (aK ..) ?_;exact N1 ok.1 bt
  have gA:∀ (h':Heap) (t':Tok) (k:Nat),s.heap.StaysIn h'→Q (.str (Txt.slice (aG x) p q) t') { s with heap:=h',toks:=k }:=λ h' t' k st=>(at'.2.keeps st).elim λ β' w =>
   po _ _ β' ⟨at'.1,w.1⟩ w.2.1 ⟨⟨N1 mj ok.1,λ c m=>ok.2 c (Es m)⟩,t',by exact ru (xN ..) (ru pp.2 (ru qq.2 rfl))⟩
  have pl:=pp.1
  have ph:=qq.1
  cases pl with
  | none=>cases ph with
   | none=>exact SBH.sliceItem_nn (f6 s.heap) (λ Z9 Z9 e=>e) gA hx
   | int j u=>exact SBH.sliceItem_ns (f6 s.heap) (λ Z9 Z9 e=>e) gA hx
  | int i t=>cases ph with
   | none=>exact SBH.sliceItem_sn (f6 s.heap) (λ Z9 Z9 e=>e) gA hx
   | int j u=>exact SBH.sliceItem_ss (f6 s.heap) (λ Z9 Z9 e=>e) gA hx
theorem M6 {h:Heap}{vb vc:Value}:(h.push (E3 vb vc)).IsSliceOf h.objs.size vb vc .none:=⟨_,Heap.get?_push_size _ rfl,rfl,rfl⟩
theorem CX {x:List PV}{y z:PV}{l h:Nat}(hy:gW x.length 0 y=some l)(hz:gW x.length x.length z=some h):om (.lst x) y z σ (.lst (ba l h x)):=λ va vb vc X Φ P fx s β Q E at' g po=>rL (motive:=λ va=>ItemOn X.M X.A E va (.ref s.heap.objs.size) Q { s with heap:=s.heap.push (E3 vb vc) }) va g.2.2.1 λ ok a is t q =>
 (jY hy g.2.1).elim λ p pp=>(jY hz g.1).elim λ p' qq=>(uq at' (o:=E3 vb vc) rfl).elim λ β' w =>
  have t':=DU (DU t w.2.1.b) w.1.2.st
  ⟨"list",_,slot_list_getitem.lookup,t'.typeIs,wpAny_getItem_list_slice t' M6 pp.1 qq.1 .none (by decide)
   (uz w.1 (po.le w.2.1) (o:={ cls:=.type "list",data:=.seq (slicePick is.toArray p p' none) }) rfl rfl λ β'' l g=>⟨N1 mj ok,_,ba _ _ is,rfl,si (n:=0) (by rw [yb] at g;exact g),by
    refine ru pp.2 (ru qq.2 (ri q.length ?_));exact (q.cut _ _).mono (w.2.1.trans l)⟩)
   (by refine ru P2 (ru q.length ?_);exact N1 ok bt)⟩
theorem vZ {x:List PV}{y z:PV}{i j:Nat}(hy:y=.none∧i=0∨y=.int i)(hz:z=.int j)(hij:i≤j)(hj:j≤x.length)(hn:i≠0∨j≠x.length):om (.tup x) y z σ (.tup (ba i j x)):=λ va vb vc X Φ P fx s β Q E at' g po=>rT (motive:=λ va=>ItemOn X.M X.A E va (.ref s.heap.objs.size) Q { s with heap:=s.heap.push (E3 vb vc) }) va g.2.2.1 λ ok a is t q =>
 (uq at' (o:=E3 vb vc) rfl).elim λ β' w=>by
  have t':=rj (rj t w.2.1.b) w.1.2.st
  have pz:IsPart vc (some (j:Int)):=by cases hz;exact rI vc g.1 λ t=>.int _ _
  have py:∃ lo,IsPart vb lo∧(lo=none∧i=0∨lo=some (i:Int)):=hy.elim (λ e=>⟨none,by cases e.1;exact ru (show vb=.none from g.2.1) .none,.inl ⟨rfl,e.2⟩⟩) λ e=>⟨_,by cases e;exact rI vb g.2.1 λ t=>.int _ _,.inr rfl⟩
  exact py.elim λ lo py=>⟨"tuple",_,slot_tuple_getitem.lookup,t'.typeIs,jO t' M6 py.1 pz i py.2 hij (ri q.length.symm hj) (ri q.length.symm hn)
   (uz w.1 (po.le w.2.1) (o:={ cls:=.type "tuple",data:=.seq (ba i j is).toArray }) rfl rfl λ β'' l g=>⟨N1 mj ok,_,ba i j is,rfl,mC (n:=0) g,(q.cut _ _).mono (w.2.1.trans l)⟩)
   (by refine ru q.length ?_;exact N1 ok bt)⟩
theorem pO {i:Int}(h:0≤i):∃ k:Nat,i=k∧i.toNat=k:=⟨i.toNat,(T4 h).symm,rfl⟩
theorem rJ {x y z v:PV}(h:dN x y z=some v):om x y z σ v:=by
 cases x with
 | str s=>exact (O5.mp h).elim λ l w=>(O9.mp w.2).elim λ r w'=>ri w'.2 (CW w.1 w'.1)
 | lst s=>exact (O5.mp h).elim λ l w=>(O9.mp w.2).elim λ r w'=>ri w'.2 (CX w.1 w'.1)
 | tup s=>cases z with
  | int j=>cases y with
   | none =>
    have w:=cW h
    obtain ⟨k,rfl,-⟩:=pO w.1.1
    exact ri w.2 (vZ (.inl ⟨rfl,rfl⟩) rfl (P4 _) (by simp;(first | lia | omega)) (.inr (by simp;(first | lia | omega))))
   | int i =>
    have w:=cW h
    obtain ⟨k,rfl,-⟩:=pO (i:=j) (by (first | lia | omega))
    obtain ⟨k',rfl,-⟩:=pO (i:=i) (by (first | lia | omega))
    exact ri w.2 (vZ (.inr rfl) rfl (by simp;(first | lia | omega)) (by simp;(first | lia | omega)) (.inl (by simp;(first | lia | omega))))
   | _=>exact b2 h
  | _=>exact b2 h
 | _=>exact b2 h
end
end
end Mine
end
section
open PySem PySem.W PyProof.Rows PySem.Calls
open PySem.Builtin PySem.Builtin.Str
namespace Mine
noncomputable section
theorem G6 {K:Type}[DecidableEq K]{k:K}{p:PV}(ks:List K):∀ (vs:List PV),bz k ks vs=some p→∃ i:Nat,ks[i]?=some k∧vs[i]?=some p:=by
 induction ks with
 | nil=>exact λ Z9 h=>b2 h
 | cons a r ih =>
  intro vs h
  cases vs with
  | nil=>exact b2 h
  | cons v q =>
   by_cases e:k=a
   ·exact ⟨0,congrArg some e.symm,(if_pos e).symm.trans (h:(if k=a then some v else bz k r q)=some p)⟩
   ·exact (ih q ((if_neg e).symm.trans (h:(if k=a then some v else bz k r q)=some p))).elim λ i w=>⟨i+1,w⟩
theorem y9.handed {P R v}(h:y9 P R v):handedIn v=true:=h.elim λ a h=>h.elim λ is h=>ru h.1 rfl
theorem bj.handed {S:Sy}{β:Fz}{p:PV}{v:Value}(r:bj S β p v):handedIn v=true:=by
 cases p with
 | none=>refine ru (show v=_ from r) ?_;rfl
 | bool=>refine ru (show v=_ from r) ?_;rfl
 | int=>exact r.elim λ Z9 e=>ru e rfl
 | str=>exact r.2.elim λ Z9 e=>ru e rfl
 | rng=>exact r.2.elim λ Z9 e=>ru e.1 rfl
 | loc=>exact r.elim λ Z9 e=>ru e.1 rfl
 | exn=>exact r.elim λ Z9 e=>ru e.1 rfl
 | inst=>exact y9.handed r
 | _=>exact y9.handed r.2
theorem Ed {prog:Program}{w:World}{A:Around}{E:Value→Shared→Prop}{s:Shared}{K:Frag}{C x:Addr}{ox:Obj}{od:Option Obj}{name:Str}{v:Value}{Q:Value→Shared→Prop}(X:K.In s.heap)(I:InstAt s.heap x ox C od)
  (hga:findIn K (.ref C) "__getattribute__"=some (some (.builtin "BaseException.__getattribute__"))) (hk:findIn K (.ref C) "__getattr__"=some none) (hi:subIn K (.ref C) (.type "BaseException")=some true)
  (hf:findObj K C od name=some (.value v)) (hh:handedIn v=true) (h:Q v { s with toks:=s.toks+1 }):wpAny (model prog w) A (getAttr (.ref x) name true) Q E s:=by
 have ht:=I.type (M:=model prog w)
 refine wpAny_bind (wpAny_mkText (wpAny_holding (wpAny_bind (ht _ _ _ _ (λ Z9 Z9 e=>e) (wpAny_bind (looks_findIn X hga _ _ _ _ (λ Z9 Z9 e=>e) ?_))))))
 dsimp only
 refine ru (show (onTheHeap (Value.ref C)&&Value.builtin "BaseException.__getattribute__"==Value.builtin "object.__getattribute__")=false from by rw [show (Value.builtin "BaseException.__getattribute__"==Value.builtin "object.__getattribute__")=false from by decide +kernel,z1s]) (ru (if_neg (by decide)) ?_)
 refine wpAny_bind (looks_hook X (r:=none) (by refine ru (if_pos (by rfl)) ?_;exact hk) _ _ _ _ (λ Z9 Z9 e=>e) (wpAny_bind (wpAny_attempt (wpAny_holding ?_))))
 unfold callGetattribute
 refine ru (show (true&&onTheHeap (Value.builtin "BaseException.__getattribute__"))=false from rfl) (ru (if_neg (by decide)) ?_)
 unfold boundAndCalled
 refine ru (PySem.F.excAttr_ValueError.ga.bind ..) ?_
 refine wpAny_bind (wpAny_pure ?_)
 refine wpAny_call ?_
 refine codeAny_call_builtin PySem.F.excAttr_ValueError.ga.plain PySem.F.entry_bexc_ga ?_
 refine @check_slot (model prog w) _ _ { s with toks:=s.toks+1 } "BaseException.__getattribute__" "BaseException" "__getattribute__" (.ref x) [.str name s.toks] [] _ (by decide +kernel) (by decide +kernel) (ht.andThen (looks_subIn X hi)) (PySem.F.args_bexc_ga (.ref x) (.str name s.toks)) ?_
 refine wpAny_bind (wpAny_pure (wpAny_bind (wpAny_pure (wpAny_bind (ht _ _ _ _ (λ Z9 Z9 e=>e) (wpAny_bind ((looks_find (M:=model prog w) X I hf) _ _ _ _ (λ Z9 Z9 e=>e) ?_)))))))
 refine wpAny_pure ?_
 show wpAny _ _ (handedOut v) _ _ _
 refine ru (handedOut_of hh) ?_;exact wpAny_pure h
section
variable {n:Nat} {ρ:am} {σ:aa} {r:aY PV}
noncomputable def xH (x:PV)(name:List Nat)(σ:aa)(v:PV):Prop:=∀ va,Lf [(x,va)] (getAttr va (aG name) true) σ (.ok v σ)
theorem Eg {a:IE}{name:List Nat}(k:dc (Ev n a ρ σ) (λ x σ₁ r=>∃ v,xH x name σ₁ v∧r=.ok v σ₁) r):Ev n (.attr a name) ρ σ r:=.ofV (λ Z9 Z9=>rfl) (λ Z9 Z9=>rfl) λ X e Φ fx d h vis=>jB e h λ v x p h =>
 (beq_iff_eq.mp (aj (aj h)):x=aG name)▸(J.seqV k (λ Z9 ha=>ha.v X v Φ fx d (aE h) vis) λ x σ₁ k va=>k.elim λ q k=>ru k.2 (k.1 va X Φ bD fx)).map λ Z9 Z9 Z9 q=>Attribute_any_ q (by exact ru (arm_eval_Attribute ..) (ru (qX (aE (aj h))) rfl))
theorem H8 {c:Nat}{ks:List (List Nat)}{vs:List PV}{name:List Nat}{v:PV}(h:bz name ks vs=some v):xH (.inst c ks vs) name σ v:=λ va X Φ P fx s β Q E at' g po=>(G6 ks vs h).elim λ i hi=>g.1.elim λ ad w=>w.elim λ vals w=>by
 obtain ⟨rfl,⟨dx,es,n,sl,e1,e2,hl,hok,e3⟩,q⟩:=w
 refine (q.get hi.2).elim λ u hu=>?_
 obtain ⟨hg,hh,attr,ha,hn⟩:=hok _ (Q1 hi.1)
 exact get_value (λ a o e=>at'.ns _ _ (fx.top.inK a o e)) (⟨at'.2.st _ _ e1,rfl,rfl,at'.2.st _ _ e2⟩:InstAt s.heap ad ⟨.ref (X.S.cls c),some dx,.plain,sl⟩ (X.S.cls c) (some (dictOf es n))) (plainGet_of hg).1 (findObj_own hh ha hn (e3 i _ u hi.1 hu.1)) hu.2.handed (po _ _ β at' .rfl' hu.2)
theorem H7 {a:Int}:xH (.exn a) [97,116] σ (.int a):=λ va X Φ P fx s β Q E at' g po=>g.1.elim λ ea w=>by
 obtain ⟨rfl,d,vs,sl,e1,es,n,e2,t,e3⟩:=w
 refine fx.top.rv.2.elim λ oC w1z=>w1z.elim λ fa w2z=>w2z.elim λ fr R=>?_
 obtain ⟨attr,ha,hn⟩:=R.at_
 exact Ed (λ a o e=>at'.ns _ _ (fx.top.inK a o e)) (⟨at'.2.st _ _ e1,rfl,rfl,at'.2.st _ _ e2⟩:InstAt s.heap ea ⟨.ref X.S.bad,some d,.fields vs,sl⟩ X.S.bad (some (dictOf es n))) R.ga R.gn R.sub (findObj_own R.dict ha hn e3) rfl (po _ _ β at' .rfl' ⟨t,rfl⟩)
theorem EI {x v:PV}{name:List Nat}(h:FZ x name=some v):xH x name σ v:=by
 cases x with
 | inst c ks vs=>exact H8 h
 | exn a =>
  have w:=cW (show (if name=[97,116] then some (PV.int a) else none)=some v from h)
  exact w.1▸ri w.2 H7
 | _=>exact b2 h
theorem HB:Ev n .nil ρ σ (.ok (.loc σ.length) (σ++[.lst []])):=.ofV (λ Z9 Z9=>rfl) (λ Z9 Z9=>rfl) λ X e Φ fx d h vis=>uD e h λ es p h s β Q E a g po =>
 ru (S6.mp h) (List_ (spliced_nil (wpAny_newList (GI a po (o:={ cls:=.type "list",data:=.seq #[] }) rfl rfl λ h' Z9=>⟨P4 _,[],λ h e=>⟨_,e⟩,rfl⟩) (P4 _))))
theorem not_modules {mg:Str→Option Value}{h:Heap}(g:h.Ns mainGlobals mg):(h.objs.size==sysModules)=false:=g.elim λ o g=>g.elim λ es g=>g.elim λ ep g =>
 beq_eq_false_iff_ne.mpr (z0k (P8 (show sysModules<mainGlobals by decide) (Heap.lt_size g.1)))
theorem tG {prog:Program}{w:World}{K:Type}[DecidableEq K]{knd:PySem.KeyKind prog w K}{a:Addr}{h:Heap}(e:h.get? a=some { cls:=.type "dict",data:=.dict #[] }):h.DictOf knd a []:=⟨_,#[],0,e,⟨rfl,rfl,rfl⟩,rfl,λ Z9 he=>by simp at he,.nil,z0s⟩
theorem Ef:Ev n .dct0 ρ σ (.ok (.loc σ.length) (σ++[.dctI [] []])):=.ofV (λ Z9 Z9=>rfl) (λ Z9 Z9=>rfl) λ X e Φ fx d h vis=>qj e h λ ks vs p h s β Q E a g po =>
 S6.mp (aj h)▸ru (S6.mp (aE h)) (wpAny_Dict_empty (GI a po rfl rfl λ h' Z9=>⟨P4 _,[],λ h e=>⟨rfl,not_modules (fx.top.g.keeps a.ns),tG e⟩,rfl⟩))
theorem hZ {c:Const}{s:List Nat}(h:(some c==Lq (.str s))=true):c=.str (aG s)∧oM s :=
 have w:=cW (beq_iff_eq.mp h:some c=if wc s=true then some (Const.str (aG s)) else none).symm
 ⟨w.2.symm,N1 (of_decide_eq_true (aj w.1)) (by decide),λ c m=>of_decide_eq_true (O2.mp (aE w.1) c m)⟩
@[elab_as_elim] theorem vS {motive:List Expr→Prop}{s:List Nat}{ss:List (List Nat)}(es:List Expr)(h:iG (s::ss) es=true)(f:∀ u p es,oM s→iG ss es=true→motive (.Constant (.str (aG s)) u p::es)):motive es:=by
 cases es with
 | nil=>exact ff h
 | cons e es=>exact jA e (aj h) λ c u p q=>ru ((hZ q).1) (f u p es (hZ q).2 (aE h))
theorem Ad {prog:Program}{w:World}{A:Around}{E:Value→Shared→Prop}{env:Env}{S:Sy}{β:Fz}{pos:Pos}{s:Shared}(ks:List (List Nat)):∀ (vs:List (List Nat)) (as:List (Option Expr)) (bs:List Expr) (Q:List (Value×Value)→Shared→Prop),as.all (·.isSome)=true→iG ks (as.filterMap _root_.id)=true→iG vs bs=true→ks.length=vs.length →
  (∀ r t vals,Carries (PySem.strKind prog w) r ((ks.map aG).zip vals)→RepL S β (vs.map .str) vals→(∀ k∈ks,oM k)→Q r { s with toks:=t })→wpAny (model prog w) A (evalPairs (pairTrees as bs env pos)) Q E s:=by
 induction ks generalizing s with
 | nil =>
  intro vs as bs Q h1 h2 h3 h4 hQ
  cases vs with
  | cons=>exact Ix h4
  | nil =>
   cases bs with
   | cons=>exact ff h3
   | nil=>cases as with
    | cons a as=>cases a with
     | none=>exact ff h1
     | some e=>exact ff h2
    | nil=>exact pairTrees_nil_walk (hQ [] s.toks [] trivial rfl (O1 _))
 | cons k ks ih =>
  intro vs as bs Q h1 h2 h3 h4 hQ
  cases vs with
  | nil=>exact Iw h4
  | cons v vs=>cases as with
   | nil=>exact ff h2
   | cons a as=>cases a with
    | none=>exact ff h1
    | some a =>
     refine jA (motive:=λ a=>wpAny (model prog w) A (evalPairs (pairTrees (some a::as) bs env pos)) Q E s) a (aj (h2:iG (k::ks) (a::as.filterMap _root_.id)=true)) λ c u p q=>ru ((hZ q).1) (vS bs h3 λ u' p' bs ov h3=>?_)
     exact pairTrees_cons_walk (wpAny_mkText (wpAny_mkText (ih vs as bs _ h1 (aE (h2:iG (k::ks) (a::as.filterMap _root_.id)=true)) h3 (Nat.succ.inj h4) λ r t vals c1 c2 c3=>hQ _ _ (_::vals) ⟨by simp [PySem.strKind,Value.isStrOf],rfl,c1⟩ ⟨_,vals,rfl,⟨ov,_,rfl⟩,c2⟩ (N7.mpr ⟨(hZ q).2,c3⟩))))
theorem oR (ks:List (List Nat)):∀ es,iG ks es=true→es.length=ks.length:=by
 induction ks with
 | nil=>exact λ es h=>by cases es<;>first | rfl | exact ff h
 | cons k ks ih=>exact λ es h=>vS es h λ u p es Z9 h=>congrArg (·+1) (ih es h)
theorem zO {α:Type}(l:List (Option α))(h:l.all (·.isSome)=true):(l.filterMap _root_.id).length=l.length:=by
 induction l with
 | nil=>rfl
 | cons a l ih=>cases a with
  | none=>exact ff h
  | some a=>exact congrArg (·+1) (ih h)
theorem Ee {ks vs:List (List Nat)}:Ev n (.dctc ks vs) ρ σ (.ok (.dctS ks (vs.map .str)) σ):=.ofV (λ Z9 Z9=>rfl) (λ Z9 Z9=>rfl) λ X e Φ fx d h vis=>qj e h λ as bs p h s β Q E a g po=>by
 have h2:=an (aj (aj h))
 have h4:=an (aj h2.1)
 have hl:ks.length=vs.length:=beq_iff_eq.mp h2.2
 have hz:=of_decide_eq_true (aE h)
 have la:=(zO as h4.1).symm.trans (oR ks _ h4.2)
 refine wpAny_Dict_walk (knd:=PySem.strKind X.S.prog X.S.w) h4.1 (by exact ru la (ru (oR vs _ (aE h2.1)) (ru hl rfl))) (λ q=>by rw [q] at la;exact absurd la (V7 hz.1)) (by refine ru la ?_;exact hz.2) ?_
 refine Ad (S:=X.S) (β:=β) ks vs as bs _ h4.1 h4.2 (aE h2.1) hl λ r t vals c1 c2 c3=>⟨_,c1,Heap.DictOf.new _,λ h' hd sb=>?_⟩
 have lv:vals.length=ks.length:=by exact ru c2.length (ru (N3 ..) (ru hl rfl))
 rw [merged_nil_of_nodup _ (by refine ru (z0h (by rw [N3,lv];exact N8 _)) ?_;exact (of_decide_eq_true (aE (aj h))).map aG λ x y hne q=>hne (cU q))] at hd
 refine (a.2.keeps (λ b o e=>(sb.2 b (V7 (Heap.lt_size e))).trans (Heap.get?_push_of_some _ e):s.heap.StaysIn h')).elim λ β' w=>po _ _ β' ⟨a.1,w.1⟩ w.2.1 ⟨⟨(N1 hz.2 (by decide):ks.length≤ax),c3⟩,_,vals,rfl,?_,c2.mono w.2.1⟩
 refine hd.elim λ o w1z=>w1z.elim λ es w2z=>w2z.elim λ ep w3z=>w3z.elim λ x y=>?_
 exact ⟨o,w.2.2.2 _ _ (λ m=>a.2.new (Heap.get?_none_of_le (N8 _)) m) x,λ h e=>⟨lv,not_modules (fx.top.g.keeps a.ns),o,es,ep,e,y⟩⟩
end
end
end Mine
end
section
open PySem PySem.W PyProof.Rows PySem.Calls
open PySem.Builtin PySem.Builtin.Str
namespace Mine
noncomputable section
section
theorem GA {x:List Nat}{y:Str}(h:oM x)(hl:y.length≤x.length)(hm:∀ c∈y.cps,c∈x):oM (cQ y):=⟨N1 hl h.1,λ c m=>h.2 c (hm c (Array.mem_toList_iff.mp m))⟩
theorem iY {x:List Nat}{i j:Nat}(h:oM x):oM (cQ (strSub (aG x) i j)):=GA h (ri (aK x) (strSub_length_le (aG x) i j)) λ c m=>by
 obtain ⟨k,hk,rfl⟩:=Array.mem_extract_iff_getElem.mp (show c∈(x.toArray.extract i j) from m)
 exact z3h.mp (Array.getElem_mem _)
theorem yh {x:List Nat}(h:oM x):oM (av x):=by
 show oM (cQ (if _ then _ else _))
 split
 ·exact h
 ·exact iY h
theorem yg {x:List Nat}(h:oM x):∀ y∈ai x,oM y:=Q5.mpr λ z hz=>by
 unfold Txt.words at hz
 split at hz
 ·exact ru (P7.mp hz) h
 ·exact (S0.mp hz).elim λ p w=>ri w.2 (iY h)
theorem yi {x:List Nat}{c:Nat}(h:oM x):∀ y∈aq c x,oM y:=Q5.mpr λ z hz=>by
 unfold Txt.split at hz
 split at hz
 ·exact ru (P7.mp hz) h
 ·split at hz
  ·exact ru (P7.mp hz) h
  ·exact (S0.mp hz).elim λ p w=>ri w.2 (iY h)
theorem yj {i:Int}(h:m8 i=true):oM (aL i):=by
 unfold aL
 refine ⟨?_,λ c m=>?_⟩
 ·exact N1 (ru (show (cQ (Str.ofString (toString i))).length=(toString i).length from PySem.ofString_length _) (int_text_length_le10 (a:=i) (k:=4300) (by decide) (P8 (of_decide_eq_true h) (by decide +kernel)))) (by decide)
 ·rw [Str.ofString_eq_toList] at m
  obtain ⟨ch,_,rfl⟩:=S0.mp m
  exact ch.valid.elim (λ h=>P8 h (by decide)) λ h=>h.2
theorem Dn {i:Int}(h:m8 i=true):i.natAbs.log2<1920:=by
 by_cases h0:i.natAbs=0
 ·refine ru h0 ?_;decide
 ·exact P8 ((z2n h0).mpr (of_decide_eq_true h:i.natAbs<2 ^ 256)) (by decide)
theorem RepL.strs {S:Sy}{β:Fz}(l:List (Str×Tok)):(∀ y∈l.map (λ p=>cQ p.1),oM y)→RepL S β ((l.map λ p=>cQ p.1).map .str) (strValues l):=by
 induction l with
 | nil=>exact λ Z9=>rfl
 | cons p l ih=>exact λ ok=>⟨_,_,rfl,⟨ok _ N2,p.2,rfl⟩,ih λ y m=>ok y (N9 _ m)⟩
end
theorem Fp {X:Cx}{s:Shared}{β σ Φ}{b α:Type}{R:RT b α}{P}{Q:α→Shared→Prop}{E}{p:b}{v:α}{h':Heap}{s':Shared}(a:At X s β σ Φ)(po:fu X Φ R P β Q E (.ok p σ))(st:s.heap.StaysIn h')(e:s'={ s with heap:=h',toks:=s'.toks })(h:∀ β',Le β β'→(∀ ad o,s.heap.get? ad=none→h'.get? ad=some o→β'.B.get? ad=some o)→R β' p v):Q v s' :=
 (a.2.keeps st).elim λ β' q=>po _ _ β' (ru e (⟨a.1,q.1⟩)) q.2.1 (h β' q.2.1 λ ad o n x=>q.2.2.2 ad o (λ m=>a.2.new n m) x)
section
variable {σ:aa}
theorem AX {x:PV}{n:Nat}(h:jE σ x=some n):t8 .len x σ (.int n):=by
 have dct:(df σ x).map (λ o=>match o with | .lst vs=>vs.length | .dctI ks _=>ks.length | .dctS ks _=>ks.length)=some n→bw σ x=(df σ x).bind eR→t8 .len x σ (.int n):=λ h hl=>(O9.mp h).elim λ o w=>by
  cases o with
  | lst vs=>exact λ va X Φ P fx s β Q E at' g po=>vL va g.1 at' (hl.trans ((congrArg (Option.bind · eR) w.1).trans rfl)) λ a is t q l =>
    call_len_list t (by refine ru P2 (ru q.length ?_);exact (small l).1) (po _ _ β at' .rfl' ⟨_,by refine ru P2 (ru q.length ?_);exact congrArg (λ n:Nat=>Value.int n _) w.2⟩)
  | dctI ks vs=>exact λ va X Φ P fx s β Q E at' g po=>vD va g.1 at' w.1 λ d q=>q.elim λ ob q=>q.2.2.elim λ is z =>
    have q':=z.1 _ q.1
    have hz:((ks.map _root_.id).zip is).length=ks.length:=by exact ru z0n (ru (N3 ..) (ru q'.1 (ru (z1f ..) rfl)))
    call_len_dict q'.2.1 q'.2.2 (ru hz ((small q.2.1).1)) (po _ _ β at' .rfl' ⟨_,by refine ru hz ?_;exact congrArg (λ n:Nat=>Value.int n _) w.2⟩)
  | dctS ks vs=>exact λ va X Φ P fx s β Q E at' g po=>vD va g.1 at' w.1 λ d q=>q.elim λ ob q=>q.2.2.elim λ is z =>
    have q':=z.1 _ q.1
    have hz:((ks.map aG).zip is).length=ks.length:=by exact ru z0n (ru (N3 ..) (ru q'.1 (ru (z1f ..) rfl)))
    call_len_dict q'.2.1 q'.2.2 (ru hz ((small q.2.1.1).1)) (po _ _ β at' .rfl' ⟨_,by refine ru hz ?_;exact congrArg (λ n:Nat=>Value.int n _) w.2⟩)
 cases x with
 | str x=>exact λ va X Φ P fx s β Q E at' g po=>rS va g.1 λ l t=>PySem.P.len_str (by refine ru (aK ..) ?_;exact (small l.1).2) (po _ _ β at' .rfl' ⟨_,by refine ru (aK ..) ?_;exact congrArg (λ n:Nat=>Value.int n _) (Option.some.inj h)⟩)
 | tup vs=>exact λ va X Φ P fx s β Q E at' g po=>rT va g.1 λ l a is t q=>len_tuple (rj t at'.2.st) (by refine ru P2 (ru q.length ?_);exact (small l).1) (po _ _ β at' .rfl' ⟨_,by refine ru P2 (ru q.length ?_);exact congrArg (λ n:Nat=>Value.int n _) (Option.some.inj h)⟩)
 | lst vs=>exact λ va X Φ P fx s β Q E at' g po=>rL va g.1 λ l a is t q=>call_len_list (DU t at'.2.st) (by refine ru P2 (ru q.length ?_);exact (small l).1) (po _ _ β at' .rfl' ⟨_,by refine ru P2 (ru q.length ?_);exact congrArg (λ n:Nat=>Value.int n _) (Option.some.inj h)⟩)
 | loc l=>exact dct h rfl
 | dctI=>exact dct h rfl
 | dctS=>exact dct h rfl
 | _=>exact b2 h
theorem Gx {c:Nat}:t8 .ord (.str [c]) σ (.int c):=λ va X Φ P fx s β Q E at' g po=>rS va g.1 λ l t=>PySem.P.ord_of_char (po _ _ β at' .rfl' ⟨_,rfl⟩)
theorem HX {i:Int}(h:0≤i∧i<1114112):t8 .chr (.int i) σ (.str [i.toNat]):=λ va X Φ P fx s β Q E at' g po=>rI va g.1 λ t =>
 PySem.P.chr_of_int (by simp only [z0r,decide_eq_false_iff_not];(first | lia | omega)) (po _ _ β at' .rfl' ⟨⟨by show 1≤ax;decide,λ c m=>ru (P7.mp m) (by (first | lia | omega))⟩,s.toks,rfl⟩)
theorem zE {i:Int}(h:m8 i=true):t8 .str (.int i) σ (.str (aL i)):=λ va X Φ P fx s β Q E at' g po=>rI va g.1 λ t=>PySem.P.str_of_int (Dn h) (po _ _ β at' .rfl' ⟨yj h,s.toks,rfl⟩)
theorem DC {vs:List PV}:t8 .list (.tup vs) σ (.lst vs):=λ va X Φ P fx s β Q E at' g po=>rT va g.1 λ l a is t q=>(rj t at'.2.st).elim λ o w=>w.2.2.elim λ n d =>
 call_list_seq a (.inr rfl) w.1 w.2.1 d (λ h' c' k e=>Fp at' po k rfl λ β' lb f=>⟨l,_,is,rfl,⟨_,f _ _ (Heap.get?_none_of_le (N8 _)) e,rfl,_,rfl⟩,q.mono lb⟩) (by refine ru P2 (ru q.length ?_);exact N1 l bt)
theorem zn {x:PV}{vs:List PV}(h:bw σ x=some vs):t8 .tuple x σ (.tup vs):=λ va X Φ P fx s β Q E at' g po=>vL va g.1 at' h λ a is t q l =>
 call_tuple_list t (λ h' k=>Fp at' po (λ b o e=>Heap.get?_push_of_some _ (k b o e)) rfl λ β' lb f=>⟨l,_,is,rfl,⟨_,f _ _ (LT k (Heap.get?_none_of_le (N8 _))) (Heap.get?_push_size _ rfl),rfl,_,rfl⟩,q.mono lb⟩) (by refine ru P2 (ru q.length ?_);exact N1 l bt)
theorem z8 {i:Int}(h:0≤i∧i<2 ^ 40):t8 .range (.int i) σ (.rng i.toNat):=λ va X Φ P fx s β Q E at' g po=>rI va g.1 λ t =>
 have e:((i.toNat:Nat):Int)=i:=T4 h.1
 call_range_1 (uz at' po rfl rfl λ β' l f=>⟨ri e.symm h.2,_,rfl,s.toks,t,s.toks+1,ri e.symm f⟩)
theorem z1 {p:Fn}(h:MF p)(hp:p.ty="str")(x:List Nat):oo p (.str x) σ:=⟨h,λ X s β Φ va a r=>rS va r λ Z9 t=>⟨ru hp (typeIs_str _ _ _),λ Z9 e=>nomatch e⟩⟩
theorem zD {x:List Nat}:M0 .strip (.str x) σ (.str (av x)):=⟨z1 Au rfl x,λ va X Φ P fx s β Q E at' g po=>rS va g.1 λ l t=>SC.strip (λ t' k=>po _ _ β at' .rfl' ⟨yh l,t',rfl⟩) (by refine ru (aK ..) ?_;exact N1 l.1 bt)⟩
section
variable {prog:Program} {w:World} {A:Around} {E:Value→Shared→Prop} {s:Shared}
theorem rH {x:Str}{t:Tok}{Q:Value→Shared→Prop}(hx:x.length+1≤sizeLine)
  (h:∀ (l:List (Str×Tok)) k,l.map (·.1)=Txt.words x→Q (.ref s.heap.objs.size) { s with heap:=s.heap.push { cls:=.type "list",data:=.seq (strValues l).toArray },toks:=k }) :
  wpAny (model prog w) A (call (.builtin "str.split") [.str x t]) Q E s:=by
 have h2:∀ l:List (Nat×Nat),l.length≤StrLaws.wsum l:=λ l=>by
  induction l with
  | nil=>exact P4 _
  | cons p r ih=>show r.length+1≤(p.2-p.1+1)+StrLaws.wsum r;(first | lia | omega)
 refine call_meets F.slot_str_split (typeIs_str _ _ _) F.entry_str_split (F.args_str_split_1 _) (meets_str_split_space x t (by (first | lia | omega)) (N1 (h2 _) (N1 (StrLaws.sw_weight x).1 (by (first | lia | omega))):(spaceWords x (x.length+1)).length≤sizeLine)) ?_
 cases hw:spaceWords x (x.length+1)==[(0,x.length)]
 ·simp only [Bool.false_eq_true,if_false]
  refine ru (strsFrom_eq ..) ?_
  exact h (numbered s.toks (PySem.wordsOf x)) _ ((numbered_texts _ _).trans (if_neg (ne_true_of_eq_false hw)).symm)
 ·simp only [if_true]
  exact h [(x,t)] s.toks (if_pos hw).symm
theorem rG {x y:Str}{t u:Tok}{Q:Value→Shared→Prop}(hx:x.length+2≤sizeLine)(hy:(y.length==0)=false)
  (h:∀ (l:List (Str×Tok)) k,l.map (·.1)=Txt.split x y→Q (.ref s.heap.objs.size) { s with heap:=s.heap.push { cls:=.type "list",data:=.seq (strValues l).toArray },toks:=k }) :
  wpAny (model prog w) A (call (.builtin "str.split") [.str x t,.str y u]) Q E s:=by
 have hn:(partsBetween x (occurrences x y 0 x.length (x.length+1)) y.length).length≤sizeLine:=by
  refine ru (length_partsBetween ..) ?_
  have:=StrLaws.occ_length_le x y 0 x.length (x.length+1)
  (first | lia | omega)
 cases h1:(decide (x.length<y.length)||decide (PySem.Builtin.Str.strKind x<PySem.Builtin.Str.strKind y))
 ·cases hf:(occurrences x y 0 x.length (x.length+1)).isEmpty
  ·refine call_meets F.slot_str_split (typeIs_str _ _ _) F.entry_str_split (F.args_str_split_2 _ _) (meets_str_split_sep x y t u h1 hy hf (by (first | lia | omega)) hn) ?_
   show wants Q E _ { s with toks:=_,heap:=s.heap.push { cls:=.type "list",data:=.seq (strsFrom s.toks (partsBetween x (occurrences x y 0 x.length (x.length+1)) y.length)).toArray } }
   refine ru (strsFrom_eq ..) ?_
   exact h (numbered s.toks _) _ ((numbered_texts _ _).trans ((if_neg (ne_true_of_eq_false h1)).trans (if_neg (ne_true_of_eq_false hf))).symm)
  ·exact call_meets F.slot_str_split (typeIs_str _ _ _) F.entry_str_split (F.args_str_split_2 _ _) (meets_str_split_not_found x y t u h1 hy hf) (h [(x,t)] s.toks ((if_neg (ne_true_of_eq_false h1)).trans (if_pos hf)).symm)
 ·exact call_meets F.slot_str_split (typeIs_str _ _ _) F.entry_str_split (F.args_str_split_2 _ _) (meets_str_split_cannot_occur x y t u h1) (h [(x,t)] s.toks (if_pos h1).symm)
end
theorem rz {X:Cx}{s s':Shared}{β Φ P}{Q:Value→Shared→Prop}{E}{ys:List (List Nat)}{l:List (Str×Tok)}{zs:List Str}(at':At X s β σ Φ)(po:fu X Φ (bj X.S) P β Q E (.ok (.lst (ys.map .str)) σ))(hy:zs.map cQ=ys)(hl:ys.length≤ax)(ok:∀ y∈ys,oM y)(e:l.map (·.1)=zs)
  (hs:s'={ s with heap:=s.heap.push { cls:=.type "list",data:=.seq (strValues l).toArray },toks:=s'.toks }):Q (.ref s.heap.objs.size) s':=by
 have e':l.map (λ p=>cQ p.1)=ys:=by refine ri hy (ri e (ru T0 ?_));rfl
 exact uz at' po rfl hs λ β' lb f=>⟨by refine ru (N3 ..) ?_;exact hl,_,strValues l,rfl,⟨_,f,rfl,_,rfl⟩,e'▸RepL.strs l (ri e'.symm ok)⟩
theorem zM {x:List Nat}(h:(ai x).length≤ax):M0 .split (.str x) σ (.lst ((ai x).map .str)):=⟨z1 Av rfl x,λ va X Φ P fx s β Q E at' g po=>rS va g.1 λ l t =>
 rH (by refine ru (aK ..) ?_;exact N1 (P3 l.1) (by decide)) λ l' k e=>rz at' po rfl h (yg l) e rfl⟩
theorem fU {f:Option PV}{os:List OV}{K:aY PV→List OV→Prop}(h:∀ v os,f=some v→K (.ok v σ) os):zS f σ os K:=by
 unfold zS
 cases hd os with
 | auto=>cases f with
  | none=>trivial
  | some v=>exact h v _ rfl
 | v x=>exact λ e=>h x _ e
 | _=>trivial
theorem pQ {f:Option (PV×aa)}{os:List OV}{K:aY PV→List OV→Prop}(h:∀ v σ' os,f=some (v,σ')→K (.ok v σ') os):It f os K:=by
 unfold It
 cases hd os with
 | auto=>cases f with
  | none=>trivial
  | some v=>exact h v.1 v.2 _ rfl
 | r x σ'=>exact λ e=>h x σ' _ e
 | _=>trivial
theorem li {f:Option Bool}{os:List OV}{K:aY PV→List OV→Prop}(h:∀ v os,f=some v→K (.ok (.bool v) σ) os):FX f σ os K:=by
 unfold FX
 cases hd os with
 | auto=>cases f with
  | none=>trivial
  | some v=>exact h v _ rfl
 | b x=>exact λ e=>h x _ e
 | _=>trivial
end
end
end Mine
end
section
open PySem PySem.W PyProof.Rows PySem.Calls
open PySem.Builtin PySem.Builtin.Str
namespace Mine
noncomputable section
theorem yQ (l:Addr)(items:Array Value)(n:Nat)(b:Addr)(items2:Array Value)(n2:Nat)(dd:Option Addr)(sl:Array (Option Value))(hs0:¬(!items.isEmpty&&Builtin.List.listTooLong (items.size+items2.size))=true)(hs1:items.size≤sizeLine)(hs2:items.size+items2.size≤sizeLine+1) :
  Meets (Builtin.«list.extend» ⟨[.ref l,.ref b],[]⟩) (λ Z9 R s=>s.heap.get? l=some { cls:=.type "list",dict:=none,data:=.seq items n,slots:=#[] }∧s.heap.get? b=some { cls:=.type "tuple",dict:=dd,data:=.seq items2 n2,slots:=sl }∧R (.ok (.ret Value.none)) { s with heap:=s.heap.update l (Obj.mapSeq λ x=>x++items2),toks:=s.toks }) :=
 .of_wp λ prog w A R s h=>by
  obtain ⟨hp,g,d,tk,os⟩:=s;obtain ⟨hl,hb,h⟩:=h;have f1:=AutoSeq1.idx_int;have f2:=AutoSeq1.sub_tuple_tuple;have f3:=AutoSeq1.sub_list_list;have f4:=AutoSeq1.sub_tuple_list;have f5:=AutoSeq1.sub_list_tuple;
  wp_walk using (PySem.wpAny_updateSeq hl rfl (hz:=hs1) (_hz':=(by refine ru Array.size_append ?_;exact hs2:(items++items2).size≤sizeLine+1))),AutoSeq1.wpAny_loadPart' hl,AutoSeq1.wpAny_loadPart' hb;exact ⟨_,rfl,h⟩
section
variable {σ:aa}
theorem uI {a:PV}{f:Nat→List PV→Option (PV×aa)}{r:PV×aa}(h:DB σ a f=some r):∃ l vs,a=.loc l∧σ[l]?=some (.lst vs)∧f l vs=some r:=by
 cases a<;>first | exact (O5.mp h).elim λ o w=>(O5.mp w.2).elim λ vs w'=>⟨_,vs,rfl,ri (ql w'.1) w.1,w'.2⟩ | exact b2 h
theorem Gu {α β:Type}{a c:α}{b d:β}(h:(a,b)=(c,d)):a=c∧b=d:=⟨congrArg Prod.fst h,congrArg Prod.snd h⟩
theorem Gl {X:Cx}{s s':Shared}{β Φ P}{Q:Value→Shared→Prop}{E}{l:Nat}{a:Addr}{o:aN}{h':Heap}(at':At X s β σ Φ)(po:fu X Φ (bj X.S) P β Q E (.ok .none (σ.set l o)))(e:β.μ[l]?=some a)(k:Heap.SameBut a s.heap h')(r:jf h' a λ x=>eH X.S β a x o)(hs:s'={ s with heap:=h',toks:=s'.toks }):Q .none s' :=
 po .none _ β (ru hs (⟨at'.1,at'.2.setσ e k.extBut r⟩)) .rfl' rfl
theorem Hw {a b x:PV}{σ':aa}(h:Hx σ a b=some (x,σ')):M1 .extend a b σ (.ok x σ'):=(uI h).elim λ l w=>w.elim λ vs w=>by
 obtain ⟨rfl,w2,w⟩:=w
 cases b with
 | tup ws =>
  obtain ⟨rfl,rfl⟩:=Gu (cW w).2
  exact λ va vb X Φ P fx s β Q E at' g po=>pV va g.2.1 at' w2 λ ad ox e1 e2 ob=>rT vb g.1 λ l2 t is2 ht q2=>ob.2.elim λ is q=>(q.1 _ e2).elim λ n gl=>(rj ht at'.2.st).elim λ o2 w'=>w'.2.2.elim λ n2 d2=>by
   obtain ⟨oc,od,odat,osl⟩:=o2
   obtain ⟨f1,rfl,-⟩:=w'
   cases d2
   have hz:is.toArray.size+is2.toArray.size≤ax:=by refine ru P2 (ru P2 (ru q2.length (ru q.2.length (ri N5 ?_))));exact (cW w).1
   refine call_meets PySem.F.slot_list_extend ⟨_,gl,rfl⟩ PySem.F.entry_list_extend (PySem.F.args_list_extend_2 _ _) (yQ ad is.toArray n t is2.toArray n2 od osl (extend_door (N1 hz bt)) (N1 (P1 _ _) (N1 hz bt)) (N1 hz (by decide))) ⟨gl,f1,?_⟩
   exact Gl at' po e1 (Heap.SameBut.update s.heap ad (Obj.mapSeq λ x=>x++is2.toArray)) ⟨_,Heap.get?_update_self _ gl (by refine ru (mapSeq_app ..) ?_;rfl),(cW w).1,is++is2,λ h e=>⟨_,by exact ru e (ru (mapSeq_app ..) (ru (List.append_toArray ..) rfl))⟩,q.2.append q2⟩ rfl
 | _=>exact b2 w
theorem Ic {a b x:PV}{σ':aa}(h:q9 σ a b=some (x,σ')):M1 .append a b σ (.ok x σ'):=(uI h).elim λ l w=>w.elim λ vs w=>by
 obtain ⟨rfl,w2,w⟩:=w
 obtain ⟨rfl,rfl⟩:=Gu (cW w).2
 exact λ va vb X Φ P fx s β Q E at' g po=>pV va g.2.1 at' w2 λ ad ox e1 e2 ob=>ob.2.elim λ is q =>
  wpAny_list_append_plain (q.1 _ e2) (λ h' g' sb=>g'.elim λ n g'=>Gl at' po e1 sb ⟨_,g',ri ((N5 ..).symm) (cW w).1,is++[vb],λ h e=>⟨n,by exact ru e (ru (z3c ..) rfl)⟩,q.2.append (.single g.1)⟩ rfl)
   (by refine ru P2 (ru q.2.length ?_);exact N1 (T3 (cW w).1) bt)
theorem Et {is:List Value}{vb:Value}{k:Nat}(h:k≤is.length):(is.toArray.extract 0 k).push vb++is.toArray.extract k=(is.take k++vb::is.drop k).toArray:=by
 apply Array.ext'
 simp [Y2]
theorem Hi {is:List Value}{vb:Value}{i:Int}(h0:0≤i)(h:i.toNat≤is.length):(λ xs:Array Value=>have k':=if i<0 then (i+((xs.size:Nat):Int)).toNat else min i.toNat xs.size;(xs.extract 0 k').push vb++xs.extract k') is.toArray=(is.take i.toNat++vb::is.drop i.toNat).toArray :=
 (congrArg (λ k=>(is.toArray.extract 0 k).push vb++is.toArray.extract k) ((if_neg (V2.mpr h0)).trans (V0 (by refine ru P2 ?_;exact h)))).trans (Et h)
theorem Hh {a i b x:PV}{σ':aa}(h:Hj σ a i b=some (x,σ')):M2 .insert a i b σ (.ok x σ'):=(uI h).elim λ l w=>w.elim λ vs w=>by
 obtain ⟨rfl,w2,w⟩:=w
 cases i with
 | int i =>
  have w:=cW w
  obtain ⟨rfl,rfl⟩:=Gu w.2
  have hk:i.toNat≤vs.length:=z1g.mpr w.1.2.2
  exact λ va vi vb X Φ P fx s β Q E at' g po=>pV va g.2.2.1 at' w2 λ ad ox e1 e2 ob=>rI vi g.2.1 λ t=>ob.2.elim λ is q=>(q.1 _ e2).elim λ n gl=>by
   have hfit:¬(!Builtin.List.listFitsIndex i)=true:=by
    have:=(small (T3 w.1.1)).1
    have:=w.1.2
    unfold Builtin.List.listFitsIndex
    simp only [U2,Bool.not_eq_false,X5,decide_eq_true_eq]
    (first | lia | omega)
   refine call_meets PySem.F.slot_list_insert ⟨_,gl,rfl⟩ PySem.F.entry_list_insert (PySem.F.args_list_insert_3 _ _ _) (AutoListH.list_insert_list_int_val_1 ad is.toArray n i t vb hfit (by refine ru P2 (ru q.2.length ?_);exact N1 (T3 w.1.1) bt:is.toArray.size≤sizeLine)) ⟨gl,?_⟩
   refine Gl at' po e1 (Heap.SameBut.update s.heap ad _) ⟨_,Heap.get?_update_self _ gl rfl,?_,is.take i.toNat++vb::is.drop i.toNat,λ h e=>⟨_,by refine ru e (ri (Hi (vb:=vb) w.1.2.1 (q.2.length.symm▸hk:i.toNat≤is.length)) ?_);rfl⟩,(q.2.take _).append ⟨vb,_,rfl,g.1,q.2.drop _⟩⟩ rfl
   refine ru N5 (ru z3j (ru V1 (ru V4 ?_)));(first | lia | omega)
 | _=>exact b2 w
theorem noDict {h:Heap}{K:Type}[DecidableEq K]{prog:Program}{w:World}{knd:PySem.KeyKind prog w K}{d:Addr}{kvs}(a2:h.DictOf knd d kvs):∀ a,Value.ref d=.ref a→∃ ob,h.get? a=some ob∧ob.dict=none:=λ a e=>a2.mapOf.noDict a e
theorem DZ {a k d x:PV}(h:getD σ a k d=some x):M2 .get a k d σ (.ok x σ):=(O5.mp h).elim λ o w=>(O9.mp w.2).elim λ r w'=>w'.2▸λ va vk vd X Φ P fx s β Q E at' g po=>vD va g.2.2.1 at' w.1 λ ad q =>
 tU (C:=wpAny X.M X.A (call (.builtin "dict.get") [.ref ad,vk,vd]) Q E s) q g.2.1 w'.1 λ knd k' kvs a1 a2 a3 a4=>call_meetsIn PySem.F.slot_dict_get a2.typeIs PySem.F.entry_dict_get (PySem.F.args_dict_get_3 _ _ _) (meets_dict_get_default knd ad a1 a4 vd) ⟨_,a2.mapOf,by
  refine po _ _ β at' .rfl' ?_
  cases r with
  | none=>refine ru (show valueAt kvs k'=none from a3) ?_;exact g.1
  | some p=>exact a3.elim λ v z=>by refine ru z.1 ?_;exact z.2⟩
theorem E6 {p:Fn}(h:MF p)(hp:p.ty="list"){x:PV}{vs:List PV}(e:iJ σ x=some vs):oo p x σ:=⟨h,λ X s β Φ va a r=>(DA e).elim λ l w=>by
 obtain ⟨rfl,w⟩:=w
 exact pV va r a w λ ad ox e1 e2 ob=>ob.2.elim λ is q=>(q.1 _ e2).elim λ n gl=>⟨ru hp (⟨_,gl,rfl⟩),λ b e=>ri (Value.ref.inj e) (⟨_,gl,rfl⟩)⟩⟩
theorem E7 {x:PV}{o:aN}(e:df σ x=some o)(ho:dF o (.str [])≠none∨dF o (.int 0)≠none):oo .get x σ:=⟨GP,λ X s β Φ va a r=>vD va r a e λ d q=>by
 have go:∀ k v rr,bj X.S β k v→dF o k=some rr→s.TypeIs (.ref d) "dict"∧∀ a,Value.ref d=.ref a→∃ ob,s.heap.get? a=some ob∧ob.dict=none:=λ k v rr rk ek=>tU q rk ek λ knd k' kvs a1 a2 a3 a4=>⟨a2.typeIs,noDict a2⟩
 refine ho.elim (λ ho=>?_) (λ ho=>?_)
 ·cases hk:dF o (.str []) with
  | none=>exact absurd hk ho
  | some rr=>exact go (.str []) (.str (aG []) 0) rr ⟨⟨P4 _,λ Z9 m=>o4 m⟩,0,rfl⟩ hk
 ·cases hk:dF o (.int 0) with
  | none=>exact absurd hk ho
  | some rr=>exact go (.int 0) (.int 0 0) rr ⟨0,rfl⟩ hk⟩
theorem Bf (sep:List Nat)(ss:List (List Nat)):Txt.join (aG sep) (ss.map aG)=aG (ah sep ss):=by
 show glued _ _=_
 refine ru (StrLaws.glued_eq_join ..) ?_
 induction ss with
 | nil=>rfl
 | cons a r ih=>cases r with
  | nil=>rfl
  | cons b q =>
   show aG a++aG sep++Str.join (aG sep) ((b::q).map aG)=aG (a++sep++ah sep (b::q))
   rw [ih,fT,fT]
theorem Bd (sep:List Nat)(ss:List (List Nat)):∀ k,(ss.map aG).foldl (·+·.length+(aG sep).length) k≤k+(ah sep ss).length+sep.length:=by
 induction ss with
 | nil=>exact λ k=>P1 k _
 | cons a r ih=>cases r with
  | nil=>exact λ k=>N8 _
  | cons b q =>
   intro k
   refine N1 (ih _) ?_
   show k+a.length+sep.length+_+_≤k+(a++sep++ah sep (b::q)).length+_
   refine ru N5 (ru N5 ?_);(first | lia | omega)
theorem zB {S:Sy}{β:Fz}(vs:List PV):∀ (items:List Value) (ss:List (List Nat)),RepL S β vs items→i3 jp vs=some ss→(∃ l:List (Str×Tok),items=strValues l∧l.map (·.1)=ss.map aG)∧∀ y∈ss,oM y:=by
 induction vs with
 | nil=>exact λ items ss q e=>Option.some.inj e▸ru (show items=[] from q) (⟨⟨[],rfl,rfl⟩,O1 _⟩)
 | cons p r ih =>
  exact λ items ss q e=>q.elim λ v q=>q.elim λ rest q=>(O5.mp e).elim λ s e=>(O9.mp e.2).elim λ ss' e'=>by
   cases p with
   | str x =>
    obtain ⟨⟨l,h1,h2⟩,h3⟩:=ih rest ss' q.2.2 e'.1
    obtain ⟨ok,t,hv⟩:=q.2.1
    have e1:x=s:=Option.some.inj e.1
    subst e1
    exact q.1▸ri e'.2 (⟨⟨(aG x,t)::l,by refine ru hv (ru h1 ?_);rfl,congrArg (aG x::·) h2⟩,N7.mpr ⟨ok,h3⟩⟩)
   | _=>exact b2 e.1
theorem Be {sep:List Nat}{ss:List (List Nat)}{P:Nat→Prop}(h1:∀ c∈sep,P c)(h:∀ y∈ss,∀ c∈y,P c):∀ c∈ah sep ss,P c:=by
 induction ss with
 | nil=>exact O1 _
 | cons a r ih =>
  cases r with
  | nil=>exact h a N2
  | cons b q=>exact λ c m=>(R0.mp (show c∈a++sep++ah sep (b::q) from m)).elim (λ m=>(R0.mp m).elim (h a N2 c) (h1 c)) (ih (λ y m=>h y (N9 _ m)) c)
theorem DN {x:List Nat}{b v:PV}(h:wE σ x b=some v):M1 .join (.str x) b σ (.ok v σ):=(O5.mp h).elim λ vs w=>(O5.mp w.2).elim λ ss w'=>by
 have z:=cW w'.2
 exact z.2▸λ va vb X Φ P fx s β Q E at' g po=>rS va g.2.1 λ l t=>vL (motive:=λ vb=>wpAny X.M X.A (call (.builtin "str.join") [.str (aG x) t,vb]) Q E s) vb g.1 at' w.1 λ d is hd q Z9=>by
  obtain ⟨⟨l',rfl,e2⟩,ok⟩:=zB vs is ss q w'.1
  refine SC.join hd e2 ?_ λ t' k=>po _ _ β at' .rfl' ⟨⟨z.1.2,Be l.2 λ y m=>(ok y m).2⟩,t',by exact ru (Bf ..) rfl⟩
  unfold JoinOk
  refine ri (Array.foldl_toList ..) ?_
  simp only [tooLong,U2,decide_eq_false_iff_not]
  exact W5.mpr (N1 (N1 (Bd x ss 0) (R7 (S5 z.1.2 0) z.1.1)) (by decide))
theorem un {x:List Nat}{c:Nat}(h:(aq c x).length≤ax):M1 .splitOn (.str x) (.str [c]) σ (.ok (.lst ((aq c x).map .str)) σ):=λ va vb X Φ P fx s β Q E at' g po=>rS va g.2.1 λ l t=>rS vb g.1 λ Z9 u =>
 rG (by refine ru (aK ..) ?_;exact N1 (U7 l.1 2) (by decide)) rfl λ l' k e=>rz at' po rfl h (yi l) e rfl
theorem Ek {x y:List Nat}:M1 .endswith (.str x) (.str y) σ (.ok (.bool (Txt.endswith (aG x) (aG y))) σ):=λ va vb X Φ P fx s β Q E at' g po=>rS va g.2.1 λ l t=>rS vb g.1 λ Z9 u=>SC.endswith (po _ _ β at' .rfl' rfl)
theorem xS {x y:List Nat}:M1 .startswith (.str x) (.str y) σ (.ok (.bool (Txt.startswith (aG x) (aG y))) σ):=λ va vb X Φ P fx s β Q E at' g po=>rS va g.2.1 λ l t=>rS vb g.1 λ Z9 u=>SC.startswith (po _ _ β at' .rfl' rfl)
theorem Bv {x y:List Nat}{i:Nat}(h:nM y x=some i):M1 .index (.str x) (.str y) σ (.ok (.int i) σ):=λ va vb X Φ P fx s β Q E at' g po=>rS va g.2.1 λ l t=>rS vb g.1 λ Z9 u=>by
 unfold nM at h
 cases ho:occurrences (aG x) (aG y) 0 x.length 1 with
 | nil=>rw [ho] at h;exact b2 h
 | cons j r =>
  rw [ho] at h
  cases Option.some.inj h
  exact SC.index (by refine ru (aK ..) ?_;exact ho) (po _ _ β at' .rfl' ⟨_,rfl⟩)
end
end
end Mine
end
section
open PySem PySem.W PyProof.Rows PySem.Calls
namespace Mine
noncomputable section
theorem oE:entryFor table "proto.unchain"=some Builtin.«proto.unchain»:=entryFor_of_fast (by kernel_rfl)
theorem lp.extBut {h h':Heap}{hd}{a:Addr}(x:lp h hd)(k:Heap.ExtBut a h h')(hne:hd≠some (.ref a)):lp h' hd:=λ v e=>(x v e).imp λ b x=>x.imp λ o x=>x.imp λ vs y=>⟨y.1,k b o (λ q=>hne (e.trans (congrArg some (y.1.trans (congrArg Value.ref q))))) y.2.1,y.2.2⟩
theorem lp.fresh {h:Heap}{hd}{a:Addr}(x:lp h hd)(n:h.get? a=none):hd≠some (.ref a):=λ e=>(x _ e).elim λ b x=>x.elim λ o x=>x.elim λ vs y=>cH (Value.ref.inj y.1▸n) y.2.1
section
variable {prog:Program} {w:World} {A:Around} {E:Value→Shared→Prop} {s:Shared}
theorem oY {α:Type}{e:Addr}{o:Obj}{vs:Array Value}{Q:α→Shared→Prop}(he:s.heap.get? e=some o)(hd:o.data=.fields vs)(h2:2<vs.size)(hok:lp s.heap A.handled)(hne:A.handled≠some (.ref e))
  (h:∀ h' vs',Heap.SameBut e s.heap h'→h'.get? e=some { o with data:=.fields vs' }→vs'.size=vs.size→(∀ i,i≠2→vs'[i]?=vs[i]?)→(A.handled=none→vs'=vs)→E (.ref e) { s with heap:=h' }) :
  wpAny (model prog w) A (raiseNew (.ref e):Sem α) Q E s:=by
 simp only [raiseNew]
 refine wpAny_bind (wpAny_handled ?_)
 cases hh:A.handled with
 | none=>exact wpAny_throw (h s.heap vs (Heap.SameBut.refl ..) (ri hd he) rfl (λ Z9 Z9=>rfl) λ Z9=>rfl)
 | some v =>
  obtain ⟨x,ox,vx,rfl,ex,dx,nx⟩:=hok v hh
  refine K6 (bne_iff_ne.mpr λ q=>hne (hh.trans (congrArg some q)):(Value.ref x !=Value.ref e)=true) (wpAny_bind (wpAny_holding (wpAny_runValue (codeAny_builtin oE (wpAny_bind (m:=field (.ref x) 2) (wpAny_field ex dx (x:=.none) nx (K6 (c:=(Value.none==Value.none)=true) rfl (wpAny_pure ?_))))))))
  refine wpAny_bind (wpAny_bind (wpAny_load he ?_))
  refine ru hd ?_
  refine K6 (c:=2<vs.size) h2 (wpAny_update he (wpAny_throw (h _ (vs.setIfInBounds 2 (.ref x)) (Heap.SameBut.update ..) ?_ (by simp) (λ i hi=>Array.getElem?_setIfInBounds_ne (Ne.symm hi)) λ q=>cH q hh)))
  refine ru (Heap.get?_update_self _ he (Obj.isFreed_of_fields (Obj.data_mapFields hd _))) ?_
  obtain ⟨c,d,dt,sl⟩:=o;cases hd;rfl
theorem uk {α:Type}{A':Around}{it:Addr}{h₀:Heap}{Q:α→Shared→Prop}{Q':Option Value→Shared→Prop}{E':Value→Shared→Prop}(hok:lp h₀ A.handled)(hni:A.handled≠some (.ref it))(sb:Heap.ExtBut it h₀ s.heap)(hQ:∀ h',Heap.ExtBut it h₀ h'→Q' none { s with heap:=h' }) :
  wpAny (model prog w) A (newExc (.type "StopIteration") [] >>= λ e=>(raiseNew e:Sem α)) Q (λ e s'=>wpAny (model prog w) A' (do if ← isInstance e (.type "StopIteration") then pure none else throw e) Q' E' s') s:=by
 refine wpAny_bind ?_
 simp only [newExc,newTuple]
 refine wpAny_bind (wpAny_newObj_type ?_ (by size_fits))
 refine wpAny_bind (m:=firstArgMember _ _) (wpAny_of_eq (a:=Value.none) (by first | rfl | (simp only [firstArgMember];rfl)) ?_)
 refine wpAny_newObj_type ?_ (by size_fits)
 have st:∀ o o',s.heap.StaysIn ((s.heap.push o).push o'):=λ o o' b x e=>Heap.get?_push_of_some _ (Heap.get?_push_of_some _ e)
 have fr:∀ o:Obj,s.heap.get? (s.heap.push o).objs.size=none:=λ o=>Heap.get?_none_of_le (by refine ru (Heap.size_push ..) ?_;exact U4 _)
 refine oY (Heap.get?_push_size _ rfl) rfl (by show 2<6;decide) ((hok.extBut sb hni).keep (st _ _)) ((hok.extBut sb hni).fresh (fr _)) λ h' vs' sb' g Z9 Z9 Z9=>?_
 exact wpAny_bind (wpAny_isInstance (T:="StopIteration") (b:=true) ⟨_,g,rfl⟩ isSubtype_stop (wpAny_pure (hQ h' λ b o n e =>
  (sb'.2 b λ q=>cH (fr _) (ri q (sb b o n e))).trans (st _ _ _ _ (sb b o n e)))))
theorem kA {T id:String}{b:Builtin}{it:Addr}{Q:Option Value→Shared→Prop}(sl:Slot T "__next__" id)(en:entryFor table id=some b)(ha:argsOk id ⟨[.ref it],[]⟩)(hT:s.TypeIs (.ref it) T)(hok:lp s.heap A.handled)(hni:A.handled≠some (.ref it))(hQ:∀ h',Heap.ExtBut it s.heap h'→Q none { s with heap:=h' })
  (body:∀ Q' E',(∀ {α:Type} (Q':α→Shared→Prop) h',Heap.ExtBut it s.heap h'→wpAny (model prog w) A.in1 (newExc (.type "StopIteration") [] >>= λ e=>(raiseNew e:Sem α)) Q' E' { s with heap:=h' })→wpAny (model prog w) A.in1 (b ⟨[.ref it],[]⟩) Q' E' s):wpAny (model prog w) A (pyNext (.ref it)) Q E s:=by
 exact wpAny_bind (wpAny_attempt (wpAny_callSpecial?_slot hT sl (wpAny_call_entry sl hT en (body _ _ λ Z9 h' sb=>uk (A:=A.in1) (s:={ s with heap:=h' }) hok hni sb hQ) ha)))
variable {it l:Addr} {i:Nat} {o:Obj} {Q:Option Value→Shared→Prop}
theorem AS {items:List Value}(hok:lp s.heap A.handled)(hni:A.handled≠some (.ref it))(ho:s.heap.get? it=some o)(hc:o.cls=.type "list_iterator")(hd:o.data=.fields #[.ref l,.int i 0])(hl:s.heap.IsList l items.toArray)(hx:items.toArray[i]?=none)
  (hQ:∀ h',Heap.ExtBut it s.heap h'→Q none { s with heap:=h' }):wpAny (model prog w) A (pyNext (.ref it)) Q E s :=
 kA slot_listiter_next entry_listiter_next (args_listiter_next _) ⟨o,ho,hc⟩ hok hni hQ λ Q' E' k=>hl.elim λ ol z=>by
  refine wpAny_bind (m:=field (.ref it) 0) (wpAny_field ho hd (x:=.ref l) rfl (wpAny_bind (m:=field (.ref it) 1) (wpAny_field ho hd (x:=.int i 0) rfl (wpAny_bind (m:=seqItems? (.ref l)) (wpAny_seqItems z.1 z.2.2.choose_spec ?_)))))
  show wpAny _ _ (match items.toArray[i]? with | some x=>_ | none=>_) _ _ _
  refine ru hx ?_
  exact wpAny_bind (wpAny_rule (wpAny_bind (wpAny_setField ho hd (T6 _) (k _ _ (Heap.SameBut.update ..).extBut))))
theorem oO {items:List Value}(hok:lp s.heap A.handled)(hni:A.handled≠some (.ref it))(ho:s.heap.get? it=some o)(hc:o.cls=.type "tuple_iterator")(hd:o.data=.fields #[.ref l,.int i 0])(hl:s.heap.IsTuple l items.toArray)(hx:items.toArray[i]?=none)
  (hQ:∀ h',Heap.ExtBut it s.heap h'→Q none { s with heap:=h' }):wpAny (model prog w) A (pyNext (.ref it)) Q E s :=
 kA PySem.F.slot_tuple_iterator_next PySem.F.entry_tuple_iterator_next (PySem.F.args_tuple_iterator_next_1 _) ⟨o,ho,hc⟩ hok hni hQ λ Q' E' k=>hl.elim λ ol z=>by
  refine wpAny_bind (m:=field (.ref it) 0) (wpAny_field ho hd (x:=.ref l) rfl (wpAny_bind (m:=field (.ref it) 1) (wpAny_field ho hd (x:=.int i 0) rfl (wpAny_bind (m:=seqItems? (.ref l)) (wpAny_seqItems z.1 z.2.2.choose_spec ?_)))))
  show wpAny _ _ (match items.toArray[i]? with | some x=>_ | none=>_) _ _ _
  refine ru hx ?_
  exact wpAny_bind (wpAny_rule (wpAny_bind (wpAny_setField ho hd (T6 _) (k _ _ (Heap.SameBut.update ..).extBut))))
theorem x6 {x left step:Int}(hok:lp s.heap A.handled)(hni:A.handled≠some (.ref it))(hit:IsRangeIter s.heap it x left step)(hleft:left≤0)
  (hQ:∀ h',Heap.ExtBut it s.heap h'→Q none { s with heap:=h' }):wpAny (model prog w) A (pyNext (.ref it)) Q E s :=
 kA PySem.F.slot_range_iterator_next PySem.F.entry_range_iterator_next (PySem.F.args_range_iterator_next_1 _) ⟨_,hit,rfl⟩ hok hni hQ λ Q' E' k=>by
  refine wpAny_bind (m:=field (.ref it) 0) (wpAny_field hit rfl (x:=rawInt x) rfl (wpAny_bind (m:=field (.ref it) 1) (wpAny_field hit rfl (x:=rawInt left) rfl (wpAny_bind (m:=field (.ref it) 2) (wpAny_field hit rfl (x:=rawInt step) rfl ?_)))))
  exact K6 (c:=left≤0) hleft (wpAny_bind (wpAny_rule (wpAny_bind (k _ _ (Heap.ExtBut.refl it s.heap)))))
theorem y5 {x:Str}{t:Tok}(hok:lp s.heap A.handled)(hni:A.handled≠some (.ref it))(ho:s.heap.get? it=some o)(hc:o.cls=.type "str_ascii_iterator")(hd:o.data=.fields #[.str x t,.int i 0])(hx:x.cps[i]?=none)
  (hQ:∀ h',Heap.ExtBut it s.heap h'→Q none { s with heap:=h' }):wpAny (model prog w) A (pyNext (.ref it)) Q E s :=
 kA PySem.F.slot_str_ascii_iterator_next PySem.F.entry_str_ascii_iterator_next (PySem.F.args_str_ascii_iterator_next_1 _) ⟨o,ho,hc⟩ hok hni hQ λ Q' E' k=>by
  refine wpAny_bind (m:=field (.ref it) 0) (wpAny_field ho hd (x:=.str x t) rfl (wpAny_bind (m:=field (.ref it) 1) (wpAny_field ho hd (x:=.int i 0) rfl ?_)))
  show wpAny _ _ (match x.cps[i]? with | some x=>_ | none=>_) _ _ _
  refine ru hx ?_
  exact wpAny_bind (wpAny_rule (wpAny_bind (wpAny_setField ho hd (T6 _) (wpAny_bind (wpAny_letGo (k _ _ (Heap.SameBut.update ..).extBut))))))
theorem zh {x:Str}{t:Tok}(hok:lp s.heap A.handled)(hni:A.handled≠some (.ref it))(ho:s.heap.get? it=some o)(hc:o.cls=.type "str_iterator")(hd:o.data=.fields #[.str x t,.int i 0])(hx:x.cps[i]?=none)
  (hQ:∀ h',Heap.ExtBut it s.heap h'→Q none { s with heap:=h' }):wpAny (model prog w) A (pyNext (.ref it)) Q E s :=
 kA PySem.F.slot_str_iterator_next PySem.F.entry_str_iterator_next (PySem.F.args_str_iterator_next_1 _) ⟨o,ho,hc⟩ hok hni hQ λ Q' E' k=>by
  refine wpAny_bind (m:=field (.ref it) 0) (wpAny_field ho hd (x:=.str x t) rfl (wpAny_bind (m:=field (.ref it) 1) (wpAny_field ho hd (x:=.int i 0) rfl ?_)))
  show wpAny _ _ (match x.cps[i]? with | some x=>_ | none=>_) _ _ _
  refine ru hx ?_
  exact wpAny_bind (wpAny_rule (wpAny_bind (wpAny_setField ho hd (T6 _) (wpAny_bind (wpAny_letGo (k _ _ (Heap.SameBut.update ..).extBut))))))
theorem nZ {K:Type}[DecidableEq K]{knd:PySem.KeyKind prog w K}{d:Addr}{n ep:Nat}{kvs:List (K×Value)}(hok:lp s.heap A.handled)(hni:A.handled≠some (.ref it))(ho:s.heap.get? it=some o)(hc:o.cls=.type "dict_keyiterator")(hd:o.data=.fields #[.ref d,.int i 0,.int n 0,.int ep 0])
  (hm:s.heap.DictAt knd d kvs ep) (hn':n=kvs.length) (hx:n≤i) (hQ:∀ h',Heap.ExtBut it s.heap h'→Q none { s with heap:=h' }):wpAny (model prog w) A (pyNext (.ref it)) Q E s :=
 kA PySem.F.slot_dict_keyiterator_next PySem.F.entry_dict_keyiterator_next (PySem.F.args_dict_keyiterator_next_1 _) ⟨o,ho,hc⟩ hok hni hQ λ Q' E' k=>by
  obtain ⟨od,es,hod,hcd,hdd,hk,hp,hn⟩:=id hm
  have hT:s.TypeIs (.ref it) "dict_keyiterator":=⟨o,ho,hc⟩
  have hsz:es.size=n:=by refine ru hn' (ri hp.length ?_);rfl
  refine wpAny_bind (wpAny_pure (wpAny_bind (wpAny_bind (wpAny_bind (wpAny_typeNameOfWhole_keyiter hT (wpAny_pure (wpAny_bind (wpAny_fieldsOf ho hd ?_))))))))
  refine Fs (c:=(Value.ref d==Value.none)=true) S8 (wpAny_bind (wpAny_pure (wpAny_bind (wpAny_dictEntries hod hdd ?_))))
  refine Fs (λ h=>bne_iff_ne.mp h (congrArg Int.ofNat hsz)) (wpAny_bind (wpAny_pure (wpAny_bind (wpAny_dictEpoch hod hdd ?_))))
  refine Fs (λ h=>bne_iff_ne.mp h rfl) (wpAny_pure ?_)
  show wpAny _ _ (match if (i:Int)<0 then none else es[i]? with | some e=>_ | none=>_) _ _ _
  refine ru (if_neg (V2.mpr (Q7 i))) (ru (Array.getElem?_eq_none (ru hsz hx)) ?_)
  refine wpAny_bind (wpAny_bind (wpAny_typeNameOfWhole_keyiter hT (wpAny_pure ?_)))
  exact wpAny_bind (m:=setField (.ref it) 0 .none) (wpAny_setField ho hd (T6 _) (k _ _ (Heap.SameBut.update ..).extBut))
end
end
noncomputable section
section
variable {S:Sy} {B0 h h':Heap} {β:Fz} {σ:aa} {Φ:Ow} {q0 q1:En}
theorem cy.noH (I:cy S B0 h β σ (q0::Φ)){q:En}(m:q∈Φ):q.a≠q0.a:=λ z=>(Q9.mp (Q0.mp I.nd).2.1).1 (show q0.a∈dL Φ from ri z (R6 m))
theorem cy.updH (I:cy S B0 h β σ (q0::Φ))(k:Heap.ExtBut q0.a h h')(e:q1.a=q0.a)(s:lH S β h' q1):cy S B0 h' β σ (q1::Φ) :=
 I.upd k N2 (by show (q1.a::dL Φ).Sublist (q0.a::dL Φ);refine ru e ?_;exact .refl _) λ q m=>(Q2.mp m).elim (λ z=>.inr (ru z s)) λ m=>.inl ⟨I.noH m,N9 _ m⟩
theorem cy.dropH (I:cy S B0 h β σ (q0::Φ))(k:Heap.ExtBut q0.a h h'):cy S B0 h' β σ Φ:=I.upd k N2 (List.sublist_cons_self ..) λ q m=>.inl ⟨I.noH m,N9 _ m⟩
end
theorem n4 {B h:Heap}{prog:Program}{w:World}{K L:Type}[DecidableEq K]{knd:PySem.KeyKind prog w K}{enc:L→K}{a:Addr}{ks:List L}{is:List Value}(st:B.StaysIn h)(x:Lo a B (lr knd enc a ks is)):(∃ ep,j4 B a ep)∧∀ ep,j4 B a ep→h.DictAt knd a ((ks.map enc).zip is) ep:=by
 refine x.elim λ o w1z=>w1z.elim λ e x=>?_
 obtain ⟨od,es,ep,g,h1,h2,r⟩:=(x h (st _ _ e)).2.2
 have eo:=Option.some.inj ((st _ _ e).symm.trans g)
 subst eo
 refine ⟨⟨ep,o,es,e,h2⟩,λ ep' he=>?_⟩
 obtain ⟨o',es',e',h2'⟩:=he
 have eo:=Option.some.inj (e.symm.trans e')
 subst eo
 have z:=h2.symm.trans h2'
 cases z
 exact ⟨o,es,g,h1,h2,r⟩
theorem jW {prog:Program}{w:World}{K L:Type}[DecidableEq K]{knd:PySem.KeyKind prog w K}{enc:L→K}{a:Addr}{ks:List L}{is:List Value}{B:Heap}(x:Lo a B (lr knd enc a ks is)):is.length=ks.length:=x.elim λ o y=>(y.2 B y.1).1
theorem g9 {L K:Type}{enc:L→K}{ks:List L}{is:List Value}(h:is.length=ks.length):((ks.map enc).zip is).length=ks.length:=by exact ru z0n (ru (N3 ..) (ru h (ru (z1f ..) rfl)))
section
variable {X:Cx} {s:Shared} {β:Fz} {σ:aa} {Φ:Ow} {E:Value→Shared→Prop}
section
variable {K L:Type} [DecidableEq K] {knd:PySem.KeyKind X.S.prog X.S.w K} {enc:L→K} {ks:List L} {is:List Value} {B:Heap} {d ia:Addr} {i ep:Nat}
theorem tJ {Q:Value→Shared→Prop}(x:Lo d B (lr knd enc d ks is))(st:B.StaysIn s.heap)(hQ:∀ ep,j4 B d ep→Q (.ref s.heap.objs.size) { s with heap:=s.heap.push { cls:=.type "dict_keyiterator",data:=.fields #[.ref d,.int 0 0,.int ks.length 0,.int ep 0] } }):wpAny X.M X.A (pyIter (.ref d)) Q E s :=
 (n4 st x).1.elim λ ep he=>wpAny_pyIter_dict (x.elim λ o y=>(y.2 _ y.1).2.1) ((n4 st x).2 ep he) (by refine ru (g9 (jW x)) ?_;exact hQ ep he)
theorem tH {Q:Option Value→Shared→Prop}{c:L}(x:Lo d B (lr knd enc d ks is))(st:B.StaysIn s.heap)(it:s.heap.IsKeyIter ia d i ks.length ep)(he:j4 B d ep)(hc:ks[i]?=some c)(hQ:∀ key h',knd.is (enc c) key=true→h'.IsKeyIter ia d (i+1) ks.length ep→Heap.SameBut ia s.heap h'→Q (some key) { s with heap:=h' }):wpAny X.M X.A (pyNext (.ref ia)) Q E s:=by
 have hlt:i<is.length:=ri ((jW x).symm) ((O6.mp hc).1)
 rw [← g9 (enc:=enc) (jW x)] at it hQ
 exact wpAny_pyNext_dict_item it ((n4 st x).2 ep he) (S1.mpr ⟨by refine ru (Q3) (ru hc ?_);rfl,O4 hlt⟩) hQ
end
theorem At.own {o:Obj}{φ:FO}{s':Shared}(a:At X s β σ Φ)(hf:o.isFreed=false)(e:s'={ s with heap:=s.heap.push o,toks:=s'.toks })(h:HO X.S β s.heap.objs.size o φ):At X s' β σ (⟨s.heap.objs.size,β.μ.length,φ⟩::Φ) :=
 ru e (⟨a.1,a.2.add (λ Z9 Z9 e=>Heap.get?_push_of_some o e) (Heap.get?_none_of_le (N8 _)) ⟨o,Heap.get?_push_size _ hf,h⟩⟩)
theorem oX (n:Nat)(hn:(n:Int)<2 ^ 40):Builtin.Range.rangeSize 0 (n:Int) 1=n∧Builtin.Range.small 0 (n:Int) 1=true:=by
 have hz:Builtin.Range.rangeSize 0 (n:Int) 1=n:=by
  unfold Builtin.Range.rangeSize
  cases n with
  | zero=>rfl
  | succ k=>simp
 have fl:∀ i:Int,0≤i→i<2 ^ 62→Builtin.Range.rangeFitsLong i=true:=λ i h0 h1=>N4.mpr ⟨decide_eq_true (U8 (by decide) h0),decide_eq_true (Int.lt_trans h1 (by decide))⟩
 have hn:(n:Int)<2 ^ 62:=Int.lt_trans hn (by decide)
 refine ⟨hz,?_⟩
 unfold Builtin.Range.small
 rw  [hz,fl 0 (by decide) (by decide),fl n (Q7 n) hn,fl 1 (by decide) (by decide),if_pos (by decide),z2h,Int.add_zero,fl n (Q7 n) hn,Z4]
 rfl
theorem zH {p:PV}{Q:Value→Shared→Prop}(st:β.B.StaysIn s.heap):∀ {va:Value},bj X.S β p va→(∃ xs,gm p=some xs)→(∀ {o:Obj} {t:Tok},o.isFreed=false→vJ β.B va o 0 p→Q (.ref s.heap.objs.size) { s with heap:=s.heap.push o,toks:=t })→wpAny X.M X.A (pyIter va) Q E s:=by
 cases p with
 | str x =>
  exact λ r Z9 go=>by
         obtain ⟨t,rfl⟩:=r.2
         cases ha:(aG x).cps.all (·<128)
         ·exact wpAny_pyIter_wide ha (go rfl (.str x _ rfl (.inr rfl) rfl))
         ·exact wpAny_pyIter_ascii ha (go rfl (.str x _ rfl (.inl rfl) rfl))
 | tup vs =>
  exact λ r Z9 go=>r.2.elim λ t z=>z.elim λ is z=>z.1▸wpAny_pyIter_tuple (rj z.2.1 st) (go rfl (.tup vs rfl (ri z.1 rfl)))
 | lst vs =>
  exact λ r Z9 go=>r.2.elim λ t z=>z.elim λ is z=>z.1▸wpAny_pyIter_list (DU z.2.1 st) (go rfl (.lst vs rfl (ri z.1 rfl)))
 | dctI ks vs =>
  exact λ r Z9 go=>r.2.elim λ t z=>z.elim λ is z=>ru z.1 (tJ z.2.1 st λ ep he=>go rfl (.dctI ks vs t ep z.1 he rfl rfl))
 | dctS ks vs =>
  exact λ r Z9 go=>r.2.elim λ t z=>z.elim λ is z=>ru z.1 (tJ z.2.1 st λ ep he=>go rfl (.dctS ks vs t ep z.1 he rfl rfl))
 | rng n =>
  exact λ r Z9 go=>r.2.elim λ t z=>z.2.elim λ t0 w=>w.elim λ t1 w=>w.elim λ t2 e =>
   ru z.1 (wpAny_pyIter_range (st _ _ e) (oX n r.1).2 (go rfl (.rng n (P4 _) (by refine ru (oX n r.1).1 ?_;show _=Obj.mk _ _ (.fields #[_,rawInt ((n:Int)-0),_]) _;refine ru (Int.sub_zero ..) ?_;rfl))))
 | _ =>
  exact λ Z9 h Z9=>h.elim λ Z9 h=>nN h
theorem sI {p:PV}{va:Value}{xs:List PV}{Q:Value→Shared→Prop}(a:At X s β σ Φ)(r:bj X.S β p va)(hx:gm p=some xs)(hQ:∀ ia k s',At X s' β σ (⟨ia,k,.iter p 0⟩::Φ)→Q (.ref ia) s'):wpAny X.M X.A (pyIter va) Q E s :=
 zH a.2.st r ⟨xs,hx⟩ λ hf it=>hQ _ _ _ (a.own hf rfl ⟨_,r,it⟩)
theorem At.step {p:PV}{ia:Addr}{k i j:Nat}{h':Heap}{s':Shared}{v:Value}(a:At X s β σ (⟨ia,k,.iter p i⟩::Φ))(sb:Heap.SameBut ia s.heap h')(r:bj X.S β p v)(lv:∃ o,h'.get? ia=some o∧vJ β.B v o j p)(e:s'={ s with heap:=h',toks:=s'.toks }):At X s' β σ (⟨ia,β.μ.length,.iter p j⟩::Φ) :=
 ru e (⟨a.1,a.2.updH sb.extBut rfl (lH.now (lv.imp λ o w=>⟨w.1,v,r,w.2⟩))⟩)
theorem dw {α β:Type}{f:α→β}{l:List α}{i:Nat}{x:β}(h:(l.map f)[i]?=some x):∃ c,l[i]?=some c∧f c=x:=O9.mp (ri (Q3) h)
noncomputable abbrev F1 (X:Cx)(s:Shared)(β:Fz)(ia:Addr)(v:Value)(p x:PV)(j:Nat)(Q:Option Value→Shared→Prop):Prop:=∀ {u:Value} {h':Heap} {t:Tok},(∃ o,h'.get? ia=some o∧vJ β.B v o j p)→Heap.SameBut ia s.heap h'→bj X.S β x u→Q (some u) { s with heap:=h',toks:=t }
theorem GG {y:List Nat}{c:Nat}{v:Value}{o:Obj}{n:String}{ia:Addr}{i:Nat}{Q:Option Value→Shared→Prop}(r:bj X.S β (.str y) v)(hn:n="str_ascii_iterator"∨n="str_iterator")(e:s.heap.get? ia=some o)(cl:o.cls=.type n)(d:o.data=.fields #[v,.int i 0])(hc:y[i]?=some c){x:PV}(hx:.str [c]=x)(go:F1 X s β ia v (.str y) x (i+1) Q):wpAny X.M X.A (pyNext (.ref ia)) Q E s:=by
 have okc:∀ t,bj X.S β x (.str ⟨#[c]⟩ t):=λ t=>hx▸⟨⟨by show 1≤ax;decide,λ d m=>ru (P7.mp m) (r.1.2 c (Q1 hc))⟩,t,rfl⟩
 obtain ⟨t,ev⟩:=r.2
 rw [ev] at d
 rcases hn with hn | hn
 ·exact wpAny_pyNext_ascii_item ⟨o,e,ri hn cl,d⟩ (x:=aG y) (T7.trans hc) λ h' it' sb=>go (it'.imp λ o w=>⟨w.1,.str y _ w.2.1 (.inl rfl) (ru ev w.2.2)⟩) sb (okc _)
 ·exact wpAny_pyNext_wide_item ⟨o,e,ri hn cl,d⟩ (x:=aG y) (T7.trans hc) λ h' it' sb=>go (it'.imp λ o w=>⟨w.1,.str y _ w.2.1 (.inr rfl) (ru ev w.2.2)⟩) sb (okc _)
theorem Dr {p:PV}{v:Value}{o:Obj}{ia:Addr}{i:Nat}{Q:Option Value→Shared→Prop}(e:s.heap.get? ia=some o)(st:β.B.StaysIn s.heap)(it:vJ β.B v o i p):∀ {xs:List PV} {x:PV},bj X.S β p v→gm p=some xs→xs[i]?=some x→F1 X s β ia v p x (i+1) Q→wpAny X.M X.A (pyNext (.ref ia)) Q E s:=by
 cases it with
 | str y n c hn d =>
  exact @λ xs x r hx hi go=>(dw (ru (Option.some.inj hx) hi)).elim λ ch w=>GG r hn e c d w.1 w.2 go
 | tup vs c d =>
  exact @λ xs x r hx hi go=>r.2.elim λ t z=>z.elim λ is z=>(z.2.2.get (ru (Option.some.inj hx) hi)).elim λ u hu =>
   wpAny_pyNext_tuple_item ⟨o,e,c,ri z.1 d⟩ (rj z.2.1 st) (x:=u) (by refine ru (T7) ?_;exact hu.1) λ h' it' sb=>go (it'.imp λ o w=>⟨w.1,.tup vs w.2.1 (ru z.1 w.2.2)⟩) sb hu.2
 | lst vs c d =>
  exact @λ xs x r hx hi go=>r.2.elim λ t z=>z.elim λ is z=>(z.2.2.get (ru (Option.some.inj hx) hi)).elim λ u hu =>
   wpAny_pyNext_list_item ⟨o,e,c,ri z.1 d⟩ (DU z.2.1 st) (x:=u) (by refine ru (T7) ?_;exact hu.1) λ h' it' sb=>go (it'.imp λ o w=>⟨w.1,.lst vs w.2.1 (ru z.1 w.2.2)⟩) sb hu.2
 | dctI ks vs t ep ev he c d =>
  exact @λ xs x r hx hi go=>(dw (f:=PV.int) (x:=x) (ru (Option.some.inj hx) hi)).elim λ k w=>r.2.elim λ t' z=>z.elim λ is z =>
   tH (Value.ref.inj (z.1.symm.trans ev)▸z.2.1) st ⟨o,e,c,d⟩ he w.1 λ key h' hk it' sb=>go (it'.imp λ o w=>⟨w.1,.dctI ks vs t ep ev he w.2.1 w.2.2⟩) sb (ri w.2 (Value.isInt_shape hk))
 | dctS ks vs t ep ev he c d =>
  exact @λ xs x r hx hi go=>(dw (f:=PV.str) (x:=x) (ru (Option.some.inj hx) hi)).elim λ k w=>r.2.elim λ t' z=>z.elim λ is z =>
   tH (Value.ref.inj (z.1.symm.trans ev)▸z.2.1) st ⟨o,e,c,d⟩ he w.1 λ key h' hk it' sb=>go (it'.imp λ o w=>⟨w.1,.dctS ks vs t ep ev he w.2.1 w.2.2⟩) sb (ri w.2 (⟨r.1.2 k (Q1 w.1),Value.isStrOf_shape hk⟩))
 | rng n hle eo =>
  exact @λ xs x r hx hi go=>(dw (f:=λ k:Nat=>PV.int k) (x:=x) (ru (Option.some.inj hx) hi)).elim λ c w =>
   have hc:=O6.mp w.1
   have hlt:i<n:=ri (Q4 (n:=n)) hc.1
   wpAny_pyNext_range_item (x:=(i:Nat)) (left:=(n:Int)-(i:Nat)) (step:=1) (e.trans (congrArg some eo)) (Int.sub_pos.mpr (R8.mpr hlt)) λ h' it' sb=>go ⟨_,it',.rng n hlt (by refine ru (Int.sub_sub ..) ?_;rfl)⟩ sb (ri w.2 (⟨s.toks,congrArg (λ j:Nat=>Value.int j s.toks) ((Z3 _).symm.trans hc.2)⟩))
theorem wG {p x:PV}{xs:List PV}{ia:Addr}{k i:Nat}{Q:Option Value→Shared→Prop}(a:At X s β σ (⟨ia,k,.iter p i⟩::Φ))(hx:gm p=some xs)(hi:xs[i]?=some x)
  (hQ:∀ v k s',At X s' β σ (⟨ia,k,.iter p (i+1)⟩::Φ)→bj X.S β x v→Q (some v) s'):wpAny X.M X.A (pyNext (.ref ia)) Q E s:=(a.2.own _ N2).up.elim λ o w=>w.2.elim λ v z =>
 Dr w.1 a.2.st z.2 z.1 hx hi λ it sb rx=>hQ _ _ _ (a.step sb z.1 it rfl) rx
theorem HI {p:PV}{v:Value}{o:Obj}{ia:Addr}{i:Nat}{Q:Option Value→Shared→Prop}(hok:lp s.heap X.A.handled)(hni:X.A.handled≠some (.ref ia))(e:s.heap.get? ia=some o)(st:β.B.StaysIn s.heap)(gA:∀ h',Heap.ExtBut ia s.heap h'→Q none { s with heap:=h' })(it:vJ β.B v o i p):∀ {xs:List PV},bj X.S β p v→gm p=some xs→xs.length≤i→wpAny X.M X.A (pyNext (.ref ia)) Q E s:=by
 cases it with
 | str y n c hn d =>
  exact λ r hx hi=>r.2.elim λ t ev =>
   have hc:(aG y).cps[i]?=none:=Array.getElem?_eq_none (N1 (P0 (N3 _).symm) (ru (Option.some.inj hx) hi))
   hn.elim (λ hn=>y5 hok hni e (ri hn c) (ri ev d) hc gA) λ hn=>zh hok hni e (ri hn c) (ri ev d) hc gA
 | tup vs c d =>
  exact λ r hx hi=>r.2.elim λ t z=>z.elim λ is z=>oO hok hni e c (ri z.1 d) (rj z.2.1 st) (Array.getElem?_eq_none (by refine ru P2 (ru z.2.2.length ?_);exact ru (Option.some.inj hx) hi)) gA
 | lst vs c d =>
  exact λ r hx hi=>r.2.elim λ t z=>z.elim λ is z=>AS hok hni e c (ri z.1 d) (DU z.2.1 st) (Array.getElem?_eq_none (by refine ru P2 (ru z.2.2.length ?_);exact ru (Option.some.inj hx) hi)) gA
 | dctI ks vs t ep ev he c d =>
  exact λ r hx hi=>r.2.elim λ t' z=>z.elim λ is z=>have x:=ri (Value.ref.inj (z.1.symm.trans ev)) z.2.1;nZ hok hni e c d ((n4 st x).2 ep he) (g9 (jW x)).symm (N1 (P0 (N3 _).symm) (ru (Option.some.inj hx) hi)) gA
 | dctS ks vs t ep ev he c d =>
  exact λ r hx hi=>r.2.elim λ t' z=>z.elim λ is z=>have x:=ri (Value.ref.inj (z.1.symm.trans ev)) z.2.1;nZ hok hni e c d ((n4 st x).2 ep he) (g9 (jW x)).symm (N1 (P0 (N3 _).symm) (ru (Option.some.inj hx) hi)) gA
 | rng n hle eo =>
  exact λ r hx hi=>x6 (left:=(n:Int)-(i:Nat)) hok hni (e.trans (congrArg some eo)) (Int.sub_nonpos_of_le (V5.mpr (N1 (P0 ((N3 _).trans Q4).symm) (ru (Option.some.inj hx) hi)))) gA
theorem Bg {p:PV}{xs:List PV}{ia:Addr}{k i:Nat}{Q:Option Value→Shared→Prop}(fx:lq X)(a:At X s β σ (⟨ia,k,.iter p i⟩::Φ))(hx:gm p=some xs)(hi:xs[i]?=none)(hQ:∀ s',At X s' β σ Φ→Q none s'):wpAny X.M X.A (pyNext (.ref ia)) Q E s:=(a.2.own _ N2).up.elim λ o w=>w.2.elim λ v z =>
 HI (fx.hok.keep a.ns) ((fx.hok.keep a.2.top).fresh (a.2.hid ia (O8 _ N2))) w.1 a.2.st (λ h' sb=>hQ _ ⟨a.1,a.2.dropH sb⟩) z.2 z.1 hx (Z6.mp hi)
end
end
noncomputable section
section
variable {S:Sy} {B0 h h':Heap} {β:Fz} {σ:aa} {Φ Φ':Ow}
theorem cy.perm (I:cy S B0 h β σ Φ)(p:Φ'.Perm Φ):cy S B0 h β σ Φ':=I.sub ((p.map _).nodup_iff.mpr (Q0.mp I.nd).2.1) λ q m=>p.mem_iff.mp m
theorem cy.uniq (I:cy S B0 h β σ Φ){q q':En}(m:q∈Φ)(m':q'∈Φ)(e:q.a=q'.a):q=q':=by
 have nd:=(Q0.mp I.nd).2.1
 clear I
 induction Φ with
 | nil=>exact o4 m
 | cons p Φ ih =>
  rcases Q2.mp m with a | a
  ·rcases Q2.mp m' with b | b
   ·exact a.trans b.symm
   ·exact ((Q9.mp nd).1 (show p.a∈dL Φ from a▸ru e (R6 b))).elim
  ·rcases Q2.mp m' with b | b
   ·exact ((Q9.mp nd).1 (show p.a∈dL Φ from b▸ri e (R6 a))).elim
   ·exact ih a b (Q9.mp nd).2
theorem xC {h h':Heap}{a:Addr}{o o':Obj}{m:Str→Option Value}(x:h.Ns a m)(e:h.get? a=some o)(e':h'.get? a=some o')(d:o'.data=o.data):h'.Ns a m:=by
 obtain ⟨ob,es,ep,g,hd,r⟩:=x
 cases Option.some.inj (e.symm.trans g)
 exact ⟨o',es,ep,e',d.trans hd,r⟩
theorem Ik {h:Heap}{a:Addr}{m:Str→Option Value}{o:Obj}(x:h.Ns a m)(e:h.get? a=some o):∀ vs,o.data≠.fields vs:=by
 obtain ⟨ob,es,ep,g,hd,_⟩:=x
 cases Option.some.inj (e.symm.trans g)
 exact λ vs q=>nomatch hd.symm.trans q
theorem uX (I:cy S B0 h β σ Φ)(l:List Env)(k:iO l Φ):h.FunFrames β.B l:=by
 induction l with
 | nil=>trivial
 | cons env l ih=>exact ⟨(k env N2).elim λ L w=>w.elim λ Z9 w=>w.elim λ Z9 w=>w.2.2,(k env N2).elim λ L w=>w.elim λ Z9 w=>w.elim λ Z9 w =>
   (I.own _ w.2.1).2.elim λ o z=>z.2.elim λ m z'=>⟨L,o,w.1,I.hid L (O8 _ (R6 (f:=En.a) w.2.1)),z.1,Ik (z'.1 h z.1) z.1⟩,ih λ e m=>k e (N9 _ m)⟩
theorem cy.slots (I:cy S B0 h β σ Φ)(l:List Env)(k:iO l Φ)(so:Heap.SlotsOnly (l.filterMap (·.frame)) h h'):cy S B0 h' β σ Φ:=by
 have isF:∀ a∈l.filterMap (·.frame),∃ k vs,(⟨a,k,.frame vs⟩:En)∈Φ:=λ a m=>(z1a.mp m).elim λ e w=>(k e w.1).elim λ L z=>z.elim λ k z=>z.elim λ vs z=>⟨k,vs,ri (Option.some.inj (z.1.symm.trans w.2)) z.2.1⟩
 have inA:∀ a∈l.filterMap (·.frame),a∈dL Φ:=λ a m=>(isF a m).elim λ k w=>w.elim λ vs w=>R6 (f:=En.a) w
 refine { top:=I.top,st:=λ b o e=>(so.2.1 b λ m=>cH (I.hid b (O8 _ (inA b m))) e).trans (I.st b o e),len:=I.len,nd:=I.nd,hid:=I.hid,obj:=λ i b o e e'=>(I.obj i b o e e').keep λ x g=>(so.2.1 b λ m=>I.apart (Q1 e) (inA b m) rfl).trans g,own:=λ q m=>?_ }
 by_cases hq:q.a∈l.filterMap (·.frame)
 ·obtain ⟨k,vs,m'⟩:=isF _ hq
  have w:=I.own q m
  rw [(I.uniq m m' rfl)] at w ⊢
  refine w.elim λ w0 w1z=>w1z.elim λ o w2z=>w2z.elim λ g w3z=>w3z.elim λ mm w4z=>w4z.elim λ on va=>?_
  obtain ⟨sl,g'⟩:=so.2.2 _ _ g
  exact ⟨w0,_,g',mm,λ h2 e2=>xC (on h g) g e2 rfl,va⟩
 ·exact (I.own q m).keep λ o g=>(so.2.1 _ hq).trans g
end
section
variable {X:Cx} {s:Shared} {β:Fz} {σ:aa} {Ψ:Ow} {E:Value→Shared→Prop} {ea d L:Addr} {To:Option Addr} {hd:Option Value}
theorem At.perm {Φ Φ':Ow}(a:At X s β σ Φ)(p:Φ'.Perm Φ):At X s β σ Φ':=⟨a.1,a.2.perm p⟩
theorem At.drop1 {q:En}{Φ:Ow}{h':Heap}(a:At X s β σ (q::Φ))(k:Heap.ExtBut q.a s.heap h'):At X { s with heap:=h' } β σ Φ:=⟨a.1,a.2.dropH k⟩
theorem At.upd1 {q q':En}{Φ:Ow}{h':Heap}(a:At X s β σ (q::Φ))(k:Heap.ExtBut q.a s.heap h')(e:q'.a=q.a)(x:lH X.S β h' q'):At X { s with heap:=h' } β σ (q'::Φ):=⟨a.1,a.2.updH k e x⟩
theorem At.head {q:En}{Φ:Ow}(a:At X s β σ (q::Φ)):jf s.heap q.a λ o=>HO X.S (β.tk q.k) q.a o q.f:=(a.2.own q N2).2
theorem pq (a:At X s β σ (⟨ea,0,.exc hd To d⟩::Ψ)):∃ o vs,s.heap.get? ea=some o∧o.data=.fields vs∧1<vs.size∧vs[1]?=some (To.elim .none .ref) ∧
  ∀ T,∃ o',Obj.mapFields (·.setIfInBounds 1 (.ref T)) o=o'∧o'.isFreed=false∧HO X.S (β.tk 0) ea o' (.exc hd (some T) d):=by
 obtain ⟨o,g,vs,sl,rfl,h2,h3,h4⟩:=a.head
 exact ⟨_,vs,g,rfl,Y4 h2,h4,λ T=>⟨_,rfl,rfl,_,sl,rfl,by refine ru Array.size_setIfInBounds ?_;exact h2,λ z=>by refine ru (Array.getElem?_setIfInBounds_ne (by decide)) ?_;exact h3 z,by
  refine ru (Array.getElem?_setIfInBounds_self_of_lt (Y4 h2)) ?_;rfl⟩⟩
theorem tA {env:Env}{outer:List Env}{head:Value}{hadNext:Bool}{Q:Unit→Shared→Prop}(hfr:X.A.frames=some X.l)(hX:X.l=env::outer)(hf:env.frame=some L)(k:iO X.l Ψ)(a:At X s β σ (⟨ea,0,.exc hd To d⟩::Ψ))
  (h:∀ s' T,At X s' β σ (qD hd ea d (.held T L)++Ψ)→Q () s') :
  wpAny X.M X.A (do let a ← frameOf env;let pl ← entryPlaceOf L hadNext;let b ← EntryCells.newEntry head a .none (rawInt L) .none pl;setField (.ref ea) 1 b) Q E s:=by
 have k':iO X.l (⟨ea,0,.exc hd To d⟩::Ψ):=λ e m=>(k e m).imp λ Z9 w=>w.imp λ Z9 w=>w.imp λ Z9 w=>⟨w.1,N9 _ w.2.1,w.2.2⟩
 refine wpAny_bind (wpAny_frameOf_fun (ri hX hfr) (ri hX (uX a.2 X.l k')) hf λ h₁ so=>?_)
 have a1:At X { s with heap:=h₁ } β σ (⟨ea,0,.exc hd To d⟩::Ψ):=⟨a.1,a.2.slots X.l k' (ri hX.symm so)⟩
 refine wpAny_bind (wpAny_entryPlaceOf λ pl hpl=>?_)
 refine wpAny_bind (wpAny_newObj_type ?_ (hpl.sizeOk5 _ _ _ _ _))
 generalize hob:({ cls:=.type "traceback",dict:=none,data:=.fields ([head,.ref L,.none,rawInt L,.none]++(if pl.isEmpty then List.replicate 6 Value.none else pl)).toArray }:Obj)=ob
 have a2:At X { s with heap:=h₁.push ob } β σ (⟨h₁.objs.size,0,.tb (some L)⟩::⟨ea,0,.exc hd To d⟩::Ψ):=⟨a1.1,a1.2.addE (λ Z9 Z9 e=>Heap.get?_push_of_some ob e) (Heap.get?_none_of_le (N8 _)) ⟨P4 _,ob,Heap.get?_push_size _ (by refine ri hob ?_;rfl:ob.isFreed=false),_,by exact ri hob rfl,rfl⟩⟩
 refine (pq (a2.perm (.swap _ _ _))).elim λ o w1z=>w1z.elim λ vs w2z=>w2z.elim λ g w3z=>w3z.elim λ hdat w4z=>w4z.elim λ hlt w5z=>w5z.elim λ Z9 up=>?_
 obtain ⟨o',e',hfree,ho⟩:=up h₁.objs.size
 exact wpAny_setField g hdat hlt (h _ _ ((a2.perm (.swap _ _ _)).upd1 (Heap.SameBut.update ..).extBut rfl ⟨P4 _,o',by exact ru (Heap.get?_update_self _ g (e'▸hfree)) (ru e' rfl),ho⟩))
theorem Gb {fr:Option Addr}{T:Addr}(a:At X s β σ (⟨T,0,.tb fr⟩::Ψ)):∃ o ts,s.heap.get? T=some o∧o.data=.fields ts∧3<ts.size∧ts[3]?=some (fr.elim .none λ L=>rawInt L) ∧
  ∀ fr',At X { s with heap:=s.heap.update T (Obj.mapFields (·.setIfInBounds 3 (fr'.elim Value.none λ f=>rawInt f))) } β σ (⟨T,0,.tb fr'⟩::Ψ):=by
 refine a.head.elim λ o w1z=>w1z.elim λ g w2z=>w2z.elim λ ts w3z=>w3z.elim λ hdat h3=>?_
 have hlt:=(Array.getElem?_eq_some_iff.mp h3).1
 exact ⟨o,ts,g,hdat,hlt,h3,λ fr'=>a.upd1 (Heap.SameBut.update ..).extBut rfl ⟨P4 _,_,Heap.get?_update_self _ g (Obj.isFreed_of_fields (Obj.data_mapFields hdat _)),_,Obj.data_mapFields hdat _,Array.getElem?_setIfInBounds_self_of_lt hlt⟩⟩
noncomputable def Md.at (L:Addr):Md→Prop
 | .held _ L'=>L'=L
 | _=>True
theorem qc {env:Env}{outer:List Env}{md:Md}{Q:Unit→Shared→Prop}(hfr:X.A.frames=some X.l)(hX:X.l=env::outer)(hf:env.frame=some L)(k:iO X.l Ψ)(hm:md.at L)(a:At X s β σ (qD hd ea d md++Ψ))
  (h:∀ s' T,At X s' β σ (qD hd ea d (.held T L)++Ψ)→Q () s'):wpAny X.M X.A (noteFrame (.ref ea) env) Q E s:=by
 unfold noteFrame
 simp only [hf]
 cases md with
 | raw =>
  obtain ⟨o,vs,g,hdat,hlt,h1,-⟩:=pq a
  refine wpAny_bind (wpAny_field g hdat h1 ?_)
  refine ru (if_neg (by decide)) ?_
  exact tA hfr hX hf k a h
 | fly T =>
  obtain ⟨o,vs,g,hdat,hlt,h1,-⟩:=pq a
  have h1:vs[1]?=some (.ref T):=h1
  have a':=a.perm (Φ':=⟨T,0,.tb none⟩::⟨ea,0,.exc hd (some T) d⟩::Ψ) (.swap _ _ _)
  obtain ⟨o',ts,g',hdat',hlt',h3,-⟩:=Gb a'
  have h3:ts[3]?=some .none:=h3
  refine wpAny_bind (wpAny_field g hdat h1 ?_)
  refine ru (if_pos (show (Value.ref T !=Value.none)=true from rfl)) ?_
  refine wpAny_bind (wpAny_field g' hdat' h3 ?_)
  refine ru (if_neg (show ¬ ((Value.none==rawInt L)=true) from S8)) ?_
  refine wpAny_bind (wpAny_setField g' hdat' hlt' ?_)
  exact tA hfr hX hf k (a'.drop1 (Heap.SameBut.update ..).extBut) h
 | held T L' =>
  cases (show L'=L from hm)
  obtain ⟨o,vs,g,hdat,hlt,h1,-⟩:=pq a
  have h1:vs[1]?=some (.ref T):=h1
  have a':=a.perm (Φ':=⟨T,0,.tb (some L)⟩::⟨ea,0,.exc hd (some T) d⟩::Ψ) (.swap _ _ _)
  obtain ⟨o',ts,g',hdat',hlt',h3,-⟩:=Gb a'
  refine wpAny_bind (wpAny_field g hdat h1 ?_)
  refine ru (if_pos (show (Value.ref T !=Value.none)=true from rfl)) ?_
  refine wpAny_bind (wpAny_field g' hdat' (h3:ts[3]?=some (rawInt L)) ?_)
  refine ru (if_pos (show (rawInt L==rawInt L)=true from beq_self_eq_true _)) ?_
  exact wpAny_pure (h s T a)
theorem fK {T:Addr}{fr fr':Option Addr}{Q:Unit→Shared→Prop}(a:At X s β σ (⟨ea,0,.exc hd (some T) d⟩::⟨T,0,.tb fr⟩::Ψ))(h:∀ s',At X s' β σ (⟨ea,0,.exc hd (some T) d⟩::⟨T,0,.tb fr'⟩::Ψ)→Q () s'):wpAny X.M X.A (setFlight (.ref ea) fr') Q E s:=by
 obtain ⟨o,vs,g,hdat,hlt,h1,-⟩:=pq a
 have h1:vs[1]?=some (.ref T):=h1
 obtain ⟨o',ts,g',hdat',hlt',h3,up⟩:=Gb (a.perm (Φ':=⟨T,0,.tb fr⟩::⟨ea,0,.exc hd (some T) d⟩::Ψ) (.swap _ _ _))
 refine wpAny_bind (wpAny_field g hdat h1 ?_)
 refine ru (if_pos (show (Value.ref T !=Value.none)=true from rfl)) ?_
 exact wpAny_setField g' hdat' hlt' (h _ ((up fr').perm (.swap _ _ _)))
theorem AZ {env:Env}{outer:List Env}{md:Md}{Q:Unit→Shared→Prop}(hfr:X.A.frames=some X.l)(hX:X.l=env::outer)(hf:env.frame=some L)(k:iO X.l Ψ)(hm:md.at L)(a:At X s β σ (qD hd ea d md++Ψ))
  (h:∀ s' T,At X s' β σ (qD hd ea d (.fly T)++Ψ)→Q () s'):wpAny X.M X.A (leaving env (.ref ea)) Q E s :=
 wpAny_bind (qc hfr hX hf k hm a λ s' T a=>fK (fr':=none) a λ s'=>h s' T)
theorem EG {env:Env}{outer:List Env}{md:Md}(hfr:X.A.frames=some X.l)(hX:X.l=env::outer)(hf:env.frame=some L)(k:iO X.l Ψ)(hm:md.at L)(a:At X s β σ (qD hd ea d md++Ψ))
  (h:∀ s' T,At X s' β σ (qD hd ea d (.held T L)++Ψ)→E (.ref ea) s'):notedBy X.M X.A env (cameBackBy X.M X.A env E) (.ref ea) s :=
 qc hfr hX hf k hm a λ s' T a=>by
  obtain ⟨o,vs,g,hdat,hlt,h1,-⟩:=pq a
  have h1:vs[1]?=some (.ref T):=h1
  refine wpAny_bind (wpAny_field g hdat h1 ?_)
  refine ru (if_neg (show ¬ ((Value.ref T==Value.none)=true) from S8)) (ru hf ?_)
  exact fK (fr':=some L) a λ s'=>h s' T
end
end
noncomputable section
noncomputable def c8 (X:Cx)(ρ:am)(P:Str→Bool):List (Str×PV):=(X.slots.zip ρ).filterMap λ q=>q.2.bind λ p=>if P q.1 then some (q.1,p) else none
noncomputable def bM (X:Cx)(ρ:am)(k:Nat):Ow:=⟨X.env.locals,k,.frame (c8 X ρ λ x=>X.env.kindOf x==some .local)⟩::X.env.cells.map λ c=>⟨c.2,k,.cell (c8 X ρ (·==c.1))⟩
structure re (X:Cx) (Φ0:Ow):Prop where
 fx:lq X
 nds:X.slots.Nodup
 cel:∀ x,X.env.kindOf x=some .cell→∃ a,X.env.cells.lookup x=some a
 celk:∀ c∈X.env.cells,X.env.kindOf c.1=some .cell
 cnd:(X.env.cells.map (·.1)).Nodup
 top:∃ l',X.l=X.env::l'∧iO l' Φ0
 fr:X.env.frame=some X.env.locals
section
variable {X:Cx} {ρ:am}
theorem ii {P:Str→Bool}{i:Nat}{x:Str}{p:PV}(h1:X.slots[i]?=some x)(h2:cT ρ i=some p)(h3:P x=true):(x,p)∈c8 X ρ P :=
 (O5.mp h2).elim λ o w=>z1a.mpr ⟨(x,some p),Q1 (S1.mpr ⟨h1,w.1.trans (congrArg some w.2)⟩),if_pos h3⟩
theorem fB {P:Str→Bool}{q:Str×PV}(h:q∈c8 X ρ P):∃ i,X.slots[i]?=some q.1∧cT ρ i=some q.2∧P q.1=true :=
 (z1a.mp h).elim λ z w=>(O5.mp w.2).elim λ p w'=>(V8.mp w.1).elim λ i e =>
  ri (cW w'.2).2 (⟨i,(S1.mp e).1,(congrArg (Option.bind · _root_.id) (S1.mp e).2).trans w'.1,(cW w'.2).1⟩)
theorem fb {k:Nat}:dL (bM X ρ k)=X.env.locals::X.env.cells.map (·.2):=congrArg (_::·) T0
theorem dj {α β:Type}[BEq α][LawfulBEq α]{l:List (α×β)}{a:α}{b:β}(h:l.lookup a=some b):(a,b)∈l:=by
 induction l with
 | nil=>exact b2 h
 | cons p l ih =>
  rw [List.lookup_cons] at h
  by_cases e:(a==p.1)=true
  ·rw [e] at h;exact (beq_iff_eq.mp e)▸ri (Option.some.inj h) N2
  ·rw [z0d.mpr e] at h;exact N9 _ (ih h)
set_option tactic.hygienic true in
theorem re.vis {Φ0:Ow}{k:Nat}(ok:re X Φ0):Cr X ρ (bM X ρ k++Φ0):=by
 have cm:∀ x a,X.env.cells.lookup x=some a→(⟨a,k,.cell (c8 X ρ (·==x))⟩:En)∈bM X ρ k++Φ0:=λ x a e=>O7 _ (N9 _ (R6 (f:=λ c:Str×Addr=>(⟨c.2,k,.cell (c8 X ρ (·==c.1))⟩:En)) (dj e)))
 refine ⟨λ i x p h1 h2=>?_,λ x h=>(ok.cel x h).elim λ a e=>⟨a,k,_,e,cm x a e⟩,ok.top.elim λ l' w=>λ e m=>?_⟩
 ·unfold KQ
  split
  ·rename_i hk
   exact ⟨k,_,O7 _ N2,ii h1 h2 (beq_iff_eq.mpr hk)⟩
  ·rename_i hk
   exact (ok.cel x hk).elim λ a e=>⟨a,k,_,e,cm x a e,ii h1 h2 (beq_self_eq_true _)⟩
  ·trivial
 ·rw [w.1] at m
  exact (Q2.mp m).elim (λ z=>⟨_,k,_,ru z ok.fr,O7 _ N2,by refine ru z (ru ok.fx.kind ?_);exact nofun⟩) λ m=>(w.2 e m).imp λ Z9 z=>z.imp λ Z9 z=>z.imp λ Z9 z=>⟨z.1,O8 _ z.2.1,z.2.2⟩
theorem IU {i j:Nat}{p q:PV}(e:cT (ρ.set i (some p)) j=some q):j=i∧p=q∨j≠i∧cT ρ j=some q:=by
 unfold cT at e ⊢
 by_cases h:i=j
 ·subst h
  rw [z3e] at e
  rw [if_pos rfl] at e
  split at e
  ·exact .inl ⟨rfl,Option.some.inj e⟩
  ·exact b2 e
 ·rw [z0q h] at e;exact .inr ⟨λ z=>h z.symm,e⟩
theorem ig {α:Type}{l:List α}(h:l.Nodup){i j:Nat}{a:α}(hi:l[i]?=some a)(hj:l[j]?=some a):i=j:=(z3f (O6.mp hi).1 h).mp (hi.trans hj.symm)
theorem wU {α β:Type}{f:α→β}{l:List α}(nd:(l.map f).Nodup){c c':α}(m:c∈l)(m':c'∈l)(e:f c=f c'):c=c':=(V8.mp m).elim λ i hi=>(V8.mp m').elim λ j hj =>
 Option.some.inj (hi.symm.trans (ru (ig nd (i:=i) (j:=j) (a:=f c) (by refine ru (Q3) (ru hi ?_);rfl) (by refine ru (Q3) (ru hj (ru e ?_));rfl)) hj))
theorem pG {h:Heap}{a:Addr}{m:Str→Option Value}(x:h.Ns a m):∃ o,h.get? a=some o∧On a o λ h=>h.Ns a m:=x.elim λ o y=>y.elim λ es y=>y.elim λ ep y=>⟨o,y.1,λ h' e=>xC ⟨o,es,ep,y⟩ y.1 e rfl⟩
section
variable {s:Shared} {β:Fz} {σ:aa} {Φ0:Ow} {k:Nat} {E:Value→Shared→Prop}
theorem lW {h':Heap}{a:Addr}{ρ':am}(at':At X s β σ (bM X ρ k++Φ0))(kb:Heap.ExtBut a s.heap h')(ma:a=X.env.locals∨∃ c∈X.env.cells,a=c.2)(hF:jf h' X.env.locals λ o=>HO X.S β X.env.locals o (.frame (c8 X ρ' λ x=>X.env.kindOf x==some .local)))
  (hC:∀ c∈X.env.cells,jf h' c.2 λ o=>HO X.S β c.2 o (.cell (c8 X ρ' (·==c.1)))):cy X.S X.B0 h' β σ (bM X ρ' β.μ.length++Φ0):=by
 have hm:a∈dL (bM X ρ k):=by refine ru fb ?_;exact ma.elim (λ z=>ri z N2) λ z=>z.elim λ c z=>ru z.2 (N9 _ (R6 (f:=λ c:Str×Addr=>c.2) z.1))
 refine at'.2.upd kb (by (rewrite [dL];refine ru P6 ?_);exact O7 _ hm) (by (rewrite [dL];refine ru P6 ?_;rewrite [dL];refine ru P6 ?_);show (dL _++dL _).Sublist (dL _++dL _);refine ru fb (ru fb ?_);exact .refl _) λ q m=>(R0.mp m).elim (λ m=>.inr ?_) λ m=>.inl ⟨λ z=>?_,O8 _ m⟩
 ·rcases Q2.mp m with z | m
  ·exact ru z (lH.now hF)
  ·exact (S0.mp m).elim λ c z=>ri z.2 (lH.now (hC c z.1))
 ·have nd:=(Q0.mp at'.2.nd).2.1
  rw [dL,P6] at nd
  exact (Q0.mp nd).2.2 a hm q.a (R6 m) z.symm
theorem kv (at':At X s β σ (bM X ρ k++Φ0)):jf s.heap X.env.locals λ o=>HO X.S β X.env.locals o (.frame (c8 X ρ λ x=>X.env.kindOf x==some .local)):=(at'.2.own ⟨X.env.locals,k,_⟩ (O7 _ N2)).up
theorem gK (at':At X s β σ (bM X ρ k++Φ0)){c:Str×Addr}(m:c∈X.env.cells):jf s.heap c.2 λ o=>HO X.S β c.2 o (.cell (c8 X ρ (·==c.1))) :=
 (at'.2.own ⟨c.2,k,.cell (c8 X ρ (·==c.1))⟩ (O7 _ (N9 _ (R6 (f:=λ c:Str×Addr=>(⟨c.2,k,.cell (c8 X ρ (·==c.1))⟩:En)) m)))).up
theorem uv (at':At X s β σ (bM X ρ k++Φ0)){c:Str×Addr}(m:c∈X.env.cells):c.2≠X.env.locals:=by
 have nd:=(Q0.mp at'.2.nd).2.1
 rw [dL,P6] at nd
 have nd:=(Q0.mp nd).1
 rw [show List.map (·.a) (bM X ρ k)=_ from fb] at nd
 exact λ z=>(Q9.mp nd).1 (ri z (R6 (f:=λ c:Str×Addr=>c.2) m))
theorem Di (at':At X s β σ (bM X ρ k++Φ0)){c c':Str×Addr}(m:c∈X.env.cells)(m':c'∈X.env.cells)(e:c.2=c'.2):c=c':=by
 have nd:=(Q0.mp at'.2.nd).2.1
 rw [dL,P6] at nd
 have nd:=(Q0.mp nd).1
 rw [show List.map (·.a) (bM X ρ k)=_ from fb] at nd
 exact wU (Q9.mp nd).2 m m' e
theorem fP.but {m:Str→Option Value}{P:Str→Bool}{x:Str}{i:Nat}{p:PV}(nds:X.slots.Nodup)(hi:X.slots[i]?=some x)(m':Str→Option Value)(h:fP X.S β m (c8 X ρ P))(h1:∀ y,y≠x→P y=true→m' y=m y)(h2:P x=true→∃ v,m' x=some v∧bj X.S β p v):fP X.S β m' (c8 X (ρ.set i (some p)) P):=λ q w =>
 (fB w).elim λ j e=>(IU e.2.1).elim (λ z =>
  (Option.some.inj (hi.symm.trans (ri z.1 e.1)):x=q.1)▸z.2▸h2 (ru (Option.some.inj (hi.symm.trans (ri z.1 e.1)):x=q.1) e.2.2)) λ z =>
  (h q (ii e.1 z.2 e.2.2)).imp λ v w=>⟨(h1 q.1 (λ y=>z.1 (ig nds e.1 (ru y hi))) e.2.2).trans w.1,w.2⟩
theorem gJ {x:Str}{i:Nat}{p:PV}{v:Value}{Q:Unit→Shared→Prop}(ok:re X Φ0)(at':At X s β σ (bM X ρ k++Φ0))(hi:X.slots[i]?=some x)(hk:X.env.kindOf x=some .local∨X.env.kindOf x=some .cell)(r:bj X.S β p v)
  (h:∀ s' k,At X s' β σ (bM X (ρ.set i (some p)) k++Φ0)→Q () s'):wpAny X.M X.A (storeName X.env x v) Q E s:=by
 refine (kv at').elim λ o w1z=>w1z.elim λ g w2z=>w2z.elim λ m w3z=>w3z.elim λ on va=>?_
 rcases hk with hk | hk
 ·refine wpAny_storeName_local hk (on _ g) (λ h' hn' hs=>h _ _ ⟨at'.1,lW at' hs.extBut (.inl rfl) ((pG hn').imp λ o w=>⟨w.1,_,w.2,va.but ok.nds hi _ (λ y n Z9=>if_neg n) λ Z9=>⟨v,if_pos rfl,r⟩⟩) λ c mc=>?_⟩) (by refine ru ok.fx.kind ?_;rfl)
  exact ((gK at' mc).keep λ o e=>hs.extBut _ _ (uv at' mc) e).mp λ o w=>w.imp λ v w=>⟨w.1,w.2.but ok.nds hi _ (λ Z9 Z9 Z9=>rfl) λ z=>LW (z.symm.trans (beq_eq_false_iff_ne.mpr λ z=>nomatch hk.symm.trans ((congrArg X.env.kindOf z).trans (ok.celk c mc)):(x==c.1)=false))⟩
 ·refine (ok.cel x hk).elim λ a ea=>?_
  have ma:=dj ea
  refine (gK at' ma).elim λ oc w1z=>w1z.elim λ gc w2z=>w2z.elim λ v0 w3z=>w3z.elim λ onc vac=>?_
  refine wpAny_storeName_cell ok.fx.kind hk ea (onc _ gc) λ h' hv hs=>h _ _ ⟨at'.1,lW at' hs.extBut (.inr ⟨_,ma,rfl⟩) ⟨o,hs.extBut _ _ (uv at' ma).symm g,m,on,va.but ok.nds hi _ (λ Z9 Z9 Z9=>rfl) λ z=>nomatch (beq_iff_eq.mp z).symm.trans hk⟩ λ c mc=>?_⟩
  by_cases e:c.2=a
  ·have ec:=Di at' mc ma e
   subst ec
   exact hv.elim λ o w=>⟨o,w.1,some v,λ h2 e2=>⟨o,e2,w.2⟩,vac.but ok.nds hi _ (λ y n z=>absurd (beq_iff_eq.mp z) n) λ Z9=>⟨v,rfl,r⟩⟩
  ·have nx:(x==c.1)=false:=beq_eq_false_iff_ne.mpr λ z=>e (congrArg Prod.snd (wU ok.cnd mc ma z.symm))
   exact ((gK at' mc).keep λ o g=>hs.extBut _ _ e g).mp λ o w=>w.imp λ v w=>⟨w.1,w.2.but ok.nds hi _ (λ Z9 Z9 Z9=>rfl) λ z=>LW (z.symm.trans nx)⟩
end
end
end
noncomputable section
section
variable {prog:Program} {w:World} {A:Around} {E:Value→Shared→Prop} {s:Shared}
theorem ud {t:Addr}{items:List Value}{Q:List Value→Shared→Prop}(hok:lp s.heap A.handled)(ht:s.heap.IsTuple t items.toArray)
  (hQ:∀ h',s.heap.StaysIn h'→Q items { s with heap:=h' }):wpAny (model prog w) A (unpackItems (.ref t) items.toArray.size none) Q E s:=by
 have hlt:t≠s.heap.objs.size:=ht.elim λ o h=>V7 (Heap.lt_size h.1)
 have k1:s.heap.StaysIn (s.heap.push { cls:=.type "tuple_iterator",data:=.fields #[.ref t,.int 0 0] }):=λ b o e=>Heap.get?_push_of_some _ e
 refine wpAny_bind ?_
 refine wpAny_bind (wpAny_specialOf ht.typeIs PySem.F.slot_tuple_iter.lookup (wpAny_pure (Fs S8 (wpAny_bind (wpAny_holding (wpAny_pyIter_tuple ht ?_))))))
 refine wpAny_bind (wpAny_holding (wpAny_draw_tuple hlt items.toArray.size 0 _ _ ⟨_,Heap.get?_push_size _ rfl,rfl,rfl⟩ (rj ht k1) (P0 (R9 _)) λ h₁ hit₁ hs₁=>hit₁.elim λ o z=>?_))
 refine ru (Y2 (N8 _):List.take items.toArray.size (List.drop 0 items.toArray.toList)=items) ?_
 exact Fs (λ h=>z0y _ (P2▸h:items.length<items.length)) (wpAny_bind (wpAny_holding (oO ((hok.keep k1).extBut hs₁.extBut (hok.fresh (Heap.get?_none_of_le (N8 _)))) (hok.fresh (Heap.get?_none_of_le (N8 _))) z.1 z.2.1 z.2.2 ((rj ht k1).extBut hs₁.extBut hlt) (Array.getElem?_eq_none (P0 (R9 _).symm)) λ h₂ he₂ =>
  Fs S8 (wpAny_pure (hQ h₂ λ b o e=>have hb:=V7 (Heap.lt_size e);he₂ b o hb (hs₁.extBut b o hb (k1 b o e)))))))
end
theorem Ap {es:List Expr}{xs:List Str}{e:Expr}(h:Dq (e::es)=some xs):∃ x p ys,e=.Name x p∧Dq es=some ys∧xs=x::ys:=by
 cases e<;>first | exact (O9.mp h).elim λ ys w=>⟨_,_,ys,rfl,w.1,w.2.symm⟩ | exact nN h
theorem nf {env:Env}(es:List Expr):∀ xs,Dq es=some xs→(assignEach es env).map (·.2)=es.map (λ e=>assign e env)∧(assignEach es env).length=xs.length∧(assignEach es env).findIdx? (·.1)=none:=by
 induction es with
 | nil=>exact λ xs h=>ri (Option.some.inj h) (⟨rfl,rfl,rfl⟩)
 | cons e es ih =>
  intro xs h
  obtain ⟨x,p,ys,rfl,h1,rfl⟩:=Ap h
  refine ⟨congrArg (_::·) (ih ys h1).1,congrArg (·+1) (ih ys h1).2.1,?_⟩
  refine ru (List.findIdx?_cons) (ru (ih ys h1).2.2 ?_);rfl
theorem j3 {prog:Program}{w:World}{A:Around}{E:Value→Shared→Prop}{s:Shared}{env:Env}{es:List Expr}{xs:List Str}{c:Nat}{pos:Pos}{ta:Addr}{items:List Value}{Q:Unit→Shared→Prop}(hok:lp s.heap A.handled)(hn:Dq es=some xs)(ht:s.heap.IsTuple ta items.toArray)(hl:items.length=xs.length)
  (k:∀ h',s.heap.StaysIn h'→wpAny (model prog w) A (assignInOrder (es.map λ e=>assign e env) items) Q E { s with heap:=h' }):wpAny (model prog w) A (assign (.Tuple es c pos) env (.ref ta)) Q E s:=by
 refine ru (arm_assign_Tuple ..) ?_
 refine wpAny_bind (wpAny_standAt ?_)
 unfold unpack
 refine ru (nf (env:=env) es xs hn).2.2 (ru (show (assignEach es env).length=items.toArray.size by rw [(nf (env:=env) es xs hn).2.1,P2,hl]) ?_)
 refine wpAny_bind (wpAny_holding (ud hok ht λ h' st=>?_))
 refine ru (nf (env:=env) es xs hn).1 ?_
 exact k h' st
section
variable {X:Cx} {ρ:am} {Φ0:Ow} {n:Nat}
theorem dy {x:Str}{i:Nat}(h:X.ce.isVar x i=true):X.slots[i]?=some x∧(X.env.kindOf x=some .local∨X.env.kindOf x=some .cell) :=
 ⟨beq_iff_eq.mp (aE (aj h)),(P5.mp (aj (aj h))).imp (λ q=>beq_iff_eq.mp q) λ q=>beq_iff_eq.mp q⟩
theorem Aq {β:Fz}{σ:aa}{E:Value→Shared→Prop}(ok:re X Φ0)(es:List Expr):∀ {ρ} (xs is vs items s k) (Q:Unit→Shared→Prop),Dq es=some xs→xs.length=is.length→((xs.zip is).all λ q=>X.ce.isVar q.1 q.2)=true→RepL X.S β vs items→vs.length=xs.length→At X s β σ (bM X ρ k++Φ0) →
  (∀ s' k,At X s' β σ (bM X (Gm ρ is vs) k++Φ0)→Q () s')→wpAny X.M X.A (assignInOrder (es.map (λ e=>assign e X.env)) items) Q E s:=by
 induction es with
 | nil =>
  intro ρ xs is vs items s k Q h1 h2 h3 q h4 a hQ
  cases Option.some.inj h1
  cases is with
  | cons=>exact Ix h2
  | nil=>exact wpAny_pure (hQ s k a)
 | cons e es ih =>
  intro ρ xs is vs items s k Q h1 h2 h3 q h4 a hQ
  obtain ⟨x,p,ys,rfl,h5,rfl⟩:=Ap h1
  cases is with
  | nil=>exact Iw h2
  | cons i is =>
   cases vs with
   | nil=>exact Ix h4
   | cons v vs =>
    obtain ⟨val,rest,rfl,rv,rr⟩:=q
    exact wpAny_assignInOrder_more (wpAny_assign_Name (gJ ok a (dy (aj h3)).1 (dy (aj h3)).2 rv λ s' k' a'=>ih ys is vs rest s' k' Q h5 (Nat.succ.inj h2) (aE h3) rr (Nat.succ.inj h4) a' hQ))
@[elab_as_elim] theorem EW {motive:Expr→Bool×List Str→Prop}{q:Bool×List Str}(t:Expr)(h:b5 t=some q)(f:∀ x p,motive (.Name x p) (true,[x]))(g:∀ es u p ys,Dq es=some ys→motive (.Tuple es u p) (false,ys)):motive t q:=by
 revert h;cases t<;>first | exact λ h=>ri (Option.some.inj h) (f _ _) | exact λ h=>(O9.mp h).elim λ ys w=>ri w.2 (g _ _ _ ys w.1) | exact λ h=>nN h
theorem EU {C:Prop}{nt:Nat}{p:PV}{bs:List PV}(h:xy false nt p=some bs)(f:∀ vs,p=.tup vs→vs.length=nt∧vs=bs→C):C:=by
 cases p<;>first | exact f _ rfl (cW h) | exact nN h
theorem Ga {t:Expr}{single:Bool}{is:List Nat}(h:zr X.ce t single is=true):∃ tg,b5 t=some (single,tg)∧tg.length=is.length∧(tg.zip is).all (λ q=>X.ce.isVar q.1 q.2)=true:=by
 unfold zr at h
 revert h
 cases b5 t with
 | none=>exact λ h=>ff h
 | some q=>exact λ h=>have h1:=an h;have h2:=an h1.1;⟨q.2,congrArg some (Prod.ext (beq_iff_eq.mp h2.1) rfl),beq_iff_eq.mp h2.2,h1.2⟩
theorem pE {t:Expr}{single:Bool}{is:List Nat}{p:PV}{v:Value}{s:Shared}{β:Fz}{σ:aa}{k:Nat}{ρ':am}{Q:Unit→Shared→Prop}{E}(ok:re X Φ0)(a:At X s β σ (bM X ρ k++Φ0))(h:zr X.ce t single is=true)(ha:b3 single is p ρ=some ρ')(r:bj X.S β p v)
  (hQ:∀ s' β' k,At X s' β' σ (bM X ρ' k++Φ0)→Le β β'→Q () s'):wpAny X.M X.A (assign t X.env v) Q E s:=(O9.mp ha).elim λ bs hb=>(Ga h).elim λ tg z=>by
 have go:∀ {t q},b5 t=some q→single=q.1→q.2.length=is.length→(q.2.zip is).all (λ q=>X.ce.isVar q.1 q.2)=true→wpAny X.M X.A (assign t X.env v) Q E s:=λ {t q} ht =>
  EW (motive:=λ t q=>single=q.1→q.2.length=is.length→(q.2.zip is).all (λ q=>X.ce.isVar q.1 q.2)=true→wpAny X.M X.A (assign t X.env v) Q E s) t ht (λ x pos e hl h3=>by
   obtain ⟨i,ei⟩:=List.length_eq_one_iff.mp hl.symm
   rw [ei] at h3 hb
   rw [e] at hb
   exact wpAny_assign_Name (gJ ok a (dy (aj h3)).1 (dy (aj h3)).2 r λ s' k a'=>hQ s' β k (hb.2▸ri (Option.some.inj hb.1) a') .rfl')) λ es c pos xs hn e hl h3=>EU (bs:=bs) (nt:=is.length) (by rw [e] at hb;exact hb.1) λ vs ep hv=>rT v (ri ep r) λ Z9 ta items ht q =>
    j3 (ok.fx.hok.keep a.ns) hn (rj ht a.2.st) (q.length.trans (hv.1.trans hl.symm)) λ h' st=>(a.2.keeps st).elim λ β' z=>Aq ok es xs is vs items _ k Q hn hl h3 (q.mono z.2.1) (hv.1.trans hl.symm) ⟨a.1,z.1⟩ λ s' k a'=>hQ s' β' k (hb.2▸ri hv.2 a') z.2.1
 exact go z.1 rfl z.2.1 z.2.2
set_option tactic.hygienic true in
noncomputable def bZ (X:Cx)(Φ0:Ow)(β:Fz)(Q:Flow→Shared→Prop)(E:Value→Shared→Prop):aY cO→Prop
 | .ok o σ'=>(match o with
  | .next ρ'=>∀ s' β' k,At X s' β' σ' (bM X ρ' k++Φ0)→Le β β'→Q .next s'
  | .ret p=>∀ v s' β' ρ' k,At X s' β' σ' (bM X ρ' k++Φ0)→Le β β'→bj X.S β' p v→Q (.ret v) s')
 | .exc c a σ'=>∀ ea d s' md β' ρ' k,Md.at X.env.locals md→At X s' β' σ' (qD X.A.handled ea d md++(bM X ρ' k++Φ0))→Le β β'→vK d c a β'.B→E (.ref ea) s'
set_option tactic.hygienic true in
theorem bZ.le {β β₁:Fz}{Q E}{r:aY cO}(k:Le β β₁)(x:bZ X Φ0 β Q E r):bZ X Φ0 β₁ Q E r:=by
 cases r with
 | exc c m σ=>exact λ ea d s md β' ρ k' p a l q=>x ea d s md β' ρ k' p a (k.trans l) q
 | ok o σ=>cases o with
  | next ρ=>exact λ s β' k' a l=>x s β' k' a (k.trans l)
  | ret p=>exact λ v s β' ρ k' a l q=>x v s β' ρ k' a (k.trans l) q
noncomputable def JS (X:Cx)(Φ0:Ow)(Γ:Iq)(W:Wp Flow)(ρ:am)(σ:aa)(r:aY cO):Prop:=∀ s β k Q E,At X s β σ (bM X ρ k++Φ0)→vI X.S β Γ→bZ X Φ0 β Q E r→W Q E s
theorem JS.map {Γ}{W W':Wp Flow}{σ r}(h:JS X Φ0 Γ W ρ σ r)(k:∀ Q E s,W Q E s→W' Q E s):JS X Φ0 Γ W' ρ σ r:=λ s β m Q E a g p=>k Q E s (h s β m Q E a g p)
theorem JS.seq {b α:Type}{Γ}{t:Sem α}{W:α→Wp Flow}{R:RT b α}{σ}{r:aY cO}{A:aY b→Prop}{Q:b→aa→aY cO→Prop}(h:dc A Q r)(hA:∀ k r,A r→J X (bM X ρ k++Φ0) Γ (X.wp t) R bD σ r)
  (hQ:∀ x σ₁,Q x σ₁ r→∀ a s β k Q E,At X s β σ₁ (bM X ρ k++Φ0)→vI X.S β Γ→R β x a→bZ X Φ0 β Q E r→W a Q E s):JS X Φ0 Γ (λ Q E s=>wpAny X.M X.A t (λ a s₁=>W a Q E s₁) E s) ρ σ r :=
 λ s β k Q E a g p=>h.elim (λ h=>h.elim λ x h=>h.elim λ σ₁ h=>hA k _ h.1 s β _ E a g λ v s₁ β₁ a₁ l q=>hQ x σ₁ h.2 v s₁ β₁ k Q E a₁ (g.mono l) q (p.le l))
  λ h=>h.elim λ c h=>h.elim λ m h=>h.elim λ σ₁ h=>hA k _ h.1 s β _ E a g λ ea d s' md β' pm a' l x=>(show bZ X Φ0 β Q E (.exc c m σ₁) from ri h.2 p) ea d s' md β' ρ k (by cases md<;>first | trivial | exact (show False from pm).elim) a' l x
theorem JS.seqV {Γ}{t:Sem Value}{W:Value→Wp Flow}{σ}{r:aY cO}{A:aY PV→Prop}{Q:PV→aa→aY cO→Prop}(h:dc A Q r)(hA:∀ k r,A r→J X (bM X ρ k++Φ0) Γ (X.wp t) (bj X.S) bD σ r)
  (hQ:∀ x σ₁,Q x σ₁ r→∀ a,JS X Φ0 ((x,a)::Γ) (W a) ρ σ₁ r):JS X Φ0 Γ (λ Q E s=>wpAny X.M X.A t (λ a s₁=>W a Q E s₁) E s) ρ σ r :=
 JS.seq h hA λ x σ₁ q a s β k Q E at' g rx p=>hQ x σ₁ q a s β k Q E at' ⟨rx,g⟩ p
end
structure St (n:Nat) (ir:IS) (ρ:am) (σ:aa) (r:aY cO):Prop where
 s:∀ X st Φ0,re X Φ0→X.d=n→(nt ir=true→X.A.handled=none)→(lK ir X.ce).s st=true→JS X Φ0 [] (X.wp (exec st X.env)) ρ σ r
 ss:∀ X b Φ0,re X Φ0→X.d=n→(nt ir=true→X.A.handled=none)→(lK ir X.ce).ss b=true→JS X Φ0 [] (X.wp (execs b X.env)) ρ σ r
section
variable {n:Nat} {ρ:am} {σ:aa} {r:aY cO}
theorem St.ofS {ir:IS}(h:∀ X st Φ0,re X Φ0→X.d=n→(nt ir=true→X.A.handled=none)→(lK ir X.ce).s st=true→JS X Φ0 [] (X.wp (exec st X.env)) ρ σ r)(hb:∀ E e,(lK ir E).ss e=false:=by exact λ Z9 Z9=>rfl):St n ir ρ σ r:=⟨h,λ X b Z9 Z9 Z9 Z9 q=>ff ((hb X.ce b).symm.trans q)⟩
section
variable {motive:Stmt→Prop} (st:Stmt)
@[elab_as_elim] theorem AH {k}(h:Jn st k=true)(f:∀ e p,k e=true→motive (.Return e p)):motive st:=by revert h;cases st<;>first | exact f _ _ | exact λ (h:false=true)=>ff h
@[elab_as_elim] theorem wt {k}(h:AK st k=true)(f:∀ e p,k e=true→motive (.Expr e p)):motive st:=by revert h;cases st<;>first | exact f _ _ | exact λ (h:false=true)=>ff h
@[elab_as_elim] theorem G2 {k}(h:Jt st k=true)(f:∀ t o e p,k t o e=true→motive (.AugAssign t o e p)):motive st:=by revert h;cases st<;>first | exact f _ _ _ _ | exact λ (h:false=true)=>ff h
@[elab_as_elim] theorem GX {k}(h:Jq st k=true)(f:∀ c a b p,k c a b=true→motive (.If c a b p)):motive st:=by revert h;cases st<;>first | exact f _ _ _ _ | exact λ (h:false=true)=>ff h
@[elab_as_elim] theorem nq {k}(h:AO st k=true)(f:∀ t e p,k t e=true→motive (.Assign [t] e p)):motive st:=by
 revert h
 cases st with
 | Assign l e p=>cases l with
  | nil=>exact λ (h:false=true)=>ff h
  | cons t l=>cases l with
   | nil=>exact f _ _ _
   | cons=>exact λ (h:false=true)=>ff h
 | _=>exact λ (h:false=true)=>ff h
end
theorem ul {e:IE}(k:dc (Ev n e ρ σ) (λ x σ₁ r=>r=.ok (.ret x) σ₁) r):St n (.ret e) ρ σ r:=.ofS λ X st Φ0 ok d hn h=>AH st h λ o p h=>by
 have go:=JS.seqV (W:=λ v Q E s=>Q (.ret v) s) k (λ k Z9 ha=>ha.v X (yd o) _ ok.fx d h ok.vis) λ x σ₁ k va s β m Q E a g po=>(show bZ X Φ0 β Q E (.ok (.ret x) σ₁) from ri k po) _ _ β ρ m a .rfl' g.1
 cases o with
 | none=>exact go
 | some e=>exact go.map λ Z9 Z9 Z9=>wpAny_Return_some
theorem p5 {e:Expr}(h:mZ e=true)(t:Option Expr)(l:Nat)(env:Env):swapsWith e t l env=pure false:=by revert h;cases e<;>first | exact λ Z9=>rfl | exact λ (h:false=true)=>ff h
theorem iK {env:Env}(h:env.scope.kind=.function):interactive env=false:=by unfold interactive;refine ru h ?_;rfl
set_option tactic.hygienic true in
theorem CT {e:IE}(k:dc (Ev n e ρ σ) (λ x σ₁ r=>r=.ok (.next ρ) σ₁) r):St n (.expr e) ρ σ r:=.ofS λ X st Φ0 ok d hn h=>wt st h λ e p h =>
 (JS.seqV (W:=λ v Q E s=>Q .next s) k (λ k Z9 ha=>ha.v X e _ ok.fx d (aE h) ok.vis) λ x σ₁ k va s β m Q E a g po=>(show bZ X Φ0 β Q E (.ok (.next ρ) σ₁) from ri k po) _ β m a .rfl').map λ Z9 Z9 Z9 q=>wpAny_Expr_any q (iK ok.fx.kind) (p5 (aj h) _ _ _)
theorem wF {X:Cx}{Φ0:Ow}{Γ:Iq}{x:Str}{i:Nat}{p:PV}{v:Value}(ok:re X Φ0)(hi:X.ce.isVar x i=true)(hr:r=.ok (.next (ρ.set i (some p))) σ):JS X Φ0 ((p,v)::Γ) (λ Q E s=>wpAny X.M X.A (storeName X.env x v) (λ Z9=>Q .next) E s) ρ σ r:=λ s β m Q E a g po =>
 gJ ok a (dy hi).1 (dy hi).2 g.1 λ s' k a'=>(show bZ X Φ0 β Q E (.ok (.next (ρ.set i (some p))) σ) from ri hr po) _ β k a' .rfl'
@[elab_as_elim] theorem Bh {motive:Expr→Prop}(t:Expr)(h:Bi t=true)(f:∀ es u p,motive (.Tuple es u p)):motive t:=by revert h;cases t<;>first | exact λ Z9=>f _ _ _ | exact λ (h:false=true)=>ff h
theorem Lv {e:Expr}(h:mZ e=true)(es u p)(env:Env):swappedStores [.Tuple es u p] e env=pure none:=by revert h;cases e<;>first | exact λ Z9=>rfl | exact λ (h:false=true)=>ff h
set_option tactic.hygienic true in
theorem CU {is:List Nat}{e:IE}(k:dc (Ev n e ρ σ) (λ x σ₁ r=>∃ ρ',b3 false is x ρ=some ρ'∧r=.ok (.next ρ') σ₁) r):St n (.asgT is e) ρ σ r:=.ofS λ X st Φ0 ok d hn h=>nq st h λ t e p h=>by
 have go:=JS.seqV (W:=λ v Q E s=>wpAny X.M X.A (assign t X.env v) (λ Z9=>Q .next) E s) k (λ k Z9 ha=>ha.v X e _ ok.fx d (aE h) ok.vis) λ x σ₁ k va s β m Q E a g po=>k.elim λ ρ' k=>pE ok a (aE (aj (aj h))) k.1 g.1 λ s' β' m a' l=>(show bZ X Φ0 β Q E (.ok (.next ρ') σ₁) from ri k.2 po) _ β' m a' l
 revert go
 exact Bh (motive:=λ t=>JS X Φ0 [] (λ Q E s=>wpAny X.M X.A (eval e X.env) (λ v s₁=>wpAny X.M X.A (assign t X.env v) (λ Z9=>Q .next) E s₁) E s) ρ σ r→JS X Φ0 [] (X.wp (exec (.Assign [t] e p) X.env)) ρ σ r) t (aj (aj (aj h))) λ es u q go=>go.map λ Z9 Z9 Z9 q'=>wpAny_Assign_stores q' (p5 (aE (aj h)) (some (.Tuple es u q)) p.line X.env) (Lv (aE (aj h)) _ _ _ _)
end
end
noncomputable section
section
variable {S:Sy} {β:Fz}
theorem xQ {K:Type}[DecidableEq K]{a k:K}{x v:Value}{r:List (K×Value)}(h:k≠a):stored ((a,x)::r) k v=(a,x)::stored r k v:=by
 unfold stored
 refine ru z1y (ru (decide_eq_false (λ q:a=k=>h q.symm)) (ru (Bool.false_or ..) (ru z1b (ru (if_neg (λ q:a=k=>h q.symm)) ?_))))
 split<;>rfl
theorem xR {K:Type}[DecidableEq K]{k:K}{x v:Value}{r:List (K×Value)}(h:k∉r.map (·.1)):stored ((k,x)::r) k v=(k,v)::r:=by
 unfold stored
 refine ru z1y (ru (decide_eq_true (rfl:k=k)) (ru (Bool.true_or ..) (ru (if_pos rfl) (ru z1b (ru (if_pos rfl) ?_)))))
 exact congrArg (_::·) ((z0v λ p m=>if_neg λ q:p.1=k=>h (ri q (R6 (f:=λ p:K×Value=>p.1) m))).trans (Y6 _))
structure ME (S:Sy) (β:Fz) {L K:Type} [DecidableEq L] [DecidableEq K] (enc:L→K) (k:L) (p:PV) (v:Value) (ks:List L) (vs:List PV) (vals:List Value) (vals':List Value):Prop where
 len:vals'.length=(ku k p ks vs).1.length
 rep:RepL S β (ku k p ks vs).2 vals'
 eq:stored ((ks.map enc).zip vals) (enc k) v=((ku k p ks vs).1.map enc).zip vals'
 le:(ku k p ks vs).1.length≤ks.length+1
 mem:∀ x∈(ku k p ks vs).1,x=k∨x∈ks
theorem CC {L K:Type}[DecidableEq L][DecidableEq K]{enc:L→K}(inj:∀ a b,enc a=enc b→a=b){k:L}{p:PV}{v:Value}(r:bj S β p v)(ks:List L):∀ (vs:List PV) (vals:List Value),RepL S β vs vals→vals.length=ks.length→(ks.map enc).Nodup→∃ vals',ME S β enc k p v ks vs vals vals':=by
 induction ks with
 | nil =>
  intro vs vals q hl hn
  cases U6.mp hl
  exact ⟨[v],rfl,.single r,rfl,N8 _,λ x m=>.inl (P7.mp m)⟩
 | cons a ks ih =>
  intro vs vals q hl hn
  cases vs with
  | nil=>rw [show vals=[] from q] at hl;exact Ix hl
  | cons x vs =>
   obtain ⟨w,rest,rfl,rw',rr⟩:=q
   have hl':rest.length=ks.length:=Nat.succ.inj hl
   have e0:ku k p (a::ks) (x::vs)=if k=a then (a::ks,p::vs) else (a::(ku k p ks vs).1,x::(ku k p ks vs).2):=rfl
   by_cases h:k=a
   ·subst h
    refine ⟨v::rest,?_,?_,?_,?_,?_⟩<;>refine ru e0 (ru (if_pos rfl) ?_)
    ·exact congrArg (·+1) hl'
    ·exact ⟨v,rest,rfl,r,rr⟩
    ·exact xR (r:=(ks.map enc).zip rest) (by refine ru (z0h (by rw [N3,hl'];exact N8 _)) ?_;exact (Q9.mp hn).1)
    ·exact U4 _
    ·exact λ Z9 m=>.inr m
   ·refine (ih vs rest rr hl' (Q9.mp hn).2).elim λ vals' z=>?_
    refine ⟨w::vals',?_,?_,?_,?_,?_⟩<;>refine ru e0 (ru (if_neg h) ?_)
    ·exact congrArg (·+1) z.len
    ·exact ⟨w,vals',rfl,rw',z.rep⟩
    ·exact (xQ λ q=>h (inj _ _ q)).trans (congrArg (_::·) z.eq)
    ·exact P3 z.le
    ·exact λ y m=>(Q2.mp m).elim (λ e=>.inr (ri e N2)) λ m=>(z.mem y m).imp _root_.id (N9 _)
theorem HQ {prog:Program}{w:World}{K L:Type}[DecidableEq K]{knd:PySem.KeyKind prog w K}{enc:L→K}{a:Addr}{ks:List L}{is:List Value}{h:Heap}(x:lr knd enc a ks is h):(ks.map enc).Nodup:=by
 refine x.elim λ hl w1z=>w1z.elim λ Z9 w2z=>w2z.elim λ Z9 w3z=>w3z.elim λ Z9 w4z=>w4z.elim λ Z9 w5z=>w5z.elim λ Z9 w6z=>w6z.elim λ Z9 w7z=>w7z.elim λ Z9 w8z=>w8z.elim λ Z9 w9z=>w9z.elim λ Z9 hn=>?_
 rwa [z0h (by refine ru (N3 ..) (ru hl ?_);exact N8 _)] at hn
end
section
variable {X:Cx} {s:Shared} {β:Fz} {σ:aa} {Φ:Ow} {E:Value→Shared→Prop}
inductive Cs (σ:aa) (v:PV):PV→PV→aa→Prop
 | s (l:Nat) (kk:List Nat) (ks:List (List Nat)) (vs:List PV) (e:σ[l]?=some (.dctS ks vs)) (hl:ks.length<ax):Cs σ v (.loc l) (.str kk) (σ.set l (.dctS (ku kk v ks vs).1 (ku kk v ks vs).2))
 | i (l:Nat) (kk:Int) (ks:List Int) (vs:List PV) (e:σ[l]?=some (.dctI ks vs)) (hl:ks.length<ax):Cs σ v (.loc l) (.int kk) (σ.set l (.dctI (ku kk v ks vs).1 (ku kk v ks vs).2))
 | z (l:Nat) (kk:List Nat) (vs:List PV) (e:σ[l]?=some (.dctI [] vs)):Cs σ v (.loc l) (.str kk) (σ.set l (.dctS [kk] [v]))
theorem CY {d k v:PV}{σ':aa}(h:eM d k v σ=some σ'):Cs σ v d k σ':=by
 cases d with
 | loc l =>
  obtain ⟨o,e,w⟩:=O5.mp h
  cases o with
  | lst=>exact nN w
  | dctS ks vs =>
   cases k with
   | str kk=>exact ri ((cW w).2) (.s l kk ks vs e (cW w).1)
   | _=>exact nN w
  | dctI ks vs =>
   cases k with
   | int kk=>exact ri ((cW w).2) (.i l kk ks vs e (cW w).1)
   | str kk=>cases ks with
    | cons=>exact nN w
    | nil=>exact ri (Option.some.inj w) (.z l kk vs e)
   | _=>exact nN w
 | _=>exact nN h
theorem mP {K L:Type}[DecidableEq K][DecidableEq L]{knd:PySem.KeyKind X.S.prog X.S.w K}{enc:L→K}(inj:∀ a b,enc a=enc b→a=b){kk:L}{ks:List L}{vs:List PV}{v:PV}{is:List Value}{vk vv:Value}{ad:Addr}{Q:Unit→Shared→Prop}(hk:knd.is (enc kk) vk=true)(x:lr knd enc ad ks is s.heap)(q:RepL X.S β vs is)(rv:bj X.S β v vv)(hl:ks.length<ax)
  (gA:∀ h' t,Heap.SameBut ad s.heap h'→jf h' ad (λ o=>Ob ad o (λ is=>lr knd enc ad (ku kk v ks vs).1 is) (RepL X.S β (ku kk v ks vs).2))→(ku kk v ks vs).1.length≤ax→(∀ x∈(ku kk v ks vs).1,x=kk∨x∈ks)→Q () { s with heap:=h',toks:=t }):wpAny X.M X.A (setItem (.ref ad) vk vv) Q E s :=
 (CC inj (k:=kk) rv ks vs is q x.1 (HQ x)).elim λ is' p=>wpAny_setItem_pairs hk x.2.2 (λ h' hd sb=>gA h' _ sb ((p.eq▸hd).elim λ o y=>y.elim λ es y=>y.elim λ ep y=>⟨o,y.1,is',λ h2 e=>⟨p.len,x.2.1,o,es,ep,e,y.2⟩,p.rep⟩) (N1 p.le hl) p.mem) (by refine ru (g9 x.1) ?_;exact N1 (T3 hl) bt)
theorem IT {d k v:PV}{σ':aa}{vv:Value}{Q:Unit→Shared→Prop}(a:At X s β σ Φ)(rv:bj X.S β v vv)(m:Cs σ v d k σ'):∀ {vd vk:Value},bj X.S β d vd→bj X.S β k vk→(∀ {l ad} {o':aN} (h':Heap) (t:Tok),β.μ[l]?=some ad→σ.set l o'=σ'→Heap.SameBut ad s.heap h'→jf h' ad (λ x=>eH X.S β ad x o')→Q () { s with heap:=h',toks:=t })→wpAny X.M X.A (setItem vd vk vv) Q E s:=by
 cases m with
 | s l kk ks vs e hl=>exact @λ vd vk rd rk gA=>pV vd rd a e λ ad ox e1 e2 ob=>rS vk rk λ okk t=>ob.2.elim λ is w=>mP (λ Z9 Z9=>cU) (strKind_is _ _ (aG kk) t) (w.1 _ e2) w.2 rv hl λ h' t sb x le mem=>gA h' t e1 rfl sb (x.mp λ o y=>⟨⟨le,λ y m=>(mem y m).elim (λ e=>ru e okk) (ob.1.2 y)⟩,y⟩)
 | i l kk ks vs e hl=>exact @λ vd vk rd rk gA=>pV vd rd a e λ ad ox e1 e2 ob=>rI vk rk λ t=>ob.2.elim λ is w=>mP (λ Z9 Z9=>id) (intKind_is _ _ kk t) (w.1 _ e2) w.2 rv hl λ h' t sb x le mem=>gA h' t e1 rfl sb (x.mp λ o y=>⟨le,y⟩)
 | z l kk vs e=>exact @λ vd vk rd rk gA=>pV vd rd a e λ ad ox e1 e2 ob=>rS vk rk λ okk t=>ob.2.elim λ is w=>mP (ks:=[]) (vs:=[]) (is:=[]) (λ Z9 Z9=>cU) (strKind_is _ _ (aG kk) t) ⟨rfl,(w.1 _ e2).2.1,gU (w.1 _ e2)⟩ rfl rv (by decide) λ h' t sb x le mem=>gA h' t e1 rfl sb (x.mp λ o y=>⟨⟨le,λ y m=>(mem y m).elim (λ e=>ru e okk) λ m=>absurd m List.not_mem_nil⟩,y⟩)
theorem Gk {d k v:PV}{σ':aa}{vd vk vv:Value}{Q:Unit→Shared→Prop}(h:eM d k v σ=some σ')(a:At X s β σ Φ)(rd:bj X.S β d vd)(rk:bj X.S β k vk)(rv:bj X.S β v vv)(hQ:∀ s',At X s' β σ' Φ→Q () s'):wpAny X.M X.A (setItem vd vk vv) Q E s :=
 IT a rv (CY h) rd rk λ h' t e1 e sb x=>hQ _ (ri e (⟨a.1,a.2.setσ e1 sb.extBut x⟩))
end
section
variable {n:Nat} {ρ:am} {σ:aa} {r:aY cO}
noncomputable def t5 (x y:PV)(σ:aa)(v:PV):Prop:=∀ va vb,Lf [(y,vb),(x,va)] (inplaceOp .Add va vb) σ (.ok v σ)
theorem H6 {a b:Int}:t5 (.int a) (.int b) σ (.int (a+b)):=λ va vb X Φ P fx s β Q E at' g po=>rI va g.2.1 λ t=>rI vb g.1 λ u=>AutoIntOps.iadd_0 (po _ _ β at' .rfl' ⟨_,rfl⟩)
theorem H5 {a b:List Nat}(h:a.length+b.length≤ax):t5 (.str a) (.str b) σ (.str (a++b)):=λ va vb X Φ P fx s β Q E at' g po=>rS va g.2.1 λ l1 t=>rS vb g.1 λ l2 u =>
 SB.iadd (λ t' k=>po _ _ β at' .rfl' ⟨⟨ri ((N5 ..).symm) h,λ c m=>(R0.mp m).elim (l1.2 c) (l2.2 c)⟩,t',congrArg (Value.str · t') (fT a b)⟩) (by refine ru (aK ..) (ru (aK ..) ?_);exact N1 h bt)
theorem EH {x y:PV}{K:PV→Prop}(h:∀ v,t5 x y σ v→K v):KJ x y K:=vw (motive:=λ x=>∀ v,t5 x y σ v→K v) h
 (λ a h=>fg (motive:=λ y=>∀ v,t5 (.int a) y σ v→K v) h λ b h=>h _ H6)
 (λ a h=>cV (motive:=λ y=>∀ v,t5 (.str a) y σ v→K v) h λ b h l=>h _ (H5 l)) λ Z9 Z9=>trivial
theorem Gg {i:Nat}{ir:IE}{x:PV}(hv:cT ρ i=some x)(k:dc (Ev n ir ρ σ) (λ y σ₁ r=>∃ v,t5 x y σ₁ v∧r=.ok (.next (ρ.set i (some v))) σ₁) r):St n (.aug i ir) ρ σ r:=.ofS λ X st Φ0 ok d hn h=>G2 st h λ t o e p h=>by
 have eo:o=.Add:=beq_iff_eq.mp (aj (aj h))
 subst eo
 exact cj (motive:=λ t=>JS X Φ0 [] (X.wp (exec (.AugAssign t .Add e p) X.env)) ρ σ r) t (aE (aj h)) λ y q hy=>(JS.seqV (A:=λ r'=>r'=.ok x σ) (Q:=λ x' σ' r=>x'=x∧σ'=σ∧dc (Ev n ir ρ σ) (λ y σ₁ r=>∃ v,t5 x y σ₁ v∧r=.ok (.next (ρ.set i (some v))) σ₁) r) (.inl ⟨x,σ,rfl,rfl,rfl,k⟩) (λ m Z9 ha=>ru ha (ww ok.fx ok.vis hy hv)) λ x' σ' k vo=>by
  obtain ⟨rfl,rfl,k⟩:=k
  exact JS.seqV k (λ m Z9 ha=>(ha.v X e _ ok.fx d (aE h) ok.vis).wk) λ y' σ₁ k va=>k.elim λ v k =>
   JS.seqV (A:=λ r'=>r'=.ok v σ₁) (Q:=λ v' σ' r=>r=.ok (.next (ρ.set i (some v'))) σ') (.inl ⟨v,σ₁,rfl,k.2⟩) (λ m Z9 ha=>ru ha (k.1 vo va X _ bD ok.fx)) λ v' σ' k vv=>wF ok hy k).map λ Z9 Z9 Z9=>wpAny_AugAssign_Name
theorem vW {i:Nat}{e:IE}(k:dc (Ev n e ρ σ) (λ x σ₁ r=>r=.ok (.next (ρ.set i (some x))) σ₁) r){X:Cx}{Φ0:Ow}{t x:Expr}{p:Pos}(ok:re X Φ0)(d:X.d=n)(h1:eQ t (λ n=>X.ce.isVar n i)=true)(h2:(rel e X.ce).v x=true)(hv:swapsWith x (some t) p.line X.env=pure false):JS X Φ0 [] (X.wp (exec (.Assign [t] x p) X.env)) ρ σ r:=by
 revert hv
 exact cj (motive:=λ t=>swapsWith x (some t) p.line X.env=pure false→JS X Φ0 [] (X.wp (exec (.Assign [t] x p) X.env)) ρ σ r) t h1 λ y q hy hv=>(JS.seqV k (λ m Z9 ha=>ha.v X x _ ok.fx d h2 ok.vis) λ v σ₁ k va=>wF ok hy k).map λ Z9 Z9 Z9 q=>wpAny_Assign_Name q hv
set_option tactic.hygienic true in
theorem CS {d k v:IE}(h:dc (Ev n v ρ σ) (λ z σ₁=>dc (Ev n d ρ σ₁) λ x σ₂=>dc (Ev n k ρ σ₂) λ y σ₃ r=>∃ σ',eM x y z σ₃=some σ'∧r=.ok (.next ρ) σ') r):St n (.setI d k v) ρ σ r:=.ofS λ X st Φ0 ok hd hn q=>nq st q λ t e p q=>by
 have h1:=an q
 exact uC (motive:=λ t=>JS X Φ0 [] (X.wp (exec (.Assign [t] e p) X.env)) ρ σ r) t h1.1 λ a b sp q=>(JS.seqV h (λ m Z9 ha=>ha.v X e _ ok.fx hd h1.2 ok.vis) λ z σ₁ h vz=>JS.seqV h (λ m Z9 ha=>(ha.v X a _ ok.fx hd (aj q) ok.vis).wk) λ x σ₂ h vx=>JS.seqV (W:=λ vy Q E s=>wpAny X.M X.A (setItem vx vy vz) (λ Z9=>Q .next) E s) h (λ m Z9 ha=>(ha.v X b _ ok.fx hd (aE q) ok.vis).wk) λ y σ₃ h vy s β m Q E a g po=>h.elim λ σ' h =>
  Gk h.1 a g.2.1 g.1 g.2.2.1 λ s' a'=>(show bZ X Φ0 β Q E (.ok (.next ρ) σ') from ri h.2 po) _ β m a' .rfl').map λ Z9 Z9 Z9 q=>wpAny_Assign_Subscript q (by cases e<;>rfl)
theorem ee {c:IE}{a b:IS}(k:dc (Ev n c ρ σ) (λ x σ₁=>QB (St n a ρ σ₁) (St n b ρ σ₁) x) r):St n (.iff c a b) ρ σ r:=.ofS λ X st Φ0 ok d hn h=>GX st h λ t x y p h =>
 (JS.seq (W:=λ (c:Bool) Q E s=>if c=true then wpAny X.M X.A (execs x X.env) Q E s else wpAny X.M X.A (execs y X.env) Q E s) k (λ m Z9 ha=>ha.b X t _ ok.fx d (aj (aj h)) ok.vis) λ v σ₁ k va s β m Q E at' g rb po=>by
  cases rb
  cases va
  ·exact k.el.ss X y Φ0 ok d (λ z=>hn (P5.mpr (.inr z))) (aE h) s β m Q E at' g po
  ·exact k.el.ss X x Φ0 ok d (λ z=>hn (P5.mpr (.inl z))) (aE (aj h)) s β m Q E at' g po).map λ Z9 Z9 Z9=>wpAny_If
set_option tactic.hygienic true in
theorem gj:St n .sk ρ σ (.ok (.next ρ) σ):=⟨λ Z9 Z9 Z9 Z9 Z9 Z9 h=>ff h,λ X b Φ0 ok d hn h s β m Q E a g po=>ru (S6.mp h) (wpAny_execs_nil (po s β m a .rfl'))⟩
set_option tactic.hygienic true in
noncomputable def Nw (o:cO)(k:am→Prop)(d:Prop):Prop:=match o with
 | .next ρ=>k ρ
 | .ret _=>d
set_option tactic.hygienic true in
theorem dD {a b:IS}(k:dc (St n a ρ σ) (λ o σ₁ r=>Nw o (λ ρ'=>St n b ρ' σ₁ r) (r=.ok o σ₁)) r):St n (.sq a b) ρ σ r:=⟨λ Z9 Z9 Z9 Z9 Z9 Z9 h=>ff h,λ X l Φ0 ok d hn h=>by
 cases l with
 | nil=>exact ff h
 | cons st l =>
  refine JS.map (W:=λ Q E s=>wpAny X.M X.A (exec st X.env) (λ f s'=>match f with | .next=>wpAny X.M X.A (execs l X.env) Q E s' | f=>Q f s') E s) (λ s β m Q E at' g po=>?_) λ Z9 Z9 Z9 q=>wpAny_execs_cons (wpAny_mono q (λ f s' q=>by cases f<;>exact q) λ Z9 Z9 e=>e)
  rcases k with ⟨o,σ₁,k1,k2⟩ | ⟨c,x,σ₁,k1,rfl⟩
  ·refine k1.s X st Φ0 ok d (λ z=>hn (P5.mpr (.inl z))) (aj h) s β m _ E at' g ?_
   cases o with
   | next ρ'=>exact λ s' β' m' a' l'=>(show St n b ρ' σ₁ r from k2).ss X l Φ0 ok d (λ z=>hn (P5.mpr (.inr z))) (aE h) s' β' m' Q E a' trivial (po.le l')
   | ret v=>exact (show bZ X Φ0 β Q E (.ok (.ret v) σ₁) from ri (show r=_ from k2) po)
  ·exact k1.s X st Φ0 ok d (λ z=>hn (P5.mpr (.inl z))) (aj h) s β m _ E at' g po⟩
end
end
noncomputable section
theorem Ha (ks:List Nat):∀ {ρ:am} {i:Nat} {p:PV},cT (dg ks ρ) i=some p→cT ρ i=some p:=by
 induction ks with
 | nil=>exact λ h=>h
 | cons k ks ih =>
  intro ρ i p h
  have h:=ih (ρ:=ρ.set k none) h
  unfold cT at h ⊢
  by_cases e:k=i
  ·subst e
   rw [z3e,if_pos rfl] at h
   split at h<;>exact b2 h
  ·rwa [z0q e] at h
section
variable {X:Cx} {ρ:am} {Φ0:Ow} {s:Shared} {β:Fz} {σ:aa} {k:Nat}
theorem fP.kill {m:Str→Option Value}{P:Str→Bool}{ks:List Nat}(h:fP X.S β m (c8 X ρ P)):fP X.S β m (c8 X (dg ks ρ) P):=λ q w=>(fB w).elim λ i e=>h q (ii e.1 (Ha ks e.2.1) e.2.2)
theorem At.kill (ks:List Nat)(a:At X s β σ (bM X ρ k++Φ0)):At X s β σ (bM X (dg ks ρ) β.μ.length++Φ0) :=
 ⟨a.1,lW a (Heap.ExtBut.refl X.env.locals s.heap) (.inl rfl) ((kv a).mp λ o w=>w.imp λ m w=>⟨w.1,w.2.kill⟩) λ c m=>(gK a m).mp λ o w=>w.imp λ v w=>⟨w.1,w.2.kill⟩⟩
theorem bZ.back {β':Fz}{Q E}{c:List Nat}{m:Int}{ea d:Addr}{md:Md}(ok:re X Φ0)(po:bZ X Φ0 β Q E (.exc c m σ))(hm:Md.at X.env.locals md)(a:At X s β' σ (qD X.A.handled ea d md++(bM X ρ k++Φ0)))(l:Le β β')(x:vK d c m β'.B):notedBy X.M X.A X.env (cameBackBy X.M X.A X.env E) (.ref ea) s :=
 ok.top.elim λ l' w=>EG ok.fx.frames w.1 ok.fr ok.vis.stk hm a λ s' T a=>po ea d s' (.held T X.env.locals) β' ρ k rfl a l x
end
section
variable {n:Nat} {ρ:am} {σ:aa} {r:aY cO}
@[elab_as_elim] theorem AC {motive:Stmt→Prop}(st:Stmt){k}(h:AD st k=true)(f:∀ c b p,k c b=true→motive (.While c b [] p)):motive st:=by
 revert h
 cases st with
 | While c b l p=>cases l with
  | nil=>exact f _ _ _
  | cons=>exact λ (h:false=true)=>ff h
 | _=>exact λ (h:false=true)=>ff h
@[elab_as_elim] theorem GZ {motive:Stmt→Prop}(st:Stmt){k}(h:Js st k=true)(f:∀ t i b p,k t i b=true→motive (.For t i b [] p)):motive st:=by
 revert h
 cases st with
 | For t i b l p=>cases l with
  | nil=>exact f _ _ _ _
  | cons=>exact λ (h:false=true)=>ff h
 | _=>exact λ (h:false=true)=>ff h
theorem bZ.cast {X:Cx}{Φ0:Ow}{β β':Fz}{Q E}{r o:aY cO}(po:bZ X Φ0 β Q E r)(l:Le β β')(h:r=o):bZ X Φ0 β' Q E o:=ri h (po.le l)
inductive WI (X:Cx) (Φ0:Ow) (β:Fz) (T:am→aa→aY cO→Prop) (r:aY cO) (s:Shared):Prop
 | mk (β':Fz) (m:Nat) (ρ':am) (σ':aa) (a:At X s β' σ' (bM X ρ' m++Φ0)) (l:Le β β') (w:T ρ' σ' r)
set_option tactic.hygienic true in
theorem CP {c:IE}{b:IS}{kill:List Nat}(k:∃ k,EO (Ev n c) (St n b) kill k ρ σ r):St n (.whil c b kill) ρ σ r:=.ofS λ X st Φ0 ok d hn' h=>AC st h λ t x p h s β m Q E a g po=>k.elim λ k hk=>by
 refine wpAny_While (codeAny_whileLoop (λ k=>WI X Φ0 β (EO (Ev n c) (St n b) kill k) r) (λ k s₁ hI=>?_) k ⟨β,m,ρ,σ,a,.rfl',hk⟩)
 cases hI with | mk β₁ m₁ ρ₁ σ₁ a₁ l₁ w =>
 cases k with
 | zero=>exact (show False from w).elim
 | succ k =>
  refine w.elim (λ w=>w.elim λ σ₂ w=>w.1.b X t _ ok.fx d (aj h) ok.vis s₁ β₁ _ _ a₁ trivial λ v s₂ β₂ a₂ l₂ rb=>?_) λ w=>w.elim λ σ₂ w=>w.elim λ o w=>w.1.b X t _ ok.fx d (aj h) ok.vis s₁ β₁ _ _ a₁ trivial λ v s₂ β₂ a₂ l₂ rb=>?_
  ·exact ri (bI rb:false=v) (wpAny_execs_nil (po.cast l₁ w.2 s₂ β₂ m₁ a₂ l₂))
  ·refine ri (bI rb:true=v) (w.2.1.ss X x Φ0 ok d hn' (aE h) s₂ β₂ m₁ _ _ a₂ trivial ?_)
   have hn:=w.2.2
   revert hn
   cases o with
   | exc cc mm σ₃=>exact λ hn ea dd s₃ md β₃ ρ' k' hm a₃ l₃ x=>bZ.back ok (po.cast (l₁.trans l₂) hn) hm a₃ l₃ x
   | ok o σ₃ =>
    cases o with
    | next ρ₃=>exact λ hn s₃ β₃ m₃ a₃ l₃=>⟨k,U0 k,β₃,_,_,_,a₃.kill kill,(l₁.trans l₂).trans l₃,hn⟩
    | ret v=>exact λ hn=>po.cast (l₁.trans l₂) hn
section
variable {prog:Program} {w:World} {A:Around} {s:Shared} {R:Result→Shared→Prop}
theorem BE {target:Expr}{it:Value}{body:List Stmt}{env:Env}(I:Nat→Shared→Prop)(N:Nat)
  (turn:∀ i s E,E=notedBy (model prog w) A env (λ e s'=>R (.error e) s')→I i s→wpAny (model prog w) A (pyNext it) (λ r s₁=>r.elim (R (.ok .next) s₁) λ v =>
   wpAny (model prog w) A (letOwnedTupleGo target it v) (λ Z9 s₂=>wpAny (model prog w) A (assign target env v) (λ Z9 s₃=>wpAny (model prog w) A (execs body env) (λ f s₄=>match f with
     | .next | .cont=>i<N∧I (i+1) s₄
     | .brk=>R (.ok .next) s₄
     | .ret v=>R (.ok (.ret v)) s₄) E s₃) E s₂) E s₁) E s)
  (h:I 0 s):codeAny (model prog w) A (.forLoop target it body [] env) R s:=by
 refine codeAny_loop' rfl (λ k s=>∃ i,k=N-i∧I i s) (λ n s hI=>?_) N ⟨0,rfl,h⟩
 obtain ⟨i,e,hI⟩:=hI
 have dn:∀ {s'},i<N∧I (i+1) s'→∃ m,m<n∧∃ i,m=N-i∧I i s':=λ q=>⟨_,ru e (z2m q.1 (U0 i)),i+1,rfl,q.2⟩
 refine wpAny_noted ?_
 simp only [forTurn]
 refine wpAny_bind (wpAny_standAt (wpAny_bind (wpAny_onRaise (wpAny_mono (turn i s _ rfl hI) (λ r s₁ h₁=>?_) λ Z9 Z9 h'=>wpAny_standAt h'))))
 cases r with
 | none=>exact wpAny_pure (.inr ⟨rfl,codeAny_block (wpAny_execs_nil h₁)⟩)
 | some v =>
  refine wpAny_bind (wpAny_mono h₁ (λ Z9 s₂ h₂=>wpAny_bind (wpAny_mono h₂ (λ Z9 s₃ h₃=>wpAny_bind (wpAny_mono h₃ (λ f s₄ h₄=>?_) λ Z9 Z9 h'=>h')) λ Z9 Z9 h'=>h')) λ Z9 Z9 h'=>h')
  cases f with
  | next=>exact wpAny_pure (.inl ⟨rfl,dn h₄⟩)
  | cont=>exact wpAny_pure (.inl ⟨rfl,dn h₄⟩)
  | _=>exact wpAny_pure h₄
end
section
variable {prog:Program} {w:World} {A:Around} {E:Value→Shared→Prop} {s:Shared} {Ia:Addr} {v:Value} {Q:Unit→Shared→Prop} {o:Obj} {n:String} {vs:Array Value}
theorem Dh (e:s.heap.get? Ia=some o)(c:o.cls=.type n)(d:o.data=.fields vs)
  (hn:(["enumerate","zip","dict_itemiterator","dict_reverseitemiterator","odict_iterator","itertools.zip_longest","itertools.pairwise"].contains n)=false) (h:Q () s):wpAny (model prog w) A (letOwnedTupleGo (.Tuple [] default default) (.ref Ia) v) Q E s:=by
 cases v with
 | ref a =>
  refine wpAny_bind (m:=load Ia) (wpAny_load e ?_)
  refine ru c (ru d ?_)
  exact Fs (λ z=>ff (hn.symm.trans (aj z))) (wpAny_pure h)
 | _=>exact wpAny_pure h
theorem hV {t:Expr}(e:s.heap.get? Ia=some o)(c:o.cls=.type n)(d:o.data=.fields vs)
  (hn:(["enumerate","zip","dict_itemiterator","dict_reverseitemiterator","odict_iterator","itertools.zip_longest","itertools.pairwise"].contains n)=false) (h:Q () s):wpAny (model prog w) A (letOwnedTupleGo t (.ref Ia) v) Q E s:=by
 have k:=Dh (prog:=prog) (w:=w) (A:=A) (E:=E) (v:=v) e c d hn h
 cases t<;>first | exact k | exact wpAny_pure h
end
theorem Ae {X:Cx}{s:Shared}{β:Fz}{Φ:Ow}{p:PV}{ia:Addr}{k i:Nat}{t:Expr}{v:Value}{Q:Unit→Shared→Prop}{E}(a:At X s β σ (⟨ia,k,.iter p i⟩::Φ))(h:Q () s):wpAny X.M X.A (letOwnedTupleGo t (.ref ia) v) Q E s:=a.head.elim λ o w=>w.2.elim λ u z=>by
 have it:=z.2
 cases it with
 | str y n c hn d=>exact hV w.1 c d (hn.elim (λ e=>ru e rfl) λ e=>ru e rfl) h
 | tup vs c d=>exact hV w.1 c d rfl h
 | lst vs c d=>exact hV w.1 c d rfl h
 | dctI ks vs a ep e h' c d=>exact hV w.1 c d rfl h
 | dctS ks vs a ep e h' c d=>exact hV w.1 c d rfl h
 | rng n hi e=>exact hV (n:="range_iterator") w.1 (congrArg Obj.cls e) (congrArg Obj.data e) rfl h
theorem At.mid {X:Cx}{s:Shared}{β:Fz}{Ψ Φ0:Ow}{q:En}(a:At X s β σ (q::(Ψ++Φ0))):At X s β σ (Ψ++q::Φ0):=a.perm z0g
theorem At.unmid {X:Cx}{s:Shared}{β:Fz}{Ψ Φ0:Ow}{q:En}(a:At X s β σ (Ψ++q::Φ0)):At X s β σ (q::(Ψ++Φ0)):=a.perm z0g.symm
theorem re.cons {X:Cx}{Φ0:Ow}(ok:re X Φ0)(q:En):re X (q::Φ0):={ ok with top:=ok.top.imp λ l' w=>⟨w.1,λ e m=>(w.2 e m).imp λ Z9 z=>z.imp λ Z9 z=>z.imp λ Z9 z=>⟨z.1,N9 _ z.2.1,z.2.2⟩⟩ }
theorem r4 {e:Expr}(h:m5 e=true)(env:Env)(x:Value):foldedSetIterable e env x=pure x:=by revert h;cases e<;>first | exact λ Z9=>rfl | exact λ (h:false=true)=>ff h
theorem At.unq {X:Cx}{s:Shared}{β:Fz}{Ψ Φ0:Ow}{q:En}(a:At X s β σ (Ψ++q::Φ0)):At X s β σ (Ψ++Φ0):=⟨a.1,a.unmid.2.drop (Ψ:=[q])⟩
theorem pt {α:Type}{l:List α}{i:Nat}{x:α}(h:l[i]?=some x):l.drop i=x::l.drop (i+1):=(O6.mp h).elim λ hl e=>ri e (z1r hl)
inductive FI (X:Cx) (Φ0:Ow) (β:Fz) (T:List PV→am→aa→aY cO→Prop) (r:aY cO) (x:PV) (xs:List PV) (ia:Addr) (i:Nat) (s:Shared):Prop
 | mk (β':Fz) (kk m:Nat) (ρ':am) (σ':aa) (a:At X s β' σ' (bM X ρ' m++⟨ia,kk,.iter x i⟩::Φ0)) (l:Le β β') (w:T (xs.drop i) ρ' σ' r)
set_option tactic.hygienic true in
theorem vU {single:Bool}{t:List Nat}{it:IE}{b:IS}{kill:List Nat}(k:dc (Ev n it ρ σ) (λ x σ₁ r=>∃ xs,gm x=some xs∧cE (St n b) (b3 single t) kill xs (dg kill ρ) σ₁ r) r):St n (.forr single t it b kill) ρ σ r:=.ofS λ X st Φ0 ok d hn' h=>GZ st h λ tg itx bd p h=>by
 refine (JS.seqV (W:=λ va Q E s=>wpAny X.M X.A (pyIter va) (λ iv s₂=>codeAny X.M X.A (.forLoop tg iv bd [] X.env) (λ r s'=>match r with | .ok f=>Q f s' | .error e=>cameBackBy X.M X.A X.env E e s') s₂) E s) k (λ m Z9 ha=>ha.v X itx _ ok.fx d (aE (aj h)) ok.vis) λ x σ₁ k va s β m Q E a g po=>?_).map λ Z9 Z9 Z9 q=>wpAny_For q (r4 (aE (aj (aj h))) X.env)
 refine k.elim λ xs k=>sI a g.1 k.1 λ ia kk s₂ a₂=>BE (FI X Φ0 β (cE (St n b) (b3 single t) kill) r x xs ia) xs.length (λ i s₃ E' he hI=>?_) ⟨β,_,_,_,_,a₂.mid.kill kill,.rfl',k.2⟩
 cases hI with | mk β₃ kk m₃ ρ₃ σ₃ a₃ l₃ w =>
 cases hi:xs[i]? with
 | none =>
  rw [z0j (Z6.mp hi)] at w
  exact Bg ok.fx a₃.unmid k.1 hi λ s' a'=>po.cast l₃ w s' β₃ m₃ a' .rfl'
 | some v =>
  rw [pt hi] at w
  refine w.elim λ ρ₄ w=>w.elim λ o w=>wG a₃.unmid k.1 hi λ v' kk s₄ a₄ rv=>Ae a₄ (pE (ok.cons _) a₄.mid (aj (aj (aj h))) w.1 rv λ s₅ β₅ m₅ a₅ l₅=>w.2.1.ss X bd _ (ok.cons _) d hn' (aE h) s₅ β₅ m₅ _ _ a₅ trivial ?_)
  have hn:=w.2.2
  revert hn
  cases o with
  | exc cc mm σ₆=>exact λ hn ea dd s₆ md β₆ ρ' k' hm a₆ l₆ x=>he▸bZ.back ok (po.cast (l₃.trans l₅) hn) hm (ri (N6 ..) (At.unq (Ψ:=qD X.A.handled ea dd md++bM X ρ' k') (by refine ru (N6 ..) ?_;exact a₆))) l₆ x
  | ok o σ₆ =>
   cases o with
   | next ρ₆=>exact λ hn s₆ β₆ m₆ a₆ l₆=>⟨(O6.mp hi).1,β₆,kk,_,_,_,a₆.kill kill,(l₃.trans l₅).trans l₆,hn⟩
   | ret p=>exact λ hn v s₆ β₆ ρ' k' a₆ l₆ rp=>po.cast (l₃.trans l₅) hn v s₆ β₆ ρ' k' a₆.unq l₆ rp
end
end
end Mine
end
section
open PySem PySem.W PyProof.Rows PySem.Calls Builtin Builtin.ObjectAttr
namespace Mine
noncomputable section
noncomputable def dC (es:List DictEntry):Prop:=∀ e∈es,∃ nm t,e.key=.str nm t
theorem f7 {α:Type _}{P:α→Prop}{c:Prop}[Decidable c]{a b:α}(h1:c→P a)(h2:¬ c→P b):P (if c then a else b):=(Decidable.em c).elim (λ h=>ru (if_pos h) (h1 h)) λ h=>ru (if_neg h) (h2 h)
theorem cP {y:Str}{e:DictEntry}{r:List DictEntry}{nm:Str}{t:Tok}(h:e.key=.str nm t):getL y (e::r)=if nm=y then some (some e.val) else getL y r:=by
 cases e with | mk a k u =>
 cases (h:k=.str nm t)
 show (match (match nm==y with | true=>some (⟨a,.str nm t,u⟩:DictEntry) | false=>r.find? (·.key.isStr y)) with | some e=>some (some e.val) | none=>if (false||r.any (·.refKey)) then none else some none)=_
 cases q:nm==y with
 | true=>exact (if_pos (beq_iff_eq.mp q)).symm
 | false=>exact (if_neg (beq_eq_false_iff_ne.mp q)).symm
theorem o0 {x:Str}{hs:Int}{k v:Value}{e:DictEntry}{r:List DictEntry}{nm:Str}{t:Tok}(h:e.key=.str nm t):putL x hs k v (e::r)=if nm=x then ⟨e.hash,e.key,v⟩::r else e::putL x hs k v r:=by
 cases e with | mk a k' u =>
 cases (h:k'=.str nm t)
 show (if (nm==x)=true then _ else _)=_
 cases q:nm==x with
 | true=>exact (if_pos (beq_iff_eq.mp q)).symm
 | false=>exact (if_neg (beq_eq_false_iff_ne.mp q)).symm
theorem yK {y:Str}{es:List DictEntry}:dC es→(getL y es).isSome=true:=by
 induction es with
 | nil=>exact λ Z9=>rfl
 | cons e r ih=>exact λ h=>(h e (.head _)).elim λ nm w=>w.elim λ t hk=>ru (cP hk) (f7 (P:=λ o=>Option.isSome o=true) (λ Z9=>rfl) λ Z9=>ih λ x m=>h x (.tail _ m))
theorem rW {x:Str}{hs:Int}{t:Tok}{v:Value}{es:List DictEntry}:dC es→dC (putL x hs (.str x t) v es)∧(putL x hs (.str x t) v es).length≤es.length+1:=by
 induction es with
 | nil=>exact λ h=>⟨N7.mpr ⟨⟨x,t,rfl⟩,h⟩,N8 _⟩
 | cons e r ih=>exact λ h=>(h e (.head _)).elim λ nm w=>w.elim λ t' hk=>ru (o0 hk) (f7 (P:=λ l=>dC l∧l.length≤r.length+2) (λ Z9=>⟨N7.mpr ⟨⟨nm,t',hk⟩,λ x m=>h x (.tail _ m)⟩,U4 _⟩) λ Z9=>(ih λ x m=>h x (.tail _ m)).imp (λ q=>N7.mpr ⟨⟨nm,t',hk⟩,q⟩) P3)
theorem jN {x y:Str}{hs:Int}{t:Tok}{v:Value}{es:List DictEntry}:dC es→getL y (putL x hs (.str x t) v es)=if x=y then some (some v) else getL y es:=by
 induction es with
 | nil=>exact λ h=>cP rfl
 | cons e r ih=>exact λ h=>(h e (.head _)).elim λ nm w=>w.elim λ t' hk=>ru (o0 hk) (f7 (P:=λ l=>getL y l=if x=y then some (some v) else getL y (e::r))
   (λ q=>(cP (e:=⟨e.hash,e.key,v⟩) hk).trans (ri q (f7 (P:=λ o=>o=if nm=y then some (some v) else getL y (e::r)) (λ z=>(if_pos z).symm) λ z=>((cP hk).trans (if_neg z)).symm.trans (if_neg z).symm)))
   λ q=>(cP hk).trans (f7 (P:=λ o=>o=if x=y then some (some v) else getL y (e::r)) (λ z=>((cP hk).trans (if_pos z)).symm.trans (if_neg λ z'=>q (z.trans z'.symm)).symm) λ z=>(ih λ x m=>h x (.tail _ m)).trans (congrArg (λ o=>if x=y then some (some v) else o) ((cP hk).trans (if_neg z)).symm)))
theorem vB {kindOf:Str→Option NameKind}{x:Str}{bs:List (Str×Value)}:∀ {m:Str→Option Value},x∉bs.map (·.1)→bindL kindOf bs m x=m x:=by
 induction bs with
 | nil=>exact λ Z9=>rfl
 | cons p r ih=>cases p with | mk n v=>exact λ {m} h=>(ih λ q=>h (.tail _ q)).trans (f7 (P:=λ f:Str→Option Value=>f x=m x) (λ Z9=>if_neg λ e:x=n=>h (ru e (show n∈n::r.map (·.1) from .head _))) λ Z9=>rfl)
theorem iB {kindOf:Str→Option NameKind}{x:Str}{v:Value}{ps:List Str}:∀ {vals:List Value} {i:Nat} (m:Str→Option Value),ps.Nodup→ps[i]?=some x→vals[i]?=some v→kindOf x=some .local→bindL kindOf (ps.zip vals) m x=some v:=by
 induction ps with
 | nil=>exact λ Z9 Z9 h=>b2 h
 | cons p ps ih =>
  intro vals i
  cases vals with
  | nil=>exact λ Z9 Z9 Z9 h=>b2 h
  | cons w vals=>cases i with
   | zero =>
    intro m nd h1 h2 hk
    cases h1
    cases h2
    show bindL kindOf (ps.zip vals) _ x=_
    exact (vB λ q=>(Q9.mp nd).1 ((S0.mp q).elim λ z mz=>(show z.1=x from mz.2)▸(z1l mz.1).1)).trans ((congrFun (if_pos hk) x).trans (if_pos rfl))
   | succ i=>exact λ m nd h1 h2 hk=>ih _ (Q9.mp nd).2 h1 h2 hk
section
variable {prog:Program} {w:World} {A:Around} {E:Value→Shared→Prop} {s:Shared} {K:Frag} {C x:Addr} {ox oC:Obj} {name:Str} {tk:Tok} {v:Value} {R:Result→Shared→Prop}
theorem tq (X:K.In s.heap)(hC:K.lookup C=some oC)(ho:fw oC C)(hx:s.heap.get? x=some ox)(hc:ox.cls=.ref C)(ht:takerIn K C name=some none)
  (h:∀ b,PySem.wpAny (model prog w) A.in1 (storeInOwnDict (.ref x) (.ref C) (.str name tk) name v b)
   (λ gA s'=>match gA with | .done f=>R (.ok f) s' | .again c'=>c'.quiet=true∧PySem.codeAny (model prog w) A c' R s') (λ e s'=>R (.error e) s') s) :
  PySem.codeAny (model prog w) A (.call (.builtin "object.__setattr__") ⟨[.ref x,.str name tk,v],[]⟩) R s:=by
 have SF:=PySem.F.store_object
 cases ho with | mk nm q N bs tl sn sub ab col dd k0 k1 k2 k3 k5 e c1 c2 c3 c4 c5 hp =>
 subst e
 have hcd:clsIn K C=some { name:=nm,bases:=bs,mro:=.ref C::tl,ns:=N,qualname:=q,hasDict:=true,slotNames:=sn,subclasses:=sub,abstract:=ab,collection:=col,hasDel:=false }:=by
  unfold clsIn;exact ru hC rfl
 have ty:Looks (model prog w) s.heap (typeOf (.ref x)) (.ref C):=ri hc ((Looks.ld hx).andThen .now)
 refine PySem.codeAny_call_builtin SF.slot.plain SF.entry (@check_slot (model prog w) _ _ s "object.__setattr__" "object" "__setattr__" (.ref x) [.str name tk,v] [] _ SF.kind SF.split (ty.andThen (looks_mroIn X (by unfold mroIn;exact ru hcd (ru (z3g ..) (ru (if_neg (by simp)) (ru W8 (ru c3 (ru (Z4 ..) rfl))))))):Looks (model prog w) s.heap (isInstance (.ref x) (.type "object")) true) (SF.args (.ref x) (.str name tk) v) ?_)
 obtain ⟨attr,ha,hr⟩:=O5.mp ht
 have L3:Looks (model prog w) s.heap (storeTaker? attr) none:=by
  cases attr with
  | none=>exact .now
  | some a =>
   obtain ⟨b,hb,hr⟩:=O9.mp hr
   refine (looks_takesIn X hb).andThen ?_
   cases b<;>first | exact .now | cases hr
 refine ru (osa_eq ..) (ru (refuse_eq ..) ?_)
 refine PySem.wpAny_bind (PySem.wpAny_bind (ty.here (PySem.wpAny_bind (((looks_clsIn X hcd).andThen .now:Looks (model prog w) s.heap (mroOf (.ref C)) (.ref C::tl)).here ?_))))
 refine ru (refuseLoop_ref ..) (ru (hp ..) ?_)
 refine PySem.wpAny_pure (PySem.wpAny_bind (ty.here (PySem.wpAny_bind ((looks_findIn X ha).here (PySem.wpAny_bind (L3.here ?_))))))
 exact h _
theorem rC {d:Addr}{es:List DictEntry}{n:Nat}{Q:Fin→Shared→Prop}(D:s.heap.get? d=some (dictOf es n))(he:dC es)(hz:es.length<1000)
  (h:∀ h',(∀ b,b≠d→h'.get? b=s.heap.get? b)→h'.get? d=some (dictOf (putL name (PyData.keyHash w.params name) (.str name s.toks) v es) (putN name es n))→Q (.done (.ret .none)) { s with heap:=h',toks:=s.toks+1 }) :
  PySem.wpAny (model prog w) A (storeInDict d (.str name tk) name v) Q E s:=by
 refine PySem.wpAny_bind (PySem.wpAny_pure (PySem.wpAny_bind ?_))
 refine PySem.wpAny_bind (PySem.wpAny_bind (PySem.wpAny_askSetting (PySem.wpAny_pure (PySem.wpAny_bind (PySem.wpAny_mkText (PySem.wpAny_bind (PySem.wpAny_loadPart D ?_)))))))
 have c:(!es.toArray.any (·.key.isStr name)&&es.toArray.any (·.refKey))=false:=by
  have:es.toArray.any (·.refKey)=false:=by
   (refine ri Array.any_toList ?_;rewrite [List.any_eq_false])
   intro e me
   refine (he e me).elim λ nm w1z=>w1z.elim λ t hk=>?_
   unfold DictEntry.refKey;refine ru hk ?_;exact S8
  exact ru this (ru (z1s ..) rfl)
 dsimp only
 refine ru (aRefKeyMayBeTheName_at ..) (ru c ?_)
 have D':(s.heap.update d (Obj.putName name (PyData.keyHash w.params name) (.str name s.toks) v)).get? d=some (dictOf (putL name (PyData.keyHash w.params name) (.str name s.toks) v es) (putN name es n)):=by
  exact ru (Heap.get?_update_self _ D (by rw [putName_dict];rfl)) (ru (putName_dict ..) rfl)
 refine PySem.wpAny_updatePart D ?_
 refine PySem.wpAny_bind (PySem.wpAny_lookBehind D' (pastItsLine_dict (by refine ru P2 (ru sizeLine_eq ?_);have:=(rW (x:=name) (hs:=PyData.keyHash w.params name) (t:=s.toks) (v:=v) he).2;(first | lia | omega))) ?_)
 exact PySem.wpAny_pure (h _ (λ b hb=>Heap.get?_update_ne _ _ _ _ hb) D')
theorem u5 {fs:Array Value}{sl:Array (Option Value)}{Q:Unit→Shared→Prop}(X:K.In s.heap)(hC:K.lookup C=some oC)(ho:fw oC C)(hs:findIn K (.ref C) "__setattr__"=some (some (.builtin "object.__setattr__")))(ht:takerIn K C name=some none)
  (hx:s.heap.get? x=some ⟨.ref C,none,.fields fs,sl⟩)
  (h:∀ h' d,s.heap.get? d=none→d≠x→(∀ b,b≠d→b≠x→h'.get? b=s.heap.get? b)→h'.get? x=some ⟨.ref C,some d,.fields fs,sl⟩→(∃ t,h'.get? d=some (dictOf [⟨PyData.keyHash w.params name,.str name t,v⟩] 1))→∀ t',Q () { s with heap:=h',toks:=t' }) :
  PySem.wpAny (model prog w) A (setAttr (.ref x) name v) Q E s:=by
 refine PySem.wpAny_bind (PySem.wpAny_mkText (PySem.wpAny_bind (PySem.wpAny_bind (PySem.wpAny_bind (((Looks.ld hx).andThen .now:Looks (model prog w) s.heap (typeOf (.ref x)) (.ref C)) _ _ _ _ (λ Z9 Z9 e=>e) (looks_findIn X hs _ _ _ _ (λ Z9 Z9 e=>e) (PySem.wpAny_holding ?_)))))))
 refine ru (PySem.F.store_object.slot.bind ..) ?_
 refine PySem.wpAny_bind (PySem.wpAny_pure (PySem.wpAny_bind (PySem.wpAny_call ?_)))
 refine tq (s:={ s with toks:=s.toks+1 }) X hC ho hx rfl ht λ b=>?_
 cases ho with | mk nm q N bs tl sn sub ab col dd k0 k1 k2 k3 k5 e c1 c2 c3 c4 c5 hp =>
 subst e
 have hcd:clsIn K C=some { name:=nm,bases:=bs,mro:=.ref C::tl,ns:=N,qualname:=q,hasDict:=true,slotNames:=sn,subclasses:=sub,abstract:=ab,collection:=col,hasDel:=false }:=by
  unfold clsIn;exact ru hC rfl
 refine PySem.wpAny_bind (PySem.wpAny_pure (PySem.wpAny_bind (PySem.wpAny_bind (PySem.wpAny_loadPart hx (PySem.wpAny_bind (Looks.here (s:={ s with toks:=s.toks+1 }) (looks_clsIn (h:=s.heap) X hcd) ?_))))))
 have hx₁:(s.heap.push emptyDict).get? x=some ⟨.ref C,none,.fields fs,sl⟩:=Heap.get?_push_of_some _ hx
 have hxs:x≠s.heap.objs.size:=V7 (Heap.lt_size hx)
 have gd:((s.heap.push emptyDict).update x λ o=>{ o with dict:=some s.heap.objs.size }).get? s.heap.objs.size=some (dictOf [] 0):=(Heap.get?_update_ne _ _ _ _ hxs.symm).trans (Heap.get?_push_at rfl rfl)
 have gx:((s.heap.push emptyDict).update x λ o=>{ o with dict:=some s.heap.objs.size }).get? x=some ⟨.ref C,some s.heap.objs.size,.fields fs,sl⟩:=Heap.get?_update_self _ hx₁ rfl
 refine PySem.wpAny_bind (PySem.wpAny_alloc' (PySem.wpAny_bind (PySem.wpAny_update' hx₁ (PySem.wpAny_pure ?_))))
 refine rC (s:={ s with heap:=(s.heap.push emptyDict).update x λ o=>{ o with dict:=some s.heap.objs.size },toks:=s.toks+1 }) (es:=[]) (n:=0) gd (λ e m=>absurd m (by simp)) (by decide) λ h' ho' hd'=>?_
 refine PySem.wpAny_pure (PySem.wpAny_pure (h h' s.heap.objs.size (Heap.get?_none_of_le (N8 _)) hxs.symm (λ b h1 h2=>?_) ((ho' x hxs).trans gx) ⟨_,hd'⟩ _))
 exact (ho' b h1).trans ((Heap.get?_update_ne _ _ _ _ h2).trans (Heap.get?_push_ne _ _ _ h1))
theorem u4 {fs:Array Value}{sl:Array (Option Value)}{d:Addr}{es:List DictEntry}{n:Nat}{Q:Unit→Shared→Prop}(X:K.In s.heap)(hC:K.lookup C=some oC)(ho:fw oC C)(hs:findIn K (.ref C) "__setattr__"=some (some (.builtin "object.__setattr__")))(ht:takerIn K C name=some none)
  (hx:s.heap.get? x=some ⟨.ref C,some d,.fields fs,sl⟩) (D:s.heap.get? d=some (dictOf es n)) (he:dC es) (hz:es.length<1000)
  (h:∀ h',(∀ b,b≠d→h'.get? b=s.heap.get? b)→(∃ t,h'.get? d=some (dictOf (putL name (PyData.keyHash w.params name) (.str name t) v es) (putN name es n)))→∀ t',Q () { s with heap:=h',toks:=t' }) :
  PySem.wpAny (model prog w) A (setAttr (.ref x) name v) Q E s:=by
 refine PySem.wpAny_bind (PySem.wpAny_mkText (PySem.wpAny_bind (PySem.wpAny_bind (PySem.wpAny_bind (((Looks.ld hx).andThen .now:Looks (model prog w) s.heap (typeOf (.ref x)) (.ref C)) _ _ _ _ (λ Z9 Z9 e=>e) (looks_findIn X hs _ _ _ _ (λ Z9 Z9 e=>e) (PySem.wpAny_holding ?_)))))))
 refine ru (PySem.F.store_object.slot.bind ..) ?_
 refine PySem.wpAny_bind (PySem.wpAny_pure (PySem.wpAny_bind (PySem.wpAny_call ?_)))
 refine tq (s:={ s with toks:=s.toks+1 }) X hC ho hx rfl ht λ b=>?_
 cases ho with | mk nm q N bs tl sn sub ab col dd k0 k1 k2 k3 k5 e c1 c2 c3 c4 c5 hp =>
 subst e
 have hcd:clsIn K C=some { name:=nm,bases:=bs,mro:=.ref C::tl,ns:=N,qualname:=q,hasDict:=true,slotNames:=sn,subclasses:=sub,abstract:=ab,collection:=col,hasDel:=false }:=by
  unfold clsIn;exact ru hC rfl
 refine PySem.wpAny_bind (PySem.wpAny_pure (PySem.wpAny_bind (PySem.wpAny_bind (PySem.wpAny_loadPart hx (PySem.wpAny_bind (Looks.here (s:={ s with toks:=s.toks+1 }) (looks_clsIn (h:=s.heap) X hcd) ?_))))))
 refine PySem.wpAny_pure (a:=some d) ?_
 refine rC (s:={ s with toks:=s.toks+1 }) (es:=es) (n:=n) D he hz λ h' ho' hd'=>?_
 exact PySem.wpAny_pure (PySem.wpAny_pure (h h' ho' ⟨_,hd'⟩ _))
noncomputable abbrev dQ (C t:Addr):Obj:={ cls:=.ref C,data:=.fields #[.ref t,.none,.none,.none,.bool false,.none] }
noncomputable abbrev dB (vs:List Value):Obj:={ cls:=.type "tuple",data:=.seq vs.toArray }
set_option maxHeartbeats 1000000 in
theorem Ec {rest:List Value}{h:Heap}{g:Array GenState}{d:Drawn}{t:Nat}{os:OsState}{R:Result→Shared→Prop}(hC:h.get? C=some oC)(ho:fw oC C)(hrest:rest.length≤1000)
  (hq:R (.ok (.ret (.ref (h.objs.size+1)))) ⟨(h.push (dB rest)).push (dQ C h.objs.size),g,d,t,os⟩) :
  PySem.codeAny (model prog w) A (.builtin "Exception.__new__" ⟨.ref C::rest,[]⟩) R ⟨h,g,d,t,os⟩:=by
 cases ho with | mk nm q N bs tl sn sub ab col dd k0 k1 k2 k3 k5 e c1 c2 c3 c4 c5 hp =>
 subst e
 have F:=PySem.F.excBase_Exception
 have hcA:(Value.ref C::tl).contains (.type "AttributeError")=false:=by refine ru W8 (ru c4 ?_);rfl
 have hcN:(Value.ref C::tl).contains (.type "NameError")=false:=by refine ru W8 (ru c5 ?_);rfl
 have hends:=F.ends
 have hrest':rest.length≤sizeLine:=by refine ru sizeLine_eq ?_;(first | lia | omega)
 refine PySem.codeAny_builtinAt F.entry ?_
 refine PySem.wpAt_bind ?_
 refine PySem.wpAt_bind (PySem.wpAt_stack λ p below=>PySem.wpAt_of_wpAny ?_)
 wp_walk
 refine PySem.wpAt_of_wpAny ?_
 refine ru F.owner ?_
 repeat (first | with_reducible refine PySem.wpAny_madeHere_exc F.canon hC ?_ | with_reducible refine PySem.wpAny_loadPart_at hC ?_ | (with_reducible refine PySem.wpAny_isSubtype_exc hC ?_;first | rw  [(by exact ru W8 (ru c1 (ru (Z4 ..) rfl)):(Value.ref C::tl).contains (.type "Exception")=true)] | rw  [hcA] | rw  [hcN]) | wp_step)
 show R _ _
 refine ru (Heap.size_push ..) ?_
 exact hq
set_option maxHeartbeats 4000000 in
theorem BK {va vb:Value}{fI:Addr}{h:Heap}{g:Array GenState}{d:Drawn}{t:Nat}{os:OsState}{R:Result→Shared→Prop}(X:K.In h)(hC:K.lookup C=some oC)(ho:fw oC C)
  (hi:findIn K (.ref C) "__init__"=some (some (.ref fI))) (hf:typeIn K (.ref fI)=some (.type "function")) (ck:peek K ⟨prog,w.params⟩ (checkBuiltinCall "Exception.__new__" ⟨[.ref C,va,vb],[]⟩)=some ())
  (hq:PySem.codeAny (model prog w) (A.under (.builtin "type.__call__" ⟨[.ref C,va,vb],[]⟩)) (.call (.ref fI) ⟨[.ref (h.objs.size+1),va,vb],[]⟩) (InitBack (h.objs.size+1) R) ⟨(h.push (dB [va,vb])).push (dQ C h.objs.size),g,d,t,os⟩) :
  PySem.codeAny (model prog w) A (.call (.ref C) ⟨[va,vb],[]⟩) R ⟨h,g,d,t,os⟩:=by
 have hC':=X _ _ hC
 have ho':=ho
 cases ho' with | mk nm q N bs tl sn sub ab col dd k0 k1 k2 k3 k5 e c1 c2 c3 c4 c5 hp =>
 subst e
 have f1:=tc_lookup
 have f2:=tc_bind (.ref C)
 have hT:(⟨h,g,d,t,os⟩:Shared).TypeIs (.ref C) "type":=⟨_,hC',rfl⟩
 refine PySem.codeAny_of_tree ?_
 show PySem.wpAny _ _ (callAny (.ref C) _) _ _ _
 repeat (any_goals (first | assumption | with_reducible refine PySem.wpAny_loadPart_at hC' ?_ | wp_step))
 refine ⟨rfl,?_⟩
 refine PySem.codeAny_call_builtin_at (Code.quiet_builtin _ (by decide +kernel)) entry_typeCall (PySem.wpAny_check_type_call_sub hC' ?_)
 repeat (first | with_reducible refine PySem.wpAny_loadPart_at hC' ?_ | with_reducible refine PySem.wpAny_madeBy_exc hC' ?_ | wp_step)
 have hcC:(Value.ref C::tl).contains (.ref C)=true:=by simp
 refine PySem.codeAny_call_builtin_code (Code.quiet_builtin _ PySem.F.excBase_Exception.quiet) ((Looks.of_peek X ck).here (Ec (rest:=[va,vb]) hC' ho (by show 2≤1000;decide) ?_))
 show PySem.wpAny (model prog w) (A.under (.builtin "type.__call__" ⟨[.ref C,va,vb],[]⟩)) _ _ _ _
 have k:∀ b o,h.get? b=some o→((h.push (dB [va,vb])).push (dQ C h.objs.size)).get? b=some o:=λ b o e=>Heap.get?_push_of_some _ (Heap.get?_push_of_some _ e)
 have hx:((h.push (dB [va,vb])).push (dQ C h.objs.size)).get? (h.objs.size+1)=some (dQ C h.objs.size):=by heap_get
 have t1:Looks (model prog w) ((h.push (dB [va,vb])).push (dQ C h.objs.size)) (typeOf (.ref (h.objs.size+1))) (.ref C):=(Looks.ld hx).andThen .now
 have hcd:clsIn K C=some { name:=nm,bases:=bs,mro:=.ref C::tl,ns:=N,qualname:=q,hasDict:=true,slotNames:=sn,subclasses:=sub,abstract:=ab,collection:=col,hasDel:=false }:=by
  unfold clsIn;exact ru hC rfl
 have X₁:K.In ((h.push (dB [va,vb])).push (dQ C h.objs.size)):=X.keeps k
 have s1:Looks (model prog w) ((h.push (dB [va,vb])).push (dQ C h.objs.size)) (isSubtype (.ref C) (.ref C)) true:=looks_mroIn X₁ (by unfold mroIn;exact ru hcd (ru (z3g ..) (ru (if_neg (by simp)) (ru hcC rfl))))
 have i1:=looks_findIn (M:=model prog w) X₁ hi
 have b1:=bind_fn (M:=model prog w) X₁ (.ref (h.objs.size+1)) hf
 refine PySem.wpAny_bind (m:=isInstance (.ref (h.objs.size+1)) (.ref C)) (PySem.wpAny_bind (t1.here (s1.here ?_)))
 refine Fs (c:=(!true)=true) (by decide) (PySem.wpAny_bind (PySem.wpAny_holding ?_))
 refine PySem.wpAny_bind (m:=specialOf (.ref (h.objs.size+1)) "__init__") (PySem.wpAny_bind (t1.here (i1.here ?_)))
 refine PySem.wpAny_holding (PySem.wpAny_bind (b1.here (PySem.wpAny_bind (PySem.wpAny_call ?_))))
 refine PySem.codeAny_mono hq λ r s' z=>?_
 rcases r with e | (v | _ | _ | _)<;>first | exact z | exact z.elim | skip
 obtain ⟨rfl,z⟩:=z
 exact PySem.wpAny_pure (PySem.wpAny_pure z)
end
section
variable {prog:Program} {w:World} {A:Around} {E:Value→Shared→Prop} {K:Frag} {C:Addr}
structure EP (h h':Heap) (C e d:Addr) (vc va:Value):Prop where
 keep:h.StaysIn h'
 newE:h.get? e=none
 newD:h.get? d=none
 ne:d≠e
 at_:∃ t,h'.get? e=some ⟨.ref C,some d,.fields #[.ref t,.none,.none,.none,.bool false,.none],#[]⟩
 own:∃ es n,h'.get? d=some (dictOf es n)∧getL "code" es=some (some vc)∧getL "at" es=some (some va)
@[elab_as_elim] theorem qi {motive:Stmt→Prop}(st:Stmt){k}(h:wq st k=true)(f:∀ a e p1 p2 p,k a e=true→motive (.Assign [.Attribute (.Name "self" p1) a p2] e p)):motive st :=
 nq st h λ t e p h=>jB (motive:=λ t=>motive (.Assign [t] e p)) t h λ o a p2 h=>cj (motive:=λ o=>motive (.Assign [.Attribute o a p2] e p)) o (aj h) λ x p1 hx=>ru (beq_iff_eq.mp hx:x=("self":Str)) (f a e p1 p2 p (aE h))
@[elab_as_elim] theorem Hy {motive:List Stmt→Prop}(l:List Stmt)(h:Hz l=true)(f:∀ p1 p2 p3 p4 q1 q2 q3 q4,motive [.Assign [.Attribute (.Name "self" p1) "code" p2] (.Name "code" p3) p4,.Assign [.Attribute (.Name "self" q1) "at" q2] (.Name "at" q3) q4]):motive l:=by
 cases l with
 | nil=>exact ff h
 | cons s l=>cases l with
  | nil=>exact ff h
  | cons t l=>cases l with
   | cons=>exact ff h
   | nil =>
    have h:=an h
    refine qi s h.1 λ a e p1 p2 p4 k=>qi t h.2 λ b e' q1 q2 q4 k'=>cj e (aE k) λ x p3 hx=>cj e' (aE k') λ y q3 hy=>?_
    have e1:a="code":=beq_iff_eq.mp (aj k)
    have e2:b="at":=beq_iff_eq.mp (aj k')
    have e3:x="code":=beq_iff_eq.mp hx
    have e4:y="at":=beq_iff_eq.mp hy
    subst e1 e2 e3 e4
    exact f p1 p2 p3 p4 q1 q2 q3 q4
theorem BJ {s:Shared}{vc va:Value}{Q:Value→Shared→Prop}{B:Heap}{oC:Obj}{fI:Addr}{fr:rf}(X:K.In s.heap)(hl:s.heap.NoLimit)(R:oq K ⟨prog,w.params⟩ B C oC fI fr)(kB:B.StaysIn s.heap)(hroom:A.depth+5<recursionLimit)
  (h:∀ h' e d t',EP s.heap h' C e d vc va→Q (.ref e) { s with heap:=h',toks:=t' }) :
  wpAny (model prog w) A (call (.ref C) [vc,va]) Q E s:=by
 obtain ⟨hh,gs,dr,t,os⟩:=s
 have F:=R.fn.keep kB
 refine wpAny_call (BK X R.get R.exc R.init R.ty (R.ck _ _) ?_)
 have k2:hh.StaysIn ((hh.push (dB [vc,va])).push (dQ C hh.objs.size)):=λ b o e=>Heap.get?_push_of_some _ (Heap.get?_push_of_some _ e)
 have hw:Code.weight (.builtin "type.__call__" ⟨[.ref C,vc,va],[]⟩)=1:=by kernel_rfl
 have hroom:(A.under (.builtin "type.__call__" ⟨[.ref C,vc,va],[]⟩)).depth<recursionLimit:=by
  show A.depth+Code.weight (.builtin "type.__call__" ⟨[.ref C,vc,va],[]⟩)<_
  refine ru hw ?_;(first | lia | omega)
 have hps:=R.ps
 have hloc:=R.loc
 rw [hps] at hloc
 refine codeAny_call_function (fd:=fr.fd) (body:=fr.body) hroom (k2 _ _ F.get) rfl F.co F.gen rfl (F.code.keeps k2) ?_
 refine ru (F.bind [.ref (hh.objs.size+1),vc,va] (by rw [hps];rfl)) (ru hps ?_)
 refine wpAny_pure ?_
 refine wpAny_newFunctionEnv_cells F.kind (λ y my=>.inl (hloc y.1 (z1l my).1)) λ env he s₁ hin=>?_
 obtain ⟨h₁,tk₁,rfl⟩:=hin.toInCall.same
 have k1:=hin.toInCall.keep
 refine ⟨(hl.keeps k2).keeps k1,codeAny_func ?_⟩
 have eL:env.locals=((hh.push (dB [vc,va])).push (dQ C hh.objs.size)).objs.size:=by refine ru he ?_;rfl
 have eK:∀ x,env.kindOf x=fr.scope.names.lookup x:=λ x=>by refine ru he ?_;rfl
 have sz:((hh.push (dB [vc,va])).push (dQ C hh.objs.size)).objs.size=hh.objs.size+2:=by exact ru (Heap.size_push ..) (ru (Heap.size_push ..) rfl)
 have kk:hh.StaysIn h₁:=λ b o e=>k1 _ _ (k2 _ _ e)
 have gx:h₁.get? (hh.objs.size+1)=some (dQ C hh.objs.size):=k1 _ _ (by heap_get)
 have ns:=hin.toInCall.ns
 have ck:env.scope.kind=.function:=by refine ru he ?_;exact F.kind
 have kd:∀ x∈[("self":Str),"code","at"],env.kindOf x=some .local:=λ x m=>(eK x).trans (hloc x m)
 have n1:=kd "self" (.head _)
 have n2:=kd "code" (.tail _ (.head _))
 have n3:=kd "at" (.tail _ (.tail _ (.head _)))
 have m1:=iB (kindOf:=env.kindOf) (ps:=[("self":Str),"code","at"]) (vals:=[.ref (hh.objs.size+1),vc,va]) (i:=0) (λ Z9=>none) (by decide) rfl rfl n1
 have m2:=iB (kindOf:=env.kindOf) (ps:=[("self":Str),"code","at"]) (vals:=[.ref (hh.objs.size+1),vc,va]) (i:=1) (λ Z9=>none) (by decide) rfl rfl n2
 have m3:=iB (kindOf:=env.kindOf) (ps:=[("self":Str),"code","at"]) (vals:=[.ref (hh.objs.size+1),vc,va]) (i:=2) (λ Z9=>none) (by decide) rfl rfl n3
 have Lx:hh.objs.size+1≠env.locals:=by refine ru eL (ru sz ?_);exact V7 (U0 _)
 refine Hy (motive:=λ l=>wpAny _ _ (execs l env) _ _ _) fr.body R.body λ p1 p2 p3 p4 q1 q2 q3 q4=>?_
 refine wpAny_execs_cons (plainObj_wpAny_Assign_Attribute (wpAny_Name (wpAny_loadName_local ck n2 ns m2 ?_) (by decide)) (by rfl))
 refine wpAny_Name (wpAny_loadName_local ck n1 ns m1 ?_) (by decide)
 refine u5 (X.keeps kk) R.get R.exc R.setattr R.tc gx λ h' d hd hdx hsame hx' hd' t'=>?_
 obtain ⟨tk,hd'⟩:=hd'
 have ns':h'.Ns env.locals (bindL env.kindOf ([("self":Str),"code","at"].zip [.ref (hh.objs.size+1),vc,va]) λ Z9=>none):=by
  refine ns.elim λ o w1z=>w1z.elim λ es w2z=>w2z.elim λ ep w3z=>w3z.elim λ e1 r=>?_
  refine ⟨o,es,ep,(hsame _ (λ q=>?_) (λ q=>Lx q.symm)).trans e1,r⟩
  rw [← q,e1] at hd;cases hd
 have kk':hh.StaysIn h':=λ b o e=>by
  refine (hsame b (λ q=>?_) (λ q=>?_)).trans (kk _ _ e)
  ·rw [← q,kk _ _ e] at hd;cases hd
  ·exact absurd (Heap.lt_size e) (by refine ru q ?_;exact W5.mpr (U4 _))
 refine wpAny_execs_cons (plainObj_wpAny_Assign_Attribute (wpAny_Name (wpAny_loadName_local ck n3 ns' m3 ?_) (by decide)) (by rfl))
 refine wpAny_Name (wpAny_loadName_local ck n1 ns' m1 ?_) (by decide)
 have hse:dC [⟨PyData.keyHash w.params "code",.str "code" tk,vc⟩]:=λ e m=>by refine ru (P7.mp m) ?_;exact ⟨_,_,rfl⟩
 refine u4 (X.keeps kk') R.get R.exc R.setattr R.ta hx' hd' hse (by simp) λ h'' hsame' hd'' t''=>?_
 obtain ⟨tk',hd''⟩:=hd''
 refine wpAny_execs_nil ?_
 show InitBack _ _ (.ok (.ret .none)) _
 refine ⟨rfl,?_⟩
 refine h h'' (hh.objs.size+1) d t'' ⟨λ b o e=>?_,Heap.get?_none_of_le (U4 _),?_,hdx,⟨_,(hsame' _ hdx.symm).trans hx'⟩,_,_,hd'',?_,?_⟩
 ·refine (hsame' b λ q=>?_).trans (kk' _ _ e)
  rw [← q,kk _ _ e] at hd;cases hd
 ·exact LT kk hd
 ·exact ru (jN hse) (ru (if_neg (by decide)) (ru (cP rfl) (ru (if_pos (by decide)) rfl)))
 ·exact ru (jN hse) (ru (if_pos (by decide)) rfl)
inductive Ct (A:Around) (E:Value→Shared→Prop) (C:Addr) (oC:Obj) (v:Value) (s:Shared):Prop
 | mk (e d ta:Addr) (hv:v=.ref e) (hC:s.heap.get? C=some oC) (he:s.heap.get? e=some ⟨.ref C,some d,.fields #[.ref ta,.none,.none,.none,.bool false,.none],#[]⟩) (hok:lp s.heap A.handled) (hne:A.handled≠some (.ref e))
   (hE:∀ h' vs',Heap.SameBut e s.heap h'→h'.get? e=some ⟨.ref C,some d,.fields vs',#[]⟩→2<vs'.size→vs'[1]?=some .none→(A.handled=none→vs'[2]?=some .none)→E (.ref e) { s with heap:=h' })
set_option maxHeartbeats 1000000 in
theorem ut {s:Shared}{env:Env}{x:Sem Value}{oC:Obj}(ho:fw oC C){Q:Flow→Shared→Prop}
  (h:wpAny (model prog w) A x (Ct A E C oC) E s) :
  wpAny (model prog w) A (raiseStmt env (some x) none) Q E s:=by
 cases ho with | mk nm q N bs tl sn sub ab col dd k0 k1 k2 k3 k5 e' c1 c2 c3 c4 c5 hp' =>
 subst e'
 have hcB:(Value.ref C::tl).contains (.type "BaseException")=true:=by exact ru W8 (ru c2 (ru (Z4 ..) rfl))
 unfold raiseStmt
 refine wpAny_bind (wpAny_mono h (λ v s₁ h₁=>?_) λ Z9 Z9 x=>x)
 cases h₁ with | mk e d ta hv hC he hok hne hE =>
 subst hv
 obtain ⟨hp,g,dr,tk,os⟩:=s₁
 repeat (first | with_reducible refine PySem.wpAny_loadPart_at he ?_ | with_reducible refine PySem.wpAny_loadPart_at hC ?_ | (with_reducible refine PySem.wpAny_isSubtype_exc hC ?_;refine ru hcB ?_) | wp_step)
 exact oY (E:=E) (s:=⟨hp,g,dr,tk,os⟩) he rfl (by show 2<6;decide) hok hne λ h' vs' sb g1 g6 g7 g8=>hE h' vs' sb g1 (by refine ru g6 ?_;show 2<6;decide) (g7 1 (by decide)) λ q=>by refine ru (g8 q) ?_;rfl
end
end
end Mine
end
section
open PySem PySem.W PyProof.Rows PySem.Calls
namespace Mine
noncomputable section
section
variable {n:Nat} {ρ:am} {σ:aa} {r:aY cO}
theorem At.exc {X:Cx}{s:Shared}{β:Fz}{Ψ:Ow}{e d:Addr}{hd:Option Value}{od:Obj}{h':Heap}{t:Tok}(a:At X s β σ Ψ)(k:s.heap.StaysIn h')(ne:s.heap.get? e=none)(nd:s.heap.get? d=none)(hne:d≠e)(hE:jf h' e λ o=>HO X.S (β.tk 0) e o (.exc hd none d))(hD:h'.get? d=some od) :
  ∃ β',At X { s with heap:=h',toks:=t } β' σ (⟨e,0,.exc hd none d⟩::Ψ)∧Le β β'∧β'.B.get? d=some od :=
 ((a.2.addE (q:=⟨e,0,.exc hd none d⟩) k ne ⟨P4 _,hE⟩).keeps (λ Z9 Z9 e=>e)).elim λ β' w=>⟨β',⟨a.1,w.1⟩,w.2.1,w.2.2.2 d od (λ m=>(R0.mp m).elim (λ m=>a.2.new nd (O7 _ m)) λ m=>(Q2.mp m).elim hne λ m=>a.2.new nd (O8 _ m)) hD⟩
@[elab_as_elim] theorem AI {motive:Stmt→Prop}(st:Stmt){k}(h:AJ st k=true)(f:∀ e p,k e=true→motive (.Raise (some e) none p)):motive st:=by
 revert h
 cases st with
 | Raise e c p=>cases e with
  | none=>exact λ (h:false=true)=>ff h
  | some e=>cases c with
   | none=>exact f _ _
   | some=>exact λ (h:false=true)=>ff h
 | _=>exact λ (h:false=true)=>ff h
theorem zI {c a:IE}{E:CE}(as:List Expr)(h:(rel (.cs c (.cs a .nl)) E).l as=true):∃ x y,as=[x,y]∧bR x=true∧bR y=true:=by
 cases as with
 | nil=>exact ff h
 | cons x as=>cases as with
  | nil=>exact ff (aE h)
  | cons y as =>
   cases (S6.mp (aE (aE h)))
   exact ⟨x,y,rfl,(aj (aj h)),(aj (aj (aE h)))⟩
theorem u3 {L:Addr}{md:Md}(h:bD md):md.at L:=by cases md<;>first | trivial | exact (show False from h).elim
theorem Gq {X:Cx}{Ψ:Ow}{E:Value→Shared→Prop}{oC:Obj}{fI:Addr}{fr:rf}{vs:List Value}{s:Shared}{β:Fz}{cs:List Nat}{i:Int}{p:Pos}(fx:lq X)(R:oq X.S.K ⟨X.S.prog,X.S.w.params⟩ X.B0 X.S.bad oC fI fr)(a:At X s β σ Ψ)(rv:RepL X.S β [.str cs,.int i] vs)
  (hE:∀ e d s' β',At X s' β' σ (⟨e,0,.exc X.A.handled none d⟩::Ψ)→Le β β'→vK d cs i β'.B→E (.ref e) s'):wpAny X.M X.A (call (.ref X.S.bad) vs) (λ v s=>wpAny X.M X.A (do standAt p;pure v) (Ct X.A E X.S.bad oC) E s) E s :=
 rv.elim λ vc z=>z.elim λ r1 z=>z.2.2.elim λ va y=>y.elim λ r2 y=>y.2.1.elim λ ta ea=>by
  refine ru z.1 (ru y.1 (ru y.2.2 (ru ea ?_)))
  exact BJ (λ b o e=>a.ns _ _ (fx.top.inK b o e):X.S.K.In s.heap) (fx.top.nolimit.keeps a.ns) R a.ns (O0 (U7 (P1 _ _) _) fx.roomD) λ h' e d t' M=>wpAny_bind (wpAny_standAt (wpAny_pure (M.at_.elim λ t0 hat=>M.own.elim λ es m=>m.elim λ n' m =>
   ⟨e,d,t0,rfl,M.keep _ _ ((λ b o e=>a.ns _ _ (fx.top.inK b o e):X.S.K.In s.heap) _ _ R.get),hat,fx.hok.keep λ b o q=>M.keep _ _ (a.ns _ _ q),(fx.hok.keep a.ns).fresh M.newE,λ h'' vs' sb g1 g6 g8 g7 =>
    (a.exc (hd:=X.A.handled) (λ b o q=>(sb.2 b λ z=>cH M.newE (ri z q)).trans (M.keep _ _ q)) M.newE M.newD M.ne ⟨_,g1,vs',_,rfl,g6,g7,g8⟩ ((sb.2 d M.ne).trans m.1)).elim λ β' w=>hE e d _ β' w.1 w.2.1 ⟨es,n',w.2.2,⟨_,m.2.1⟩,ta,m.2.2⟩⟩)))
theorem zK {c a:IE}(k:dc (Ev n (.cs c (.cs a .nl)) ρ σ) (λ x σ₁ r=>∃ s i,x=.tup [.str s,.int i]∧r=.exc s i σ₁) r):St n (.raise c a) ρ σ r:=.ofS λ X st Φ0 ok d hn h=>AI st h λ e p h=>fY e h λ g as cp h=>cj g (aj (aj h)) λ x np hx=>λ s β m Q E at' Z9 po=>(zI as (aE h)).elim λ y w=>w.elim λ z w=>by
 have hg:=CE.isGlob_e (aE hx)
 have e0:x="BadCode":=beq_iff_eq.mp (aj hx)
 have rl:=(aE h)
 rw [w.1] at rl ⊢
 rw [e0] at hg ⊢
 refine ok.fx.top.rv.2.elim λ oC R=>R.elim λ fI R=>R.elim λ fr R=>?_
 refine ru (arm_exec_Raise ..) ?_
 refine wpAny_bind (wpAny_standAt (ut R.exc (wpAny_bind (Call_Name rfl (Name_function_global ok.fx.kind hg.1 (loadGlobal_global (ru ok.fx.glob (ok.fx.top.g.keeps at'.ns)) ok.fx.top.rv.1 (callWith_K (λ a o e=>at'.ns _ _ (ok.fx.top.inK a o e)) R.keep ?_ (km w.2.1 _) (by rw [km w.2.2];rfl))) hg.2)))))
 exact k.elim (λ k=>k.elim λ w k=>k.elim λ σ₁ k=>k.2.elim λ cs e=>e.elim λ i e=>k.1.l X [y,z] _ ok.fx d rl ok.vis cp s β _ E at' trivial λ vs s₁ β₁ a₁ l₁ rv=>rv.elim λ ps rv =>
   ⟨λ a o e=>a₁.ns _ _ (ok.fx.top.inK a o e),Gq ok.fx R a₁ (ru (tI (e.1.symm.trans rv.1)) rv.2) λ ea d s' β' a' l' x=>(show bZ X Φ0 β Q E (.exc cs i σ₁) from ri e.2 po) ea d s' .raw β' ρ m trivial a' (l₁.trans l') x⟩)
  λ k=>k.elim λ c' k=>k.elim λ m' k=>k.elim λ σ₁ k=>k.1.l X [y,z] _ ok.fx d rl ok.vis cp s β _ E at' trivial λ ea d s' md β' pm a' l x=>(show bZ X Φ0 β Q E (.exc c' m' σ₁) from ri k.2 po) ea d s' md β' ρ m (u3 pm) a' l x
end
end
noncomputable section
theorem GY {α:Type}{l:List α}{k:α→Bool}(h:Jr l k=true):∃ a r,l=a::r∧k a=true:=by
 cases l with
 | nil=>exact ff h
 | cons a r=>exact ⟨a,r,rfl,h⟩
theorem GW {α:Type}{l:List α}{k:α→Bool}(h:Jo l k=true):∃ a,l=[a]∧k a=true:=by
 cases l with
 | nil=>exact ff h
 | cons a r=>exact ⟨a,congrArg _ (S6.mp (aj h)),(aE h)⟩
theorem Dx {h:ExceptHandler}{k}(q:Fm h k=true):∃ t nm b r p,h=.ExceptHandler (some t) nm (b::r) p∧k t nm (b::r)=true:=by
 cases h with
 | ExceptHandler t nm b p=>cases t with
  | none=>exact ff q
  | some t=>cases b with
   | nil=>exact ff (aj (show (false&&k t nm [])=true from q))
   | cons b r=>exact ⟨t,nm,b,r,p,rfl,(aE (show (true&&k t nm (b::r))=true from q))⟩
@[elab_as_elim] theorem AE {motive:Stmt→Prop}(st:Stmt){k}(h:Du st k=true)(f:∀ e p rest x xp nm b r hp pos,k e x nm (b::r)=true→motive (.Try (.Expr e p::rest) [.ExceptHandler (some (.Name x xp)) nm (b::r) hp] [] [] pos)):motive st:=by
 cases st with
 | Try b hs o g pos =>
  have h1:=an h
  cases S6.mp (aj h1.1)
  cases S6.mp (aE h1.1)
  obtain ⟨s,rest,rfl,h2⟩:=GY h1.2
  refine wt (motive:=λ s=>motive (.Try (s::rest) hs [] [] pos)) s h2 λ e p h3=>?_
  obtain ⟨hh,rfl,h4⟩:=GW h3
  obtain ⟨t,nm,b,r,hp,rfl,h5⟩:=Dx h4
  exact cj (motive:=λ t=>motive (.Try (.Expr e p::rest) [.ExceptHandler (some t) nm (b::r) hp] [] [] pos)) t h5 λ x xp h6=>f e p rest x xp nm b r hp pos h6
 | _=>exact ff h
section
variable {n:Nat} {ρ:am} {σ:aa} {r:aY cO}
theorem tX.keep {S:Sy}{B B':Heap}{mg mb}(x:tX S B mg mb)(k:B.StaysIn B'):tX S B' mg mb where
 inK:=x.inK.keeps k
 nolimit:=x.nolimit.keeps k
 g:=x.g.keeps k
 b:=x.b.keeps k
 gv:=λ y i e=>(x.gv y i e).imp λ p w=>w.imp λ v w=>⟨w.1,w.2.1,bj.mono (β:=⟨B,[]⟩) (β':=⟨B',[]⟩) ⟨k,z0f _⟩ w.2.2⟩
 bv:=x.bv
 fv:=λ y i e=>(x.fv y i e).imp λ fa w=>w.imp λ fd w=>w.imp λ fr w=>⟨w.1,w.2.1,w.2.2.1.keep k,w.2.2.2⟩
 cv:=λ y c e=>⟨(x.cv y c e).1,(x.cv y c e).2.imp λ fa w=>w.imp λ fr w=>{ w with fn:=w.fn.keep k }⟩
 rv:=⟨x.rv.1,x.rv.2.imp λ oC w=>w.imp λ fa w=>w.imp λ fr w=>{ w with fn:=w.fn.keep k }⟩
noncomputable def IL (e:IE)(x:Option Nat)(h:IS)(E:CE)(t:Expr)(b:Str)(nm:Option Str)(hb:List Stmt):Bool:=mZ t&&(rel e E).v t&&b==E.bad&&E.isGlob b&&GC E nm x&&!nt h&&(lK h E).ss hb
noncomputable def Cx.inH (X:Cx)(ea:Addr)(B:Heap):Cx:={ X with A:=X.A.mark (some (.ref ea)),B0:=B }
theorem yR {prog:Program}{w:World}{A:Around}{E:Value→Shared→Prop}{s:Shared}{C ea:Addr}{oC oe:Obj}{Q:Bool→Shared→Prop}(ho:fw oC C)(hC:s.heap.get? C=some oC)(he:s.heap.get? ea=some oe)(hc:oe.cls=.ref C)(q:Q true s):wpAny (model prog w) A (excMatches (.ref ea) (.ref C)) Q E s:=by
 cases ho with | mk nm q' N bs tl sn sub ab col dd k0 k1 k2 k3 k5 e c1 c2 c3 c4 c5 hp =>
 exact wpAny_excMatches_sub_self (ri e hC) he hc c2 q
theorem vP {X:Cx}{Φ0:Ow}{e:Expr}{ir:IE}{p pos hp xp:Pos}{rest hb:List Stmt}{b:Stmt}{x:Str}{nm:Option Str}{c:List Nat}{a:Int}{σ₁:aa}{s β m Q E}(ok:re X Φ0)(d:X.d=n)(k:Ev n ir ρ σ (.exc c a σ₁))(hv:mZ e=true)(he:(rel ir X.ce).v e=true)(hx:x="BadCode")(hg:X.ce.isGlob x=true)(at':At X s β σ (bM X ρ m++Φ0))
  (K:∀ s₁ β₁ T ea d,At X s₁ β₁ σ₁ (qD X.A.handled ea d (.fly T)++(bM X ρ m++Φ0))→Le β β₁→vK d c a β₁.B→codeAny X.M (X.A.mark (some (.ref ea))) (.handlers (.ref ea) [.ExceptHandler none nm (b::hb) hp] X.env) (λ r s₂=>match r with
    | .ok f=>(match nm with | none=>Q f s₂ | some n=>wpAny X.M X.A (do bindName X.env n .none;unbindBehindTheSuite X.env n hp) (λ Z9 s₃=>Q f s₃) E s₂)
    | .error y=>cameBackBy X.M X.A X.env E y s₂) s₁) :
  wpAny X.M X.A (exec (.Try (.Expr e p::rest) [.ExceptHandler (some (.Name x xp)) nm (b::hb) hp] [] [] pos) X.env) Q E s:=by
 subst hx
 refine wpAny_Try_except (wpAny_execs_cons (wpAny_Expr_any (k.v X e _ ok.fx d he ok.vis s β _ _ at' trivial λ ea d s₁ md β₁ pm a₁ l₁ xd=>?_) (iK ok.fx.kind) (p5 hv _ _ _)))
 refine ok.top.elim λ l' w=>qc ok.fx.frames w.1 ok.fr ok.vis.stk (u3 pm) a₁ λ s₂ T a₂=>fK (fr':=none) a₂ λ s₃ a₃=>?_
 exact ok.fx.top.rv.2.elim λ oC R=>R.elim λ fI R=>R.elim λ fr R=>a₃.head.elim λ o w=>w.2.elim λ vs z=>z.elim λ sl z =>
  wpAny_handleBy_cons (codeAny_handlers_test (Name_function_global ok.fx.kind (CE.isGlob_e hg).1 (loadGlobal_global (ru ok.fx.glob (ok.fx.top.g.keeps a₃.ns)) ok.fx.top.rv.1 (yR R.exc (a₃.ns _ _ (ok.fx.top.inK _ _ R.get)) w.1 (ru z.1 rfl) (K s₃ β₁ T ea d a₃ l₁ xd))) (CE.isGlob_e hg).2)) (by intro q;cases q)
theorem Ew {E:CE}{v:PV}(o:Option Expr)(h:(rel (.c v) E).v (yd o)=true){X:Cx}{A:Around}{env:Env}{p:Pos}{Q:Flow→Shared→Prop}{E'}{s:Shared}{β:Fz}{σ:aa}{Φ:Ow}(a:At X s β σ Φ)(hQ:∀ w s',At X s' β σ Φ→bj X.S β v w→Q (.ret w) s'):wpAny X.M A (exec (.Return o p) env) Q E' s:=by
 have go:∀ e:Expr,(rel (.c v) E).v e=true→wpAny X.M A (eval e env) (λ w=>Q (.ret w)) E' s:=λ e h=>jA e h λ c u p h=>by
  show wpAny _ _ (constValue env c) _ _ _
  cases v with
  | none=>exact ru (Option.some.inj (beq_iff_eq.mp h)) (wpAny_pure (hQ _ _ a rfl))
  | bool b=>exact ru (Option.some.inj (beq_iff_eq.mp h)) (wpAny_pure (hQ _ _ a rfl))
  | int i=>exact ru (Option.some.inj (beq_iff_eq.mp h)) (wpAny_mkInt (hQ _ _ a ⟨_,rfl⟩))
  | str x =>
   exact ru (hZ (beq_iff_eq.mpr (beq_iff_eq.mp h))).1 (wpAny_mkText (hQ _ _ a ⟨(hZ (beq_iff_eq.mpr (beq_iff_eq.mp h))).2,_,rfl⟩))
  | _=>exact Jf (beq_iff_eq.mp h)
 cases o with
 | none=>exact go _ h
 | some e=>exact wpAny_Return_some (go e h)
theorem Go {a b:IS}{E:CE}{l:List Stmt}(h:(lK (.sq a b) E).ss l=true):∃ s r,l=s::r∧(lK a E).s s=true∧(lK b E).ss r=true:=by
 cases l with
 | nil=>exact ff h
 | cons s r=>exact ⟨s,r,rfl,(aj h),(aE h)⟩
theorem Hn {h:IS}{k:PV→Prop}(f:∀ v q,h=.sq (.ret (.c v)) q→k v):Kg h k:=by
 cases h with
 | sq s q=>cases s with
  | ret e=>cases e with
   | c v=>exact f v q rfl
   | _=>trivial
  | _=>trivial
 | _=>trivial
theorem CR {e:IE}{v:PV}{q:IS}{c:List Nat}{a:Int}{σ₁:aa}(k:Ev n e ρ σ (.exc c a σ₁))(hr:r=.ok (.ret v) σ₁):St n (.tryE e none (.sq (.ret (.c v)) q)) ρ σ r:=.ofS λ X st Φ0 ok d hn h=>AE st (show Du st (IL e none (.sq (.ret (.c v)) q) X.ce)=true from h) λ t p rest x xp nm b hb hp pos h s β m Q E at' Z9 po=>by
 have h4:=an (aj (aj (aj h)))
 have h5:=an h4.1
 have h6:=an h5.1
 refine vP ok d k h6.1 h6.2 (beq_iff_eq.mp h5.2) h4.2 at' λ s₁ β₁ T ea dd a₁ l₁ xd=>?_
 cases nm with
 | some nm=>exact ff (aE (aj (aj h)))
 | none =>
  obtain ⟨s',r',e1,r1,-⟩:=Go (aE h)
  cases e1
  refine codeAny_handlers_suite (fK (X:=X.inH ea X.B0) (fr':=none) (a₁:At (X.inH ea X.B0) s₁ β₁ σ₁ (qD X.A.handled ea dd (.fly T)++(bM X ρ m++Φ0))) λ s₂ a₂=>wpAny_execs_cons (AH (motive:=λ st=>wpAny _ _ (exec st X.env) _ _ _) b r1 λ o p' ho=>Ew o ho a₂ λ w s' a₃ rw'=>?_))
  exact (show bZ X Φ0 β Q E (.ok (.ret v) σ₁) from ri hr po) w s' β₁ ρ m ⟨a₃.1,a₃.2.drop (Ψ:=qD X.A.handled ea dd (.fly T))⟩ l₁ rw'
theorem GB {X:Cx}{nm:Option Str}{i:Nat}(h:GC X.ce nm (some i)=true):∃ x,nm=some x∧X.ce.isVar x i=true∧X.env.kindOf x=some .local:=by
 cases nm with
 | none=>exact ff h
 | some x=>exact ⟨x,rfl,(aj h),beq_iff_eq.mp (aE h)⟩
theorem pD {X:Cx}{P:Str→Bool}:c8 X [] P=[]:=by unfold c8;refine ru List.zip_nil_right ?_;rfl
theorem Kd {X:Cx}{Φ0:Ow}{c:List Nat}{a:Int}{σ₁:aa}{s:Shared}{β:Fz}{ea dd T:Addr}{m:Nat}(ok:re X Φ0)(hn:X.A.handled=none)(a₂:At X s β σ₁ (qD X.A.handled ea dd (.fly T)++(bM X ρ m++Φ0)))(xd:vK dd c a β.B) :
  ∃ β',re (X.inH ea β'.B) Φ0∧At (X.inH ea β'.B) s β' σ₁ (bM X ρ m++Φ0)∧bj X.S β' (.exn a) (.ref ea)∧Le β β'∧X.B0.StaysIn β'.B :=
 a₂.head.elim λ o w=>w.2.elim λ vs z=>z.elim λ sl z=>(a₂.2.drop (Ψ:=qD X.A.handled ea dd (.fly T))).keeps (λ Z9 Z9 e=>e) |>.elim λ β' y=>by
  have gB:=y.2.2.2 ea _ (λ q=>(R0.mp q).elim (λ q=>((Q0.mp a₂.2.nd).2).2 ea q ea N2 rfl) λ q=>(Q9.mp ((Q0.mp a₂.2.nd).2).1).1 (N9 _ q)) (z.1▸w.1)
  exact ⟨β',{ ok with fx:={ ok.fx with top:=ok.fx.top.keep y.1.top,hok:=λ v e=>⟨ea,_,vs,(Option.some.inj e).symm,gB,rfl,z.2.2.1 hn⟩ } },⟨a₂.1,{ y.1 with top:=λ Z9 Z9 e=>e }⟩,
   xd.elim λ es x=>x.elim λ n' x=>⟨ea,rfl,dd,vs,sl,gB,es,n',y.2.1.b _ _ x.1,x.2.2.elim λ t' x=>⟨t',x⟩⟩,y.2.1,y.1.top⟩
theorem CQ {e:IE}{h:IS}{i:Nat}{v:PV}{c:List Nat}{a:Int}{σ₁ σ₂:aa}(k:Ev n e ρ σ (.exc c a σ₁))(kh:St n h (ρ.set i (some (.exn a))) σ₁ (.ok (.ret v) σ₂))(hr:r=.ok (.ret v) σ₂):St n (.tryE e (some i) h) ρ σ r:=.ofS λ X st Φ0 ok d hn hq=>AE st (show Du st (IL e (some i) h X.ce)=true from hq) λ t p rest x xp nm b hb hp pos h s β m Q E at' Z9 po=>by
 have h4:=an (aj (aj (aj h)))
 have h5:=an h4.1
 have h6:=an h5.1
 refine (GB (aE (aj (aj h)))).elim λ y w=>vP ok d k h6.1 h6.2 (beq_iff_eq.mp h5.2) h4.2 at' λ s₁ β₁ T ea dd a₁ l₁ xd=>?_
 refine ru w.1 ?_
 refine codeAny_handlers_suite_as (fK (X:=X.inH ea X.B0) (fr':=none) a₁ λ s₂ a₂=>(Kd (X:=X) ok (hn rfl) a₂ xd).elim λ β₂ z=>?_)
 refine gJ (X:=X.inH ea β₂.B) (p:=.exn a) (v:=.ref ea) z.1 z.2.1 (dy w.2.1).1 (dy w.2.1).2 z.2.2.1 λ s₃ m₃ a₄=>kh.ss (X.inH ea β₂.B) (b::hb) Φ0 z.1 d (λ z=>ff (z▸(aE (aj h)):(!true)=true)) (aE h) s₃ β₂ m₃ _ _ a₄ trivial λ w' s₄ β₄ ρ' k' a₅ l₅ rw'=>?_
 refine (kv (X:=X.inH ea β₂.B) a₅).elim λ of f=>f.2.elim λ mf f2=>wpAny_nameGoes w.2.2 (f2.1 _ f.1) (by refine ru ok.fx.kind ?_;rfl) λ h' m' ns' sb'=>?_
 have I₅:=lW (X:=X.inH ea β₂.B) (ρ':=[]) a₅ sb'.extBut (.inl rfl) ((pG ns').imp λ o w=>⟨w.1,m',w.2,by refine ru pD ?_;exact O1 _⟩) λ c mc=>((gK (X:=X.inH ea β₂.B) a₅ mc).keep λ o e=>sb'.extBut _ _ (uv (X:=X.inH ea β₂.B) a₅ mc) e).mp λ o w=>w.imp λ v w=>⟨w.1,by refine ru pD ?_;exact O1 _⟩
 exact (show bZ X Φ0 β Q E (.ok (.ret v) σ₂) from ri hr po) w' _ β₄ [] _ ⟨a₅.1,{ I₅ with top:=λ b o e=>I₅.top _ _ (z.2.2.2.2 b o e) }⟩ ((l₁.trans z.2.2.2.1).trans l₅) rw'
end
end
noncomputable section
noncomputable def ci (b:Bool):Obj:=match b with | true=>{ cls:=.type "list",data:=.seq ([]:List Value).toArray } | false=>{ cls:=.type "dict",data:=.dict #[] }
structure KT (C x dx:Addr) (h₀:Heap) (L:Addr) (m:Str→Option Value) (fs:List (List Nat×Bool)) (es:List DictEntry) (made:List (Addr×Obj)) (s s':Shared) (es':List DictEntry) (n':Nat) (ds:List (Addr×Obj)):Prop where
 sm:s'.os=s.os∧s'.gens=s.gens
 str:dC es'
 fr:Fr h₀ L s'.heap m
 news:News h₀ L s'.heap ((x,instObj C dx)::(dx,dictOf es' n')::(ds.reverse++made))
 map:ds.map (·.2)=fs.map (λ p=>ci p.2)
 off:∀ a,(a=x∨a=dx∨∃ o,(a,o)∈made)→a∉ds.map (·.1)
 nd:(ds.map (·.1)).Nodup
 get:∀ (i:Nat) q d,fs[i]?=some q→ds[i]?=some d→getL (aG q.1) es'=some (some (.ref d.1))
 oth:∀ y,(∀ p∈fs,y≠aG p.1)→getL y es'=getL y es
 up:∀ d∈ds,h₀.objs.size≤d.1
theorem wr {b:Bool}{e:Expr}(h:Jp b e=true){prog:Program}{w:World}{A:Around}{E:Value→Shared→Prop}{env:Env}{s:Shared}{Q:Value→Shared→Prop}(hq:Q (.ref s.heap.objs.size) { s with heap:=s.heap.push (ci b) }):wpAny (model prog w) A (eval e env) Q E s∧∀ t l,swapsWith e t l env=pure false:=by
 cases b with
 | true=>exact uD e h λ es p h=>ru (S6.mp h) (⟨List_ (spliced_nil (wpAny_newList hq (P4 _))),λ Z9 Z9=>rfl⟩)
 | false=>exact qj e h λ ks vs p h=>S6.mp (aj h)▸ru (S6.mp (aE h)) (⟨wpAny_Dict_empty hq,λ Z9 Z9=>rfl⟩)
set_option tactic.hygienic true in
theorem yI {prog:Program}{w:World}{A:Around}{E:Value→Shared→Prop}{K:Frag}{C x dx:Addr}{h₀:Heap}{L:Addr}{m:Str→Option Value}{env:Env}(ck:env.scope.kind=.function)(eL:env.locals=L)(hself:env.kindOf "self"=some .local)(hm:m "self"=some (.ref x))(X₀:K.In h₀)
  (hs:findIn K (.ref C) "__setattr__"=some (some (.builtin "object.__setattr__"))) (hp:plainOver K C=true) (hh:hasDictIn K C=true) (hxd:x≠dx) (fs:List (List Nat×Bool)):∀ (body:List Stmt) (s:Shared) (es:List DictEntry) (n:Nat) (made:List (Addr×Obj)) (Q:Flow→Shared→Prop),
  pj fs body=true→(∀ p∈fs,takerIn K C (aG p.1)=some none)→(fs.map (·.1)).Nodup→es.length+fs.length≤1000→dC es→Fr h₀ L s.heap m→News h₀ L s.heap ((x,instObj C dx)::(dx,dictOf es n)::made)→(∀ p∈made,p.1≠dx) →
  (∀ s' es' n' ds,KT C x dx h₀ L m fs es made s s' es' n' ds→Q .next s')→wpAny (model prog w) A (execs body env) Q E s:=by
 induction fs with
 | nil =>
  intro body s es n made Q hb ht hnd hz he F N hmd hQ
  exact ru (S6.mp hb) (wpAny_execs_nil (hQ s es n [] ⟨⟨rfl,rfl⟩,he,F,N,rfl,λ a Z9 m=>(o4 m),.nil,λ i q d e=>(b2 e),λ Z9 Z9=>rfl,λ Z9 m=>(o4 m)⟩))
 | cons f fs ih =>
  intro body s es n made Q hb ht hnd hz he F N hmd hQ
  cases body with
  | nil=>exact ff hb
  | cons st body =>
   refine qi (motive:=λ st=>wpAny (model prog w) A (execs (st::body) env) Q E s) st (aj hb) λ attr e p1 p2 p hk=>?_
   have ea:attr=aG f.1:=beq_iff_eq.mp (aj hk)
   subst ea
   refine wpAny_execs_cons (plainObj_wpAny_Assign_Attribute (wr (aE hk) ?_).1 ((wr (aE hk) (Q:=λ Z9 Z9=>True) (s:=s) (A:=A) (E:=E) (prog:=prog) (w:=w) trivial).2 _ _))
   have fresh:s.heap.get? s.heap.objs.size=none:=Heap.get?_none_of_le (N8 _)
   have hdxs:s.heap.objs.size≠dx:=λ q=>cH fresh (ru q ((N (dx,dictOf es n) (.tail _ (.head _))).1))
   have hxs:s.heap.objs.size≠x:=λ q=>cH fresh (ru q ((N (x,instObj C dx) (.head _)).1))
   refine wpAny_Name (wpAny_loadName_local ck hself (by refine ru eL ?_;exact (F.push (ci f.2)).ns) hm ?_) (by decide)
   obtain ⟨hp1,hp2⟩:=rW (x:=aG f.1) (hs:=PyData.keyHash w.params (aG f.1)) (t:=s.toks+1) (v:=.ref s.heap.objs.size) he
   have hz1:es.length+(fs.length+1)≤1000:=hz
   refine set_dict (s:={ s with heap:=s.heap.push (ci f.2) }) (F.push (ci f.2)) X₀ (News.push F N (ci f.2) (by cases f.2<;>rfl:(ci f.2).isFreed=false)) (InstAt.of_news (News.push F N (ci f.2) (by cases f.2<;>rfl:(ci f.2).isFreed=false)) (N9 _ N2) (N9 _ (N9 _ N2)):InstAt (s.heap.push (ci f.2)) x (instObj C dx) C (some (dictOf es n))) rfl hs hp (ht _ N2) hh (yK he) rfl (.tail hdxs (.tail hxd (.head hmd))) (N1 hp2 (by (first | lia | omega))) λ h' F' N'=>?_
   refine ih body { s with heap:=h',toks:=s.toks+2 } _ (putN (aG f.1) es n) ((s.heap.objs.size,ci f.2)::made) Q (aE hb) (λ q mq=>ht q (N9 _ mq)) (Q9.mp hnd).2 (by (first | lia | omega)) hp1 F' (λ q mq=>N' q (by
    simp only [Q2] at mq ⊢;rcases mq with a | a | a | a<;>simp [a])) (λ q mq=>(Q2.mp mq).elim (λ a=>ru a hdxs) (hmd q)) λ s' es' n' ds R=>hQ s' es' n' ((s.heap.objs.size,ci f.2)::ds) ⟨R.sm,R.str,R.fr,?_,congrArg (_::·) R.map,λ a ha mq=>?_,?_,λ i q d e1 e2=>?_,λ y hy=>?_,λ d md=>?_⟩
   ·refine ru List.reverse_cons (ru (N6 ..) ?_);exact R.news
   ·rcases Q2.mp mq with z | z
    ·refine absurd z ?_
     rcases ha with rfl | rfl | ⟨o,mo⟩
     ·exact hxs.symm
     ·exact hdxs.symm
     ·exact λ q=>cH fresh (q▸(N (a,o) (.tail _ (.tail _ mo))).1)
    ·exact R.off a (ha.imp _root_.id (Or.imp _root_.id λ ⟨o,z⟩=>⟨o,N9 _ z⟩)) z
   ·exact Q9.mpr ⟨λ mq=>R.off _ (.inr (.inr ⟨_,N2⟩)) mq,R.nd⟩
   ·cases i with
    | zero =>
     cases Option.some.inj e1
     cases Option.some.inj e2
     exact ru (R.oth _ λ p mp q=>(Q9.mp hnd).1 (S0.mpr ⟨p,mp,(cU q).symm⟩)) (ru (jN he) (ru (if_pos rfl) rfl))
    | succ i=>exact R.get i q d e1 e2
   ·exact ru (R.oth y λ p mp=>hy p (N9 _ mp)) (ru (jN he) (ru (if_neg (λ q=>hy _ N2 q.symm)) rfl))
   ·rcases Q2.mp md with z | z
    ·refine ru z ?_;exact T3 (O0 F.above (F.ns.elim λ o w=>w.elim λ es w=>w.elim λ ep w=>Heap.lt_size w.1))
    ·exact R.up d z
end
noncomputable section
theorem RepL.of_get {S:Sy}{β:Fz}(ps:List PV):∀ (vs:List Value),ps.length=vs.length→(∀ (i:Nat) p v,ps[i]?=some p→vs[i]?=some v→bj S β p v)→RepL S β ps vs:=by
 induction ps with
 | nil=>exact λ vs hl Z9=>U6.mp hl.symm
 | cons p ps ih =>
  intro vs hl h
  cases vs with
  | nil=>exact Iw hl
  | cons v vs=>exact ⟨v,vs,rfl,h 0 p v rfl rfl,ih vs (Nat.succ.inj hl) λ i q u a b=>h (i+1) q u a b⟩
theorem Ds {S:Sy}{β:Fz}{h:Heap}{a:Addr}{b:Bool}(hm:(a==sysModules)=false)(e:h.get? a=some (ci b)):jf h a λ x=>eH S β a x (if b then .lst [] else .dctI [] []):=by
 cases b with
 | true=>exact ⟨_,e,P4 _,[],λ h e=>⟨_,e⟩,rfl⟩
 | false=>exact ⟨_,e,P4 _,[],λ h e=>⟨rfl,hm,tG e⟩,rfl⟩
section
variable {n:Nat} {ρ:am} {σ:aa}
theorem GU {α β γ:Type}{f:α→γ}{g:β→γ}{l:List α}{m:List β}(h:l.map f=m.map g){i:Nat}{a:α}{b:β}(e:l[i]?=some a)(e':m[i]?=some b):f a=g b:=by
 have:=congrArg (·[i]?) h
 simp only [Q3,e,e',Option.map_some] at this
 exact Option.some.inj this
theorem HC {c:Nat}:Ev n (.new c) ρ σ (.ok (Ji (fk c) c σ.length) (σ++GH (fk c))):=.ofV (λ Z9 Z9=>rfl) (λ Z9 Z9=>rfl) λ X e Φ fx d h vis=>fY e h λ g as pos h=>cj g h λ y np h s β Q E a Z9 po=>by
 cases S6.mp (aE h)
 obtain ⟨hmg,fa,fr,M⟩:=fx.top.cv y c (beq_iff_eq.mp (aE (aj h)))
 generalize hC:X.S.cls c=C at hmg M
 generalize hfs:fk c=fs at M po
 have XK:X.S.K.In s.heap:=λ b o e=>a.ns _ _ (fx.top.inK b o e)
 refine Call_Name rfl (Name_function_global fx.kind (CE.isGlob_e (aj (aj h))).1 (loadGlobal_global (ru fx.glob (fx.top.g.keeps a.ns)) hmg (callWith_K0 XK M.cls.keep ?_)) (CE.isGlob_e (aj (aj h))).2)
 have F:=M.fn.keep a.ns
 have at':=a
 obtain ⟨hh,gs,dr,t,os⟩:=s
 refine wpAny_call (make_core (makes_of XK M.cls.makes) (looks_findIn XK M.init) (λ self=>bind_fn XK self M.ty) (.inl rfl) ?_)
 have k2:hh.StaysIn ((hh.push emptyDict).push (instObj C hh.objs.size)):=λ b o e=>Heap.get?_push_of_some _ (Heap.get?_push_of_some _ e)
 have hroom:(X.A.under (.builtin "type.__call__" ⟨[.ref C],[]⟩)).depth<recursionLimit:=by
  have:=fx.roomD
  show X.A.depth+Code.weight (.builtin "type.__call__" ⟨[.ref C],[]⟩)<_
  refine ru (by kernel_rfl:Code.weight (.builtin "type.__call__" ⟨[.ref C],[]⟩)=1) ?_;(first | lia | omega)
 refine codeAny_call_function (fd:=fr.fd) (body:=fr.body) hroom (k2 _ _ F.get) rfl F.co F.gen rfl (F.code.keeps k2) ?_
 refine ru (F.bind [.ref (hh.objs.size+1)] (by rw [M.ps];rfl)) (ru M.ps ?_)
 refine wpAny_pure ?_
 refine wpAny_newFunctionEnv_cells F.kind (λ z mz=>.inl (ru (P7.mp mz) M.loc)) λ env he s₁ hin=>?_
 obtain ⟨h₁,tk₁,rfl⟩:=hin.toInCall.same
 have k1:=hin.toInCall.keep
 refine ⟨((fx.top.nolimit.keeps a.ns).keeps k2).keeps k1,codeAny_func ?_⟩
 have eL:env.locals=((hh.push emptyDict).push (instObj C hh.objs.size)).objs.size:=by refine ru he ?_;rfl
 have eK:∀ x,env.kindOf x=fr.scope.names.lookup x:=λ x=>by refine ru he ?_;rfl
 have sz:((hh.push emptyDict).push (instObj C hh.objs.size)).objs.size=hh.objs.size+2:=by exact ru (Heap.size_push ..) (ru (Heap.size_push ..) rfl)
 refine yI (env:=env) (by refine ru he ?_;exact F.kind) rfl ((eK _).trans M.loc) (m:=bindL env.kindOf [(("self":Str),.ref (hh.objs.size+1))] λ Z9=>none) (x:=hh.objs.size+1)
  (iB (ps:=[("self":Str)]) (vals:=[.ref (hh.objs.size+1)]) (i:=0) _ (by decide) rfl rfl ((eK _).trans M.loc)) XK M.cls.setattr M.cls.over M.cls.dict (z1h _) fs fr.body _ [] 0 [] _ M.body M.cls.taker M.cls.nd (by simpa using M.cls.le) (O1 _) (⟨hin.toInCall.ns,(λ b o e=>k1 _ _ (k2 _ _ e):hh.StaysIn h₁),by refine ru eL (ru sz ?_);(first | lia | omega)⟩:Fr hh env.locals h₁ (bindL env.kindOf [(("self":Str),.ref (hh.objs.size+1))] λ Z9=>none)) (N7.mpr ⟨⟨(k1 _ _ (by heap_get):h₁.get? (hh.objs.size+1)=some (instObj C hh.objs.size)),by refine ru eL (ru sz ?_);exact V7 (U0 _),Heap.get?_none_of_le (U4 _)⟩,N7.mpr ⟨⟨(k1 _ _ (by heap_get):h₁.get? hh.objs.size=some (dictOf [] 0)),by refine ru eL (ru sz ?_);exact V7 (by (first | lia | omega)),Heap.get?_none_of_le (N8 _)⟩,O1 _⟩⟩:News hh env.locals h₁ [(hh.objs.size+1,instObj C hh.objs.size),(hh.objs.size,dictOf [] 0)]) (O1 _) λ s₂ es' n' ds R=>?_
 refine ⟨rfl,?_⟩
 have h3:=R.news
 rw [O3] at h3
 have hl:ds.length=fs.length:=by have:=congrArg List.length R.map;simpa using this
 have dnews:∀ d∈ds,s₂.heap.get? d.1=some d.2∧hh.get? d.1=none:=λ d md =>
  ⟨(h3 d (N9 _ (N9 _ (z3i.mpr md)))).1,(h3 d (N9 _ (N9 _ (z3i.mpr md)))).2.2⟩
 have hsm:∀ d∈ds,(d.1==sysModules)=false:=λ d md=>(fx.top.g.keeps a.ns).elim λ o w=>w.elim λ es w=>w.elim λ ep w =>
  beq_eq_false_iff_ne.mpr (z0k (S7 (P8 (show sysModules<mainGlobals by decide) (Heap.lt_size w.1)) (R.up d md)))
 obtain ⟨I1,l1⟩:=at'.2.addN (h':=s₂.heap) R.fr.keep (as:=ds.map (·.1)) (os:=GH fs) (by refine ru (N3 ..) (ru hl ?_);exact (N3 _).symm) R.nd (λ a m=>(S0.mp m).elim λ d w=>ri w.2 (at'.2.fresh (dnews d w.1).2)) λ i ad o e e'=>by
  obtain ⟨d,ed,rfl⟩:=dw e
  obtain ⟨f,ef,rfl⟩:=dw e'
  have md:=Q1 ed
  exact Ds (hsm d md) ((dnews d md).1.trans (congrArg some (GU R.map ed ef)))
 obtain ⟨β₂,I2,l2,eμ,fz⟩:=I1.keeps (λ Z9 Z9 e=>e)
 have nm:∀ z,hh.get? z=none→z∉ds.map (·.1)→z∉β.μ++ds.map (·.1)++dL Φ:=λ z hz hd m=>(R0.mp m).elim (λ m=>(R0.mp m).elim (λ m=>at'.2.new hz (O7 _ m)) hd) λ m=>at'.2.new hz (O8 _ m)
 have ei:∀ {i:Nat} {v:Value},(ds.map λ d=>Value.ref d.1)[i]?=some v→∃ d,ds[i]?=some d∧Value.ref d.1=v:=λ e=>dw e
 refine po _ s₂ β₂ ⟨⟨R.sm.1.trans at'.1.1,R.sm.2.trans at'.1.2⟩,I2⟩ (l1.trans l2) ⟨hh.objs.size+1,ds.map λ d=>.ref d.1,rfl,⟨hh.objs.size,es',n',#[],ru hC (fz _ _ (nm _ (h3 _ N2).2.2 (R.off _ (.inl rfl))) (h3 _ N2).1),(fz _ _ (nm _ (h3 _ (N9 _ N2)).2.2 (R.off _ (.inr (.inl rfl)))) (h3 _ (N9 _ N2)).1),by exact ru (N3 ..) (ru (N3 ..) (ru hl rfl)),λ k mk=>?_,λ i k v e1 e2=>?_⟩,RepL.of_get _ _ (by exact ru (N3 ..) (ru (N3 ..) (ru Q4 (ru hl rfl)))) λ i p v e1 e2=>?_⟩
 ·exact (S0.mp mk).elim λ p w=>w.2▸ru hC (M.cls.attr p w.1)
 ·obtain ⟨p,ep,rfl⟩:=dw e1
  obtain ⟨d,ed,rfl⟩:=ei e2
  exact R.get i p d ep ed
 ·obtain ⟨d,ed,rfl⟩:=ei e2
  obtain ⟨j,ej,rfl⟩:=dw e1
  have hj:=(O6.mp ej).2
  rw [Z3] at hj
  refine ⟨d.1,rfl,?_⟩
  refine ru eμ ?_
  refine ru (T8 (by rw [at'.2.len];exact P1 _ _)) (ru at'.2.len (ru (V9 ..) (ri hj (ru (Q3) (ru ed ?_)))));rfl
end
end
noncomputable section
section
variable {X:Cx} {Ψ:Ow}
theorem fP.app {S:Sy}{β:Fz}{m:Str→Option Value}{l l':List (Str×PV)}(h:fP S β m l)(h':fP S β m l'):fP S β m (l++l'):=λ q w=>(R0.mp w).elim (h q) (h' q)
theorem yc {β:Fz}{A:Around}{env:Env}{E:Value→Shared→Prop}(hf:env.scope.kind=.function)(es:List Expr):∀ (xs:List Str) (vs:List PV) (items:List Value) (s:Shared) (m:Str→Option Value) (l:List (Str×PV)) (Q:Unit→Shared→Prop),Dq es=some xs→xs.Nodup→(∀ q∈l,q.1∉xs)→(∀ x∈xs,env.kindOf x=some .local) →
  s.heap.Ns env.locals m→fP X.S β m l→RepL X.S β vs items→vs.length=xs.length→(∀ h' t m',h'.Ns env.locals m'→Heap.SameBut env.locals s.heap h'→fP X.S β m' (l++xs.zip vs)→Q () { s with heap:=h',toks:=t })→wpAny X.M A (assignInOrder (es.map (λ e=>assign e env)) items) Q E s:=by
 induction es with
 | nil =>
  intro xs vs items s m l Q h1 h2 h3 h4 ns va r hl hQ
  cases Option.some.inj h1
  exact wpAny_pure (hQ s.heap s.toks m ns (Heap.SameBut.refl ..) (by refine ru List.zip_nil_left (ru (O3 ..) ?_);exact va))
 | cons e es ih =>
  intro xs vs items s m l Q h1 h2 h3 h4 ns va r hl hQ
  obtain ⟨x,p,ys,rfl,h5,rfl⟩:=Ap h1
  cases vs with
  | nil=>exact Ix hl
  | cons v vs =>
   obtain ⟨val,rest,rfl,rv,rr⟩:=r
   have nd:=Q9.mp h2
   refine wpAny_assignInOrder_more (wpAny_assign_Name (wpAny_storeName_local (h4 x N2) ns (λ h' ns' sb=>?_) (by refine ru hf ?_;rfl)))
   refine ih ys vs rest { s with heap:=h',toks:=s.toks+1 } _ _ Q h5 nd.2 (λ q w=>(R0.mp w).elim (λ w z=>h3 q w (N9 _ z)) λ w=>ru (P7.mp w) nd.1) (λ y z=>h4 y (N9 _ z)) ns' (fP.app (λ q w=>(va q w).imp λ u z=>⟨(if_neg λ e=>h3 q w (Q2.mpr (.inl e))).trans z.1,z.2⟩) λ q w=>ru (P7.mp w) (⟨val,if_pos rfl,rv⟩):fP X.S β (λ y=>if y=x then some val else m y) (l++[(x,v)])) rr (Nat.succ.inj hl) λ h'' t m' ns'' sb' va''=>hQ h'' t m' ns'' (sb.trans sb') (by rw [N6] at va'';exact va'')
theorem F9 {t:Expr}{single:Bool}{tgts:List Str}{p:PV}{v:Value}{bs:List PV}{s:Shared}{β:Fz}{σ:aa}{k:Nat}{vs0:List (Str×PV)}{env:Env}{Q:Unit→Shared→Prop}{E}(fx:lq X)(hf:env.scope.kind=.function)(a:At X s β σ (⟨env.locals,k,.frame vs0⟩::Ψ))(ht:b5 t=some (single,tgts))(nd:tgts.Nodup)(hk:∀ x∈tgts,env.kindOf x=some .local)(r:bj X.S β p v)(hb:xy single tgts.length p=some bs)
  (hQ:∀ s' β' k,At X s' β' σ (⟨env.locals,k,.frame (tgts.zip bs)⟩::Ψ)→Le β β'→bs.length=tgts.length→Q () s'):wpAny X.M X.A (assign t env v) Q E s:=by
 have gA:∀ {s β} {h':Heap} {t:Tok} {m'},At X s β σ (⟨env.locals,k,.frame vs0⟩::Ψ)→h'.Ns env.locals m'→Heap.SameBut env.locals s.heap h'→fP X.S β m' (tgts.zip bs)→At X { s with heap:=h',toks:=t } β σ (⟨env.locals,β.μ.length,.frame (tgts.zip bs)⟩::Ψ):=λ {s β h' t m'} a ns sb va=>⟨a.1,a.2.updH (q1:=⟨env.locals,β.μ.length,.frame (tgts.zip bs)⟩) sb.extBut rfl (lH.now ((pG ns).imp λ o w=>⟨w.1,m',w.2,va⟩))⟩
 have hd:∀ {s β},At X s β σ (⟨env.locals,k,.frame vs0⟩::Ψ)→∃ m,s.heap.Ns env.locals m:=λ a=>a.head.elim λ o w=>w.2.elim λ m w'=>⟨m,w'.1 _ w.1⟩
 generalize hq:(single,tgts)=q at ht
 revert hq
 refine EW (motive:=λ t q=>(single,tgts)=q→wpAny X.M X.A (assign t env v) Q E s) t ht (λ x pos e=>?_) λ es c pos xs hn e=>?_
 ·cases e
  cases Option.some.inj hb
  exact (hd a).elim λ m ns=>wpAny_assign_Name (wpAny_storeName_local (hk x N2) ns (λ h' ns' sb=>hQ _ β _ (gA a ns' sb λ q w=>ru (P7.mp w) (⟨v,if_pos rfl,r⟩)) .rfl' rfl) (by refine ru hf ?_;rfl))
 ·cases e
  refine EU hb λ vs e hv=>?_
  subst e
  cases hv.2
  refine rT v r λ Z9 ta items ht q=>?_
  refine j3 (fx.hok.keep a.ns) hn (rj ht a.2.st) (q.length.trans hv.1) λ h' st=>(a.2.keeps st).elim λ β' z=>?_
  have a':At X { s with heap:=h' } β' σ (⟨env.locals,k,.frame vs0⟩::Ψ):=⟨a.1,z.1⟩
  exact (hd a').elim λ m ns=>yc hf es tgts _ items _ m [] Q hn nd (O1 _) hk ns (O1 _) (q.mono z.2.1) hv.1 λ h'' t m' ns' sb va=>hQ _ β' _ (gA a' ns' sb va) z.2.1 hv.1
end
end
noncomputable section
theorem L6 {β:Type}{P:Option β→Prop}{n m:Str}{a:β}{cs:List (Str×β)}(h1:m=n→P (some a))(h2:P (cs.lookup m)):P (List.lookup m ((n,a)::cs)):=by
 show P (match m==n with | true=>some a | false=>cs.lookup m)
 cases q:m==n with
 | true=>exact h1 (beq_iff_eq.mp q)
 | false=>exact h2
noncomputable def Lh (a b:List (Str×Addr)):Prop:=∀ n x,a.lookup n=some x→b.lookup n=some x
noncomputable def KU (names:List (Str×NameKind))(b:List (Str×Addr)):Prop:=∀ p∈names,p.2=.free→∃ a,b.lookup p.1=some a
noncomputable def FV (env:Env)(x:Str×NameKind)(s:List (Str×Addr)):Sem (ForInStep (List (Str×Addr))):=if (x.2==NameKind.free)=true then do let c ← cellOf env x.1;pure (ForInStep.yield ((x.1,c)::s)) else pure (ForInStep.yield s)
noncomputable def CF (env:Env)(names:List (Str×NameKind))(cs:List (Str×Addr)):Prop:=∃ cl,forIn names cs (FV env)=pure cl∧Lh cl env.cells∧Lh cs cl∧KU names cl
theorem CF.cons {env:Env}{p:Str×NameKind}{r:List (Str×NameKind)}{cs cs':List (Str×Addr)}(e:FV env p cs=pure (.yield cs'))(l:Lh cs cs')(hp:p.2=.free→∃ a,cs'.lookup p.1=some a)(t:CF env r cs'):CF env (p::r) cs :=
 t.elim λ cl w=>⟨cl,(z3n ..).trans ((congrArg (· >>= _) e).trans w.1),w.2.1,λ n x q=>w.2.2.1 n x (l n x q),N7.mpr ⟨λ q=>(hp q).imp λ a=>w.2.2.1 _ a,w.2.2.2⟩⟩
theorem vm {env:Env}{names:List (Str×NameKind)}:∀ {cs:List (Str×Addr)},KU names env.cells→Lh cs env.cells→CF env names cs:=by
 induction names with
 | nil=>exact λ Z9 hc=>⟨_,rfl,hc,λ Z9 Z9 e=>e,λ p m=>o4 m⟩
 | cons p r ih =>
  refine λ {cs} h hc=>(Decidable.em (p.2=.free)).elim (λ hk=>(h p (.head _) hk).elim λ a ha=>?_) λ hk=>?_
  ·exact CF.cons (cs':=(p.1,a)::cs) ((if_pos (beq_iff_eq.mpr hk)).trans (congrArg (· >>= λ c=>pure (ForInStep.yield ((p.1,c)::cs))) (show cellOf env p.1=pure a by unfold cellOf;exact ru ha rfl)))
    (λ m x q=>L6 (P:=λ o=>o=some x) (λ e=>ha.symm.trans (e▸hc m x q)) q) (λ Z9=>⟨a,by show (match p.1==p.1 with | true=>some a | false=>cs.lookup p.1)=_;exact ru (beq_self_eq_true p.1) rfl⟩) (ih (λ q m=>h q (.tail _ m)) λ m x=>L6 (P:=λ o=>o=some x→env.cells.lookup m=some x) (λ e q=>e▸ha.trans q) (hc m x))
  ·exact CF.cons (cs':=cs) (if_neg λ q=>hk (beq_iff_eq.mp q)) (λ Z9 Z9 q=>q) (λ q=>absurd q hk) (ih (λ q m=>h q (.tail _ m)) hc)
theorem vj {scope:Scope}{env:Env}(h:∀ p∈scope.names,p.2=.free→∃ a,env.cells.lookup p.1=some a) :
  ∃ cl,closureFor scope env=pure cl∧(∀ n a,cl.lookup n=some a→env.cells.lookup n=some a)∧(∀ p∈scope.names,p.2=.free→∃ a,cl.lookup p.1=some a) :=
 (vm (cs:=[]) h λ n a q=>b2 q).elim λ cl w=>⟨cl,(congrArg (· >>= λ cs=>pure cs) w.1).trans rfl,w.2.1,w.2.2.2⟩
section
variable {prog:Program} {w:World} {A:Around} {s:Shared} {R:Result→Shared→Prop}
theorem yZ {elt target iter:Expr}{ifs:List Expr}{scope:Scope}{pos:Pos}{it acc:Value}{env:Env}(I:Nat→Shared→Prop)(N:Nat)(turn:∀ i s E,I i s→PySem.wpAny (model prog w) A (pyNext it) (λ r s₁=>r.elim (R (.ok .next) s₁) λ v =>
    PySem.wpAny (model prog w) A (letOwnedTupleGo target it v) (λ Z9 s₂=>PySem.wpAny (model prog w) A (assign target env v) (λ Z9 s₃ =>
     PySem.wpAny (model prog w) A (forIn ifs true λ c r=>if r=true then do let ok ← isTrue c env (eval c env);pure (ForInStep.yield ok) else pure (ForInStep.yield r)) (λ ok s₄ =>
      cond ok (PySem.wpAny (model prog w) A (eval elt env) (λ x s₅=>PySem.wpAny (model prog w) A (call (.builtin "list.append") [acc,x]) (λ Z9 s₆=>i<N∧I (i+1) s₆) E s₅) E s₄) (i<N∧I (i+1) s₄)) E s₃) E s₂) E s₁) E s)
  (h:I 0 s):PySem.codeAny (model prog w) A (.compLoop (.ListComp elt [⟨target,iter,ifs,0⟩] scope pos) 0 it acc env) R s:=by
 refine PySem.codeAny_loop rfl (λ k s=>∃ i,k=N-i∧I i s) (λ n s hI=>?_) N ⟨0,rfl,h⟩
 refine hI.elim λ i w1z=>w1z.elim λ e hI=>?_
 have dn:∀ {s'},i<N∧I (i+1) s'→∃ m,m<n∧∃ i,m=N-i∧I i s':=λ q=>⟨_,ru e (z2m q.1 (U0 i)),i+1,rfl,q.2⟩
 show PySem.wpAny _ A ((compTurn (.ListComp elt [⟨target,iter,ifs,0⟩] scope pos) 0 it acc env).onRaise (λ x=>do noteFrame x env;theTreesLotGoes x)) _ _ s
 refine PySem.wpAny_noted ?_
 refine ru (compTurn_list ..) ?_
 refine PySem.wpAny_bind (PySem.wpAny_standAt (PySem.wpAny_bind (PySem.wpAny_mono (turn i s _ hI) (λ r s₁ h₁=>?_) λ Z9 Z9 h'=>h')))
 cases r with
 | none=>exact PySem.wpAny_pure h₁
 | some v =>
  refine PySem.wpAny_bind (PySem.wpAny_mono h₁ (λ Z9 s₂ h₂=>PySem.wpAny_bind (PySem.wpAny_mono h₂ (λ Z9 s₃ h₃=>PySem.wpAny_bind (PySem.wpAny_mono h₃ (λ ok s₄ h₄=>?_) λ Z9 Z9 h'=>h')) λ Z9 Z9 h'=>h')) λ Z9 Z9 h'=>h')
  cases ok with
  | false=>exact PySem.wpAny_pure ⟨rfl,dn h₄⟩
  | true=>exact PySem.wpAny_bind (PySem.wpAny_bind (PySem.wpAny_mono h₄ (λ x s₅ h₅=>PySem.wpAny_bind (PySem.wpAny_mono h₅ (λ Z9 s₆ h₆=>PySem.wpAny_pure (PySem.wpAny_pure ⟨rfl,dn h₆⟩)) λ Z9 Z9 h'=>h')) λ Z9 Z9 h'=>h'))
end
noncomputable def Im (K names:List (Str×NameKind))(x:Str):Prop:=(∃ p∈names,p.1=x∧p.2=.free)∧K.lookup x=some .cell
theorem uR {K:List (Str×NameKind)}{names:List (Str×NameKind)}{x:Str}:(∀ p∈names,p.2≠.cell)→(names.map λ (n,k)=>if (k==NameKind.free&&K.lookup n==some .cell) then (n,NameKind.cell) else (n,k)).lookup x=some .cell→Im K names x:=by
 induction names with
 | nil=>exact λ Z9=>b2
 | cons p r ih =>
  intro h
  have g:∀ {k:NameKind},(x=p.1→k=.cell→p.2=.free∧K.lookup p.1=some .cell)→List.lookup x ((p.1,k)::r.map λ (n,k)=>if (k==NameKind.free&&K.lookup n==some .cell) then (n,NameKind.cell) else (n,k))=some .cell→Im K (p::r) x:=λ f=>L6 (P:=λ o=>o=some NameKind.cell→Im K (p::r) x) (λ e q=>⟨⟨p,.head _,e.symm,(f e (Option.some.inj q)).1⟩,e▸(f e (Option.some.inj q)).2⟩) λ q=>(ih (λ q m=>h q (.tail _ m)) q).imp (λ w=>w.imp λ Z9 w=>⟨.tail _ w.1,w.2⟩) id
  show List.lookup x ((if (p.2==NameKind.free&&K.lookup p.1==some .cell) then (p.1,NameKind.cell) else (p.1,p.2))::_)=_→_
  cases c:(p.2==NameKind.free&&K.lookup p.1==some .cell) with
  | true=>exact g λ Z9 Z9=>⟨beq_iff_eq.mp (aj c),beq_iff_eq.mp (aE c)⟩
  | false=>exact g λ Z9 q=>absurd q (h p (.head _))
noncomputable def Cx.comp (X:Cx)(scope:Scope)(cl:List (Str×Addr))(C:Addr)(tgts:List Str):Cx:={ X with env:=compEnvC scope cl C X.env,slots:=(X.ce.inner scope tgts).1.slots }
theorem nh (mask:List Bool):∀ ρ:am,(o5 mask ρ).length=mask.length:=by
 induction mask with
 | nil=>exact λ ρ=>rfl
 | cons b r ih =>
  intro ρ
  cases ρ with
  | nil=>exact congrArg (·+1) (ih [])
  | cons x q=>exact congrArg (·+1) (ih q)
theorem Ay (mask:List Bool):∀ (ρ:am) (i:Nat) (p:PV),cT (o5 mask ρ) i=some p→mask[i]?=some true∧cT ρ i=some p:=by
 induction mask with
 | nil=>exact λ ρ i p h=>b2 h
 | cons b r ih =>
  intro ρ i p h
  cases ρ with
  | nil =>
   cases i with
   | zero=>exact b2 h
   | succ i=>exact ⟨(ih [] i p h).1,by have:=(ih [] i p h).2;exact b2 this⟩
  | cons x q =>
   cases i with
   | zero=>cases b with
    | true=>exact ⟨rfl,h⟩
    | false=>exact b2 h
   | succ i=>exact ih q i p h
section
variable {X:Cx} {ρ:am} {Φ Φ':Ow} {scope:Scope} {cl:List (Str×Addr)} {C:Addr} {tgts:List Str}
theorem gM (hk:X.env.scope.kind=.function):(relabel scope X.env).names=(X.ce.inner scope tgts).1.kind:=by
 refine z0v λ p Z9=>?_
 have:(X.env.scope.kind==ScopeKind.function)=true:=by refine ru hk ?_;rfl
 show (if (p.2==NameKind.free&&X.env.scope.kind==ScopeKind.function&&X.env.kindOf p.1==some NameKind.cell)=true then _ else _)=_
 refine ru this (ru (z3q ..) ?_)
 rfl
theorem xn (hk:X.env.scope.kind=.function):(X.comp scope cl C tgts).ce=(X.ce.inner scope tgts).1:=by
 show CE.mk _ _ _ _ _ _=_
 refine ru (show (X.comp scope cl C tgts).env.scope.names=(X.ce.inner scope tgts).1.kind from gM hk) ?_
 rfl
theorem B4 (fx:lq X)(hk:scope.kind=.function):lq (X.comp scope cl C tgts):={ fx with kind:=hk,glob:=fx.glob,blt:=fx.blt }
structure Cv (X:Cx) (scope:Scope) (tgts:List Str):Prop where
 nocell:∀ p∈scope.names,p.2≠.cell
 loc:∀ p∈scope.names,p.2=.local→scope.names.lookup p.1=some .local
 free:∀ p∈scope.names,p.2=.free→X.env.kindOf p.1=some .cell
 nd:tgts.Nodup
 tl:∀ x∈tgts,scope.names.lookup x=some .local
theorem gV (h:ux X.ce scope tgts=true):Cv X scope tgts:=by
 have per:∀ p∈scope.names,p.2≠.cell∧(p.2=.local→scope.names.lookup p.1=some .local)∧(p.2=.free→X.env.kindOf p.1=some .cell):=λ p mp=>by
  have:=(O2.mp (aj (aj (aj h)))) p mp
  exact ⟨bne_iff_ne.mp (aj (aj this)),λ q=>beq_iff_eq.mp ((P5.mp (aE (aj this))).resolve_left λ z=>bne_iff_ne.mp z q),λ q=>beq_iff_eq.mp ((P5.mp (aE this)).resolve_left λ z=>bne_iff_ne.mp z q)⟩
 exact ⟨λ p m=>(per p m).1,λ p m=>(per p m).2.1,λ p m=>(per p m).2.2,of_decide_eq_true (aE (aj (aj h))),λ x m=>beq_iff_eq.mp (aj ((O2.mp (aE (aj h))) x m))⟩
theorem B2 {bs:List PV}{k:Nat}(fx:lq X)(ck:Cv X scope tgts)(hcl:∀ n a,cl.lookup n=some a→X.env.cells.lookup n=some a)(hcf:∀ p∈scope.names,p.2=.free→∃ a,cl.lookup p.1=some a)(vis:Cr X ρ Φ)(hC:(⟨C,k,.frame (tgts.zip bs)⟩:En)∈Φ')(hs:∀ q∈Φ,q∈Φ') :
  Cr (X.comp scope cl C tgts) (o5 (X.ce.inner scope tgts).2 ρ++bs.map some) Φ':=by
 have cellAt:∀ x,(X.comp scope cl C tgts).env.kindOf x=some .cell→∃ a,cl.lookup x=some a∧X.env.cells.lookup x=some a∧X.env.kindOf x=some .cell:=λ x e=>by
  refine (uR ck.nocell (by refine ri (gM fx.kind) ?_;exact e:((X.ce.inner scope tgts).1.kind).lookup x=some .cell)).elim λ w1z k=>w1z.elim λ p w2z=>w2z.elim λ mp w3z=>w3z.elim λ q1 q2=>?_
  obtain ⟨a,e1⟩:=hcf p mp q2
  rw [q1] at e1
  exact ⟨a,e1,hcl x a e1,k⟩
 have hml:((X.ce.inner scope tgts).2).length=X.slots.length:=N3 _
 have hzl:((X.slots.zip (X.ce.inner scope tgts).2).map (λ ((x,b):Str×Bool)=>if b then x else Str.empty)).length=X.slots.length:=by exact ru (N3 ..) (ru z0n (ru hml (ru (z1f ..) rfl)))
 refine ⟨λ i x p hx hp=>?_,λ x e=>(cellAt x e).elim λ a w=>(vis.cel x w.2.2).elim λ a' z=>z.elim λ k z=>z.elim λ vs z=>⟨a,k,vs,w.1,hs _ (ru (Option.some.inj (w.2.1.symm.trans z.1)) z.2)⟩,λ e m=>(vis.stk e m).imp λ Z9 z=>z.imp λ Z9 z=>z.imp λ Z9 z=>⟨z.1,hs _ z.2.1,z.2.2⟩⟩
 have hx:(((X.slots.zip (X.ce.inner scope tgts).2).map (λ ((x,b):Str×Bool)=>if b then x else Str.empty))++tgts)[i]?=some x:=hx
 unfold KQ
 unfold cT at hp
 by_cases hlt:i<X.slots.length
 ·rw [S3 (by refine ru (nh ..) (ru hml ?_);exact hlt)] at hp
  rw [S3 (by refine ru hzl ?_;exact hlt)] at hx
  refine (Ay _ ρ i p hp).elim λ g1 g2=>?_
  have hy:=O4 hlt
  rw [Q3,(S1.mpr ⟨hy,g1⟩:(X.slots.zip (X.ce.inner scope tgts).2)[i]?=some (X.slots[i],true))] at hx
  have hxy:X.slots[i]=x:=Option.some.inj hx
  rw [hxy] at hy
  have hkc:(X.comp scope cl C tgts).env.kindOf x=some .cell:=by
   have g1':(X.slots.map λ x=>(X.ce.inner scope tgts).1.kind.lookup x==some .cell)[i]?=some true:=g1
   rw [Q3,hy] at g1'
   have:=beq_iff_eq.mp (Option.some.inj g1')
   rw [← gM fx.kind] at this
   exact this
  refine (cellAt x hkc).elim λ a w1z=>w1z.elim λ e1 w2z=>w2z.elim λ e2 kx=>?_
  have w:=vis.var i x p hy g2
  unfold KQ at w
  rw [kx] at w
  refine ru hkc ?_
  exact w.elim λ a' z=>z.elim λ k z=>z.elim λ vs z=>⟨a,k,vs,e1,hs _ (ru (Option.some.inj (e2.symm.trans z.1)) z.2.1),z.2.2⟩
 ·have hge:=z1i hlt
  rw [T8 (by refine ru (nh ..) (ru hml ?_);exact hge),nh,hml,Q3] at hp
  rw [T8 (by refine ru hzl ?_;exact hge),hzl] at hx
  have hb:bs[i-X.slots.length]?=some p:=by
   cases hq:bs[i-X.slots.length]? with
   | none=>rw [hq] at hp;exact b2 hp
   | some q=>rw [hq] at hp;exact hp
  refine ru (show (X.comp scope cl C tgts).env.kindOf x=some .local from lookup_relabel_local (ck.tl x (Q1 hx))) ?_
  exact ⟨k,_,hC,Q1 (S1.mpr ⟨hx,hb⟩)⟩
end
end
noncomputable section
theorem CK {Γ:Gs}{elt cond:IE}{ρ σ o}(h:cond.isNl=true)(t:xB Γ elt cond ρ σ o):∃ y,o=[y]∧Γ.ev elt ρ σ (.ok y σ):=by cases cond<;>first | exact t | exact ff h
theorem F8 {Γ:Gs}{elt cond:IE}{ρ σ o}(h:cond.isNl=false)(t:xB Γ elt cond ρ σ o):(Γ.ev cond ρ σ (.ok (.bool true) σ)∧∃ y,o=[y]∧Γ.ev elt ρ σ (.ok y σ))∨Γ.ev cond ρ σ (.ok (.bool false) σ)∧o=[]:=by cases cond<;>first | exact t | exact ff h.symm
section
variable {n:Nat} {ρ:am} {σ:aa} {X:Cx} {Φ:Ow}
theorem DQ {p:PV}{ia:Addr}{k i:Nat}{s:Shared}{β:Fz}{Q:Value→Shared→Prop}{E}(a:At X s β σ (⟨ia,k,.iter p i⟩::Φ))(h:Q (.ref ia) s):wpAny X.M X.A (pyIter (.ref ia)) Q E s:=a.head.elim λ o w=>w.2.elim λ v z=>by
 have r:=z.1
 have it:=z.2
 revert r
 cases it with
 | str y n c hn d=>exact λ r=>r.2.elim λ t ev=>hn.elim (λ hn=>wpAny_pyIter_striter_ascii ⟨o,w.1,ri hn c,ri ev d⟩ h) λ hn=>wpAny_pyIter_striter_wide ⟨o,w.1,ri hn c,ri ev d⟩ h
 | tup vs c d=>exact λ r=>r.2.elim λ t y=>y.elim λ is y=>wpAny_pyIter_tupleiter ⟨o,w.1,c,ri y.1 d⟩ h
 | lst vs c d=>exact λ r=>r.2.elim λ t y=>y.elim λ is y=>wpAny_pyIter_listiter ⟨o,w.1,c,ri y.1 d⟩ h
 | dctI ks vs t ep ev he c d=>exact λ Z9=>wpAny_pyIter_keyiter ⟨o,w.1,c,d⟩ h
 | dctS ks vs t ep ev he c d=>exact λ Z9=>wpAny_pyIter_keyiter ⟨o,w.1,c,d⟩ h
 | rng n hi e=>exact λ Z9=>wpAny_pyIter_rangeiter (w.1.trans (congrArg some e)) h
theorem At.up3 {s:Shared}{β:Fz}{p q r:En}(a:At X s β σ (p::q::r::Φ)):At X s β σ (r::p::q::Φ):=a.perm (z0g (l₁:=[p,q])).symm
theorem At.dn3 {s:Shared}{β:Fz}{p q r:En}(a:At X s β σ (r::p::q::Φ)):At X s β σ (p::q::r::Φ):=a.perm (z0g (l₁:=[p,q]))
structure Cu (X:Cx) (elt cond:IE) (single:Bool) (tg:List Str) (t el:Expr) (ifs:List Expr) (sc:Scope):Prop where
 t:b5 t=some (single,tg)
 ok:ux X.ce sc tg=true
 k:sc.kind=.function
 e:(rel elt (X.ce.inner sc tg).1).v el=true
 c:ifs=[]∧cond.isNl=true∨∃ c,ifs=[c]∧cond.isNl=false∧(rel cond (X.ce.inner sc tg).1).b c=true
theorem At.grow {D:Addr}{kD:Nat}{done:List PV}{y:PV}{v:Value}{s:Shared}{β:Fz}{Ψ:Ow}{Q:Value→Shared→Prop}{E}(a:At X s β σ (⟨D,kD,.s (.lst done)⟩::Ψ))(r:bj X.S β y v)(hl:(done++[y]).length≤ax)(hQ:∀ s' k w,At X s' β σ (⟨D,k,.s (.lst (done++[y]))⟩::Ψ)→Q w s'):wpAny X.M X.A (call (.builtin "list.append") [.ref D,v]) Q E s:=by
 refine ((a.2.own _ N2).up).elim λ o w1z=>w1z.elim λ e w2z=>w2z.elim λ hd w3z=>w3z.elim λ is w4z=>w4z.elim λ on q=>?_
 refine wpAny_list_append_plain (on _ e) (λ h' g' sb=>hQ _ _ _ (a.upd1 (q':=⟨D,β.μ.length,.s (.lst (done++[y]))⟩) sb.extBut rfl (lH.now (g'.elim λ n g'=>⟨_,g',hl,is++[v],λ h e=>⟨n,by exact ru e (ru (z3c ..) rfl)⟩,q.append (.single r)⟩)))) (by refine ru P2 (ru q.length ?_);exact N1 (hd:done.length≤ax) bt)
theorem vh {Y:Cx}{elt cond:IE}{el:Expr}{ifs:List Expr}{Γ:Gs}{o done:List PV}{p q:En}{D:Addr}{kD:Nat}{s:Shared}{β:Fz}{G:Shared→Prop}{E:Value→Shared→Prop}(fx:lq Y)(d:Y.d=n)(vis:Cr Y ρ (p::q::⟨D,kD,.s (.lst done)⟩::Φ))(he:(rel elt Y.ce).v el=true)(hc:ifs=[]∧cond.isNl=true∨∃ c,ifs=[c]∧cond.isNl=false∧(rel cond Y.ce).b c=true)
  (hΓ:∀ e ρ σ r,Γ.ev e ρ σ r→Ev n e ρ σ r) (t:xB Γ elt cond ρ σ o) (hl:(done++o).length≤ax) (a:At Y s β σ (p::q::⟨D,kD,.s (.lst done)⟩::Φ)) (K:∀ s' β' k,At Y s' β' σ (p::q::⟨D,k,.s (.lst (done++o))⟩::Φ)→Le β β'→G s') :
  wpAny Y.M Y.A (forIn ifs true λ c r=>if r=true then do let ok ← isTrue c Y.env (eval c Y.env);pure (ForInStep.yield ok) else pure (ForInStep.yield r)) (λ ok s₄ =>
   _root_.cond ok (wpAny Y.M Y.A (eval el Y.env) (λ x s₅=>wpAny Y.M Y.A (call (.builtin "list.append") [.ref D,x]) (λ Z9 s₆=>G s₆) E s₅) E s₄) (G s₄)) E s:=by
 have emit:∀ {s β₁ y},Le β β₁→At Y s β₁ σ (p::q::⟨D,kD,.s (.lst done)⟩::Φ)→o=[y]→Γ.ev elt ρ σ (.ok y σ)→wpAny Y.M Y.A (eval el Y.env) (λ x s₅=>wpAny Y.M Y.A (call (.builtin "list.append") [.ref D,x]) (λ Z9 s₆=>G s₆) E s₅) E s:=λ {s β₁ y} l a ho hy=>by
  subst ho
  exact (hΓ _ _ _ _ hy).v Y el _ fx d he vis s β₁ _ E a trivial λ w s₁ β₂ a₁ l₁ rw'=>At.grow (At.up3 (X:=Y) a₁) rw' hl λ s₂ k w a₂=>K s₂ β₂ k a₂.dn3 (l.trans l₁)
 rcases hc with ⟨rfl,hn⟩ | ⟨c,rfl,hn,hc⟩
 ·obtain ⟨y,ho,hy⟩:=CK hn t
  exact wpAny_tests_nil (emit .rfl' a ho hy)
 ·refine wpAny_tests_one ?_
  rcases F8 hn t with ⟨hc1,y,ho,hy⟩ | ⟨hc1,ho⟩
  ·exact (hΓ _ _ _ _ hc1).b Y c _ fx d hc vis s β _ _ a trivial λ w s₁ β₁ a₁ l₁ rb=>ri (bI rb:true=w) (emit l₁ a₁ ho hy)
  ·subst ho
   exact (hΓ _ _ _ _ hc1).b Y c _ fx d hc vis s β _ _ a trivial λ w s₁ β₁ a₁ l₁ rb=>(bI rb:false=w)▸K s₁ β₁ kD (ri done.append_nil.symm a₁) l₁
inductive CI (X:Cx) (Φ:Ow) (σ:aa) (T:PV→List PV→Prop) (x:PV) (xs ys:List PV) (ia C D:Addr) (β:Fz) (i:Nat) (s:Shared):Prop
 | mk (β':Fz) (kC:Nat) (fv:List (Str×PV)) (kD kI:Nat) (done zs:List PV) (a:At X s β' σ (⟨ia,kI,.iter x i⟩::⟨C,kC,.frame fv⟩::⟨D,kD,.s (.lst done)⟩::Φ)) (l:Le β β') (hz:lI T (xs.drop i) zs) (he:done++zs=ys)
theorem yX {p:En}{D:Addr}{kD:Nat}{ys:List PV}{s:Shared}{β:Fz}(a:At X s β σ (p::⟨D,kD,.s (.lst ys)⟩::Φ))(hl:ys.length≤ax):∃ β',At X s β' σ (p::Φ)∧Le β β'∧bj X.S β' (.lst ys) (.ref D):=by
 have a:=a.perm (Φ':=⟨D,kD,.s (.lst ys)⟩::p::Φ) (.swap _ _ _)
 exact (a.2.own _ N2).up.elim λ o w=>w.2.2.elim λ is z=>(z.1 _ w.1).elim λ nn g=>(a.2.drop (Ψ:=[⟨D,kD,.s (.lst ys)⟩])).keeps (λ Z9 Z9 e=>e) |>.elim λ β' y =>
  ⟨β',⟨a.1,y.1⟩,y.2.1,hl,D,is,rfl,⟨_,y.2.2.2 D _ (λ m=>(R0.mp m).elim (λ m=>(Q0.mp a.2.nd).2.2 D m D N2 rfl) λ m=>(Q9.mp (Q0.mp a.2.nd).2.1).1 m) g,rfl,nn,rfl⟩,z.2.mono y.2.1⟩
theorem yY {single:Bool}{tg:List Str}{t el iter:Expr}{ifs:List Expr}{sc:Scope}{elt cond:IE}{pos:Pos}{cl:List (Str×Addr)}(fx:lq X)(d:X.d=n)(vis:Cr X ρ Φ)(R:Cu X elt cond single tg t el ifs sc)(hcl:∀ n a,cl.lookup n=some a→X.env.cells.lookup n=some a)(hcf:∀ p∈sc.names,p.2=.free→∃ a,cl.lookup p.1=some a)
  {Γ:Gs} (hΓ:∀ e ρ σ r,Γ.ev e ρ σ r→Ev n e ρ σ r) {x:PV} {xs ys:List PV} (hx:gm x=some xs) (hT:lI (e7 Γ elt cond single tg.length (X.ce.inner sc tg).2 ρ σ) xs ys) (hl:ys.length≤ax) {use:Option (Value→Sem Unit)} {Q:Value→Shared→Prop} {E:Value→Shared→Prop} {s:Shared} {β:Fz} {va:Value} (a:At X s β σ Φ) (r:bj X.S β x va)
  (K:∀ C D s' β' k fv,At X s' β' σ (⟨C,k,.frame fv⟩::Φ)→Le β β'→bj X.S β' (.lst ys) (.ref D)→compPost X.M X.A E use Q (.ref D) C (.ok .next) s') :
  wpAny X.M X.A (pyIter va) (λ it s₂=>wpAny X.M X.A (newList []) (λ acc s₃=>wpAny X.M X.A (newFunctionEnv sc X.env.globals cl [] X.env.qual none .none (some X.env)) (λ cenv s₄=>codeAny X.M X.A (.compStart (.ListComp el [⟨t,iter,ifs,0⟩] sc pos) 0 it acc { cenv with scope:=relabel sc X.env }) (compPost X.M X.A E use Q acc cenv.locals) s₄) E s₃) E s₂) E s:=by
 refine sI a r hx λ ia k1 s₂ a₂=>wpAny_newList ?_ (P4 _)
 have a₃:=a₂.own (o:={ cls:=.type "list",data:=.seq ([]:List Value).toArray }) (φ:=.s (.lst [])) (s':={ s₂ with heap:=s₂.heap.push { cls:=.type "list",data:=.seq ([]:List Value).toArray } }) rfl rfl ⟨P4 _,[],λ h e=>⟨_,e⟩,rfl⟩
 revert a₃
 generalize s₂.heap.objs.size=D
 generalize s₂.heap.push { cls:=.type "list",data:=.seq ([]:List Value).toArray }=h3
 refine λ a₃=>wpAny_newFunctionEnv (gV R.ok).nocell (λ x mx=>o4 mx) (λ h4 ns4 sb4=>?_) R.k
 have a₄:At X { s₂ with heap:=h4 } β σ (⟨h3.objs.size,β.μ.length,.frame []⟩::⟨D,β.μ.length,.s (.lst [])⟩::⟨ia,k1,.iter x 0⟩::Φ):=⟨a₃.1,a₃.2.add (λ b o e=>(sb4.2 b (V7 (Heap.lt_size e))).trans (Heap.get?_push_of_some _ e)) (Heap.get?_none_of_le (N8 _)) ((pG ns4).imp λ o w=>⟨w.1,_,w.2,O1 _⟩)⟩
 refine (λ loop=>codeAny_compStart_list loop (DQ a₄.up3 loop)) (yZ (CI X Φ σ (e7 Γ elt cond single tg.length (X.ce.inner sc tg).2 ρ σ) x xs ys ia h3.objs.size D β) xs.length (λ i s' E' hI=>?_) ⟨_,_,_,_,_,[],ys,a₄.up3,.rfl',hT,rfl⟩)
 cases hI with | mk β₆ kC fv kD kI done zs a₆ l₆ hz he =>
 cases hi:xs[i]? with
 | none =>
  rw [z0j (Z6.mp hi)] at hz
  refine Bg fx a₆ hx hi λ s₇ a₇=>?_
  rw [(hz:zs=[]),O3] at he
  exact (yX (he▸a₇) hl).elim λ β₇ w=>K _ D s₇ β₇ kC fv w.1 (l₆.trans w.2.1) w.2.2
 | some v =>
  rw [pt hi] at hz
  refine hz.elim λ o w=>w.elim λ zs' w=>w.1.elim λ bs hb=>wG a₆ hx hi λ v' kI s₇ a₇ rv=>?_
  exact Ae a₇ (F9 (env:=compEnvC sc cl h3.objs.size X.env) fx R.k (a₇.perm (.swap _ _ _)) R.t (gV R.ok).nd (λ x m=>lookup_relabel_local ((gV R.ok).tl x m)) rv hb.1 λ s₈ β₈ k₈ a₈ l₈ hbl =>
   have he':(done++o)++zs'=ys:=(N6 ..).trans (ri w.2.2 he)
   vh (Y:=X.comp sc cl h3.objs.size tg) (B4 fx R.k) d (B2 fx (gV R.ok) hcl hcf vis N2 (λ q m=>.tail _ (.tail _ (.tail _ m)))) (ru (xn (scope:=sc) (cl:=cl) (C:=h3.objs.size) (tgts:=tg) fx.kind) R.e) (ru (xn (scope:=sc) (cl:=cl) (C:=h3.objs.size) (tgts:=tg) fx.kind) R.c) hΓ hb.2 (N1 (by refine ri he' (ru (N5 (bs:=zs')) ?_);exact P1 _ _) hl) a₈
    λ s₉ β₉ k₉ a₉ l₉=>⟨(O6.mp hi).1,β₉,k₈,_,k₉,kI,done++o,zs',a₉.perm (.swap _ _ _),(l₆.trans l₈).trans l₉,w.2.1,he'⟩)
end
end
noncomputable section
section
variable {n:Nat} {ρ:am} {σ:aa}
theorem tK {X:Cx}{elt it cond:IE}{single:Bool}{nt:Nat}{mask:List Bool}{e:Expr}{motive:Expr→Prop}(h:(rel (.comp elt single nt it cond mask) X.ce).v e=true)
  (f:∀ t el iter ifs sc p tg,Cu X elt cond single tg t el ifs sc→tg.length=nt→m5 iter=true→mask=(X.ce.inner sc tg).2→(rel it X.ce).v iter=true→motive (.ListComp el [⟨t,iter,ifs,0⟩] sc p)):motive e:=Dy e h λ el gn sc p h=>by
 obtain ⟨t,iter,ifs,as⟩:=gn
 cases ht:b5 t with
 | none =>
  have h:(match b5 t with | some (s,tg)=>_ | none=>false)=true:=h
  rw [ht] at h;exact ff h
 | some q =>
  have h:(match b5 t with | some (s,tg)=>_ | none=>false)=true:=h
  rw [ht] at h
  have e0:as=0:=beq_iff_eq.mp (aE (aj (aj (aj (aj (aj (aj (aj h))))))))
  subst e0
  refine f t el iter ifs sc p q.2 ⟨ht.trans (congrArg some (Prod.ext (beq_iff_eq.mp (aj (aj (aj (aj (aj (aj (aj (aj (aj h)))))))))) rfl)),(aE (aj (aj (aj (aj (aj h)))))),beq_iff_eq.mp (aE (aj (aj (aj (aj (aj (aj h))))))),(aE (aj h)),?_⟩ (beq_iff_eq.mp (aE (aj (aj (aj (aj (aj (aj (aj (aj h)))))))))) (aE (aj (aj (aj (aj h))))) (beq_iff_eq.mp (aE (aj (aj (aj h))))) (aE (aj (aj h)))
  have hc:=(aE h)
  revert hc
  cases ifs with
  | nil=>exact λ hc=>.inl ⟨rfl,hc⟩
  | cons c l=>cases l with
   | nil=>exact λ hc=>.inr ⟨c,rfl,by have:=(aj hc);revert this;cases cond.isNl<;>first | exact λ Z9=>rfl | exact λ h=>ff h,(aE hc)⟩
   | cons=>exact λ (hc:false=true)=>ff hc
noncomputable def xG (Γ:Gs)(elt cond:IE)(single:Bool)(nt:Nat)(mask:List Bool)(ρ:am)(x:PV)(σ:aa)(r:aY PV):Prop:=∃ xs ys,gm x=some xs∧lI (e7 Γ elt cond single nt mask ρ σ) xs ys∧ys.length≤ax∧r=.ok (.lst ys) σ
theorem B3 {X:Cx}{Φ:Ow}{elt it cond:IE}{single:Bool}{r:aY PV}{t el iter:Expr}{ifs:List Expr}{sc:Scope}{p p0:Pos}{tg:List Str}(fx:lq X)(d:X.d=n)(vis:Cr X ρ Φ)(R:Cu X elt cond single tg t el ifs sc)(hoi:m5 iter=true)(hit:(rel it X.ce).v iter=true){Γ:Gs}(hΓ:∀ e ρ σ r,Γ.ev e ρ σ r→Ev n e ρ σ r)
  (k:dc (Ev n it ρ σ) (xG Γ elt cond single tg.length (X.ce.inner sc tg).2 ρ) r) {use:Option (Value→Sem Unit)} {Q:Value→Shared→Prop} {E:Value→Shared→Prop} {s:Shared} {β:Fz} (a:At X s β σ Φ)
  (pe:∀ c m σ₁,r=.exc c m σ₁→∀ ea d s' md β',bD md→At X s' β' σ₁ (qD X.A.handled ea d md++Φ)→Le β β'→vK d c m β'.B→E (.ref ea) s')
  (K:∀ ys σ₁ C D s' β' k fv,r=.ok (.lst ys) σ₁→At X s' β' σ₁ (⟨C,k,.frame fv⟩::Φ)→Le β β'→bj X.S β' (.lst ys) (.ref D)→compPost X.M X.A E use Q (.ref D) C (.ok .next) s') :
  wpAny X.M X.A (comprehension (.ListComp el [⟨t,iter,ifs,0⟩] sc p) sc X.env p0 (newList []) false (eval iter X.env) use) Q E s:=by
 have ck:=gV R.ok
 obtain ⟨cl,hclos,hcl,hcf⟩:=vj (scope:=sc) (env:=X.env) λ p mp q=>(vis.cel p.1 (ck.free p mp q)).elim λ a w=>w.elim λ k w=>w.elim λ vs w=>⟨a,w.1⟩
 refine wpAny_comprehension_free (g:=⟨t,iter,ifs,0⟩) (gs:=[]) rfl (r4 hoi X.env) hclos R.k ck.loc ?_
 rcases k with ⟨x,σ₁,k1,xs,ys,hx,hT,hl,hr⟩ | ⟨c,m,σ₁,k1,hr⟩
 ·exact k1.v X iter Φ fx d hit vis s β _ E a trivial λ va s₁ β₁ a₁ l₁ rx=>yY fx d vis R hcl hcf hΓ hx hT hl a₁ rx λ C D s' β' k fv a' l' r'=>K ys σ₁ C D s' β' k fv hr a' (l₁.trans l') r'
 ·exact k1.v X iter Φ fx d hit vis s β _ E a trivial (pe c m σ₁ hr)
theorem qG {elt it cond:IE}{single:Bool}{nt:Nat}{mask:List Bool}{r:aY PV}{Γ:Gs}(hΓ:∀ e ρ σ r,Γ.ev e ρ σ r→Ev n e ρ σ r)(k:dc (Ev n it ρ σ) (xG Γ elt cond single nt mask ρ) r):Ev n (.comp elt single nt it cond mask) ρ σ r:=.ofV (λ Z9 Z9=>rfl) (λ Z9 Z9=>rfl) λ X e Φ fx d h vis =>
 tK (motive:=λ e=>J X Φ [] (X.wp (eval e X.env)) (bj X.S) bD σ r) h λ t el iter ifs sc p tg R h1 h2 h3 h4 s β Q E a g po=>by
  subst h1 h3
  refine ru (eval_ListComp ..) ?_
  refine B3 fx d vis R h2 h4 hΓ k a (λ c m σ₁ hr=>by rw [hr] at po;exact po) λ ys σ₁ C D s' β' k fv hr a' l' r'=>?_
  rw [hr] at po
  obtain ⟨o,g,m,on,-⟩:=a'.head
  exact ⟨m,on _ g,λ h' sb=>po _ _ β' (a'.drop1 sb.extBut) l' r'⟩
end
end
noncomputable section
section
variable {n:Nat} {ρ:am} {σ:aa} {r:aY cO}
noncomputable def qw:IE→Bool
 | .comp ..=>true
 | _=>false
theorem C8 {e:IE}{E:CE}{a b c p}:(rel e E).v (.SetComp a b c p)=false:=by cases e<;>rfl
theorem Da {e:IE}{E:CE}{a b c d p}:(rel e E).v (.DictComp a b c d p)=false:=by cases e<;>rfl
theorem C9 {e:IE}{E:CE}{a b c p}(hc:qw e=false):(rel e E).v (.ListComp a b c p)=false:=by cases e<;>first | exact rfl | exact ff hc.symm
theorem Gd {e:IE}{E:CE}{x:Expr}(hc:qw e=false)(h:(rel e E).v x=true)(t:Option Expr)(l:Nat)(env:Env):swapsWith x t l env=pure false:=by
 cases x with
 | ListComp=>exact ff ((C9 hc).symm.trans h)
 | SetComp=>exact ff (C8.symm.trans h)
 | DictComp=>exact ff (Da.symm.trans h)
 | _=>rfl
theorem um {i:Nat}{e:IE}(hc:qw e=false)(k:dc (Ev n e ρ σ) (λ x σ₁ r=>r=.ok (.next (ρ.set i (some x))) σ₁) r):St n (.asg i e) ρ σ r:=.ofS λ X st Φ0 ok d hn h=>nq st h λ t x p h=>vW k ok d (aj h) (aE h) (Gd hc (aE h) _ _ _)
theorem vV {i:Nat}{elt it cond:IE}{single:Bool}{nt:Nat}{mask:List Bool}{Γ:Gs}(hΓ:∀ e ρ σ r,Γ.ev e ρ σ r→Ev n e ρ σ r)(k:dc (Ev n it ρ σ) (λ x σ₁ r=>∃ ys,xG Γ elt cond single nt mask ρ x σ₁ (.ok (.lst ys) σ₁)∧r=.ok (.next (ρ.set i (some (.lst ys)))) σ₁) r):St n (.asg i (.comp elt single nt it cond mask)) ρ σ r:=.ofS λ X st Φ0 ok d hn h=>nq st h λ t x p h=>by
 have hsw:∃ b,swapsWith x (some t) p.line X.env=pure b:=by
  have:=(aj h)
  revert this
  cases t<;>first | exact λ (h:false=true)=>ff h | (cases x<;>exact λ Z9=>⟨_,rfl⟩)
 obtain ⟨b,hsw⟩:=hsw
 have k':∃ r',dc (Ev n it ρ σ) (xG Γ elt cond single nt mask ρ) r'∧dc (·=r') (λ x σ₁ r=>r=.ok (.next (ρ.set i (some x))) σ₁) r:=by
  rcases k with ⟨x,σ₁,k1,ys,k2,k3⟩ | ⟨c,m,σ₁,k1,k2⟩
  ·exact ⟨_,.inl ⟨x,σ₁,k1,k2⟩,.inl ⟨_,σ₁,rfl,k3⟩⟩
  ·exact ⟨_,.inr ⟨c,m,σ₁,k1,rfl⟩,.inr ⟨c,m,σ₁,rfl,k2⟩⟩
 obtain ⟨r',kc,kr⟩:=k'
 cases b with
 | false =>
  refine vW (n:=n) (e:=.comp elt single nt it cond mask) ?_ ok d (aj h) (aE h) hsw
  rcases kr with ⟨x,σ₁,rfl,e2⟩ | ⟨c,m,σ₁,rfl,e2⟩
  ·exact .inl ⟨x,σ₁,qG hΓ kc,e2⟩
  ·exact .inr ⟨c,m,σ₁,qG hΓ kc,e2⟩
 | true =>
  revert hsw
  refine cj (motive:=λ t=>swapsWith x (some t) p.line X.env=pure true→JS X Φ0 [] (X.wp (exec (.Assign [t] x p) X.env)) ρ σ r) t (aj h) λ y q hy hsw=>?_
  revert hsw
  refine tK (motive:=λ x=>swapsWith x (some (.Name y q)) p.line X.env=pure true→JS X Φ0 [] (X.wp (exec (.Assign [.Name y q] x p) X.env)) ρ σ r) (aE h) λ t' el iter ifs sc p' tg R g1 g2 g3 g4 hsw s β m Q E a g po=>?_
  subst g1 g3
  refine ru (exec_Assign_Name_used _ _ _ _ hsw) ?_
  refine wpAny_bind (wpAny_standAt (wpAny_bind ?_))
  refine wpAny_bind (B3 (r:=r') ok.fx d ok.vis R g2 g4 hΓ kc a (λ c m' σ₁ hr=>?_) λ ys σ₁ C D s' β' k fv hr a' l' r''=>?_)
  ·rcases kr with ⟨x,σ₂,e1,e2⟩ | ⟨c',m₂,σ₂,e1,e2⟩
   ·exact nomatch e1.trans hr
   ·cases e1.trans hr
    exact λ ea dd s' md β' pm a' l x=>(show bZ X Φ0 β Q E (.exc c m' σ₁) from ri e2 po) ea dd s' md β' ρ m (u3 pm) a' l x
  ·rcases kr with ⟨x,σ₂,e1,e2⟩ | ⟨c',m₂,σ₂,e1,e2⟩
   ·cases e1.trans hr
    have ok':=ok.cons ⟨C,k,.frame fv⟩
    refine wpAny_assign_Name (gJ ok' a'.mid (dy hy).1 (dy hy).2 r'' λ s₃ k₃ a₃=>?_)
    obtain ⟨o,g,mm,on,-⟩:=a₃.unmid.head
    exact ⟨mm,on _ g,λ h' sb=>wpAny_pure (wpAny_pure ((show bZ X Φ0 β Q E (.ok (.next (ρ.set i (some (.lst ys)))) σ₁) from ri e2 po) _ β' k₃ (a₃.unmid.drop1 sb.extBut) l'))⟩
   ·exact nomatch e1.trans hr
end
end
noncomputable section
section
variable {n:Nat} {σ:aa} {os:List OV} {K:aY PV→List OV→Prop}
theorem Hu {p:Fn}{x:PV}(h:∀ v os,t8 p x σ v→K (.ok v σ) os)(hs:∀ v os,p=.sorted→oS σ x=some v→K (.ok v σ) os):M8 p x σ os K:=by
 cases p with
 | len=>exact fU λ v os e=>(O9.mp e).elim λ n w=>ri w.2 (h _ os (AX w.1))
 | ord =>
  cases x with
  | str s=>cases s with
   | nil=>trivial
   | cons c s=>cases s with
    | nil=>exact h _ os Gx
    | cons=>trivial
  | _=>trivial
 | chr=>exact fg (motive:=λ x=>∀ v os,t8 .chr x σ v→K (.ok v σ) os) h λ i h l=>h _ os (HX l)
 | str=>exact fg (motive:=λ x=>∀ v os,t8 .str x σ v→K (.ok v σ) os) h λ i h l=>h _ os (zE l)
 | list=>exact iW (motive:=λ x=>∀ v os,t8 .list x σ v→K (.ok v σ) os) h λ i h=>h _ os DC
 | tuple=>exact fU λ v os e=>(O9.mp e).elim λ n w=>ri w.2 (h _ os (zn w.1))
 | sorted=>exact fU λ v os e=>hs v os rfl e
 | range=>exact fg (motive:=λ x=>∀ v os,t8 .range x σ v→K (.ok v σ) os) h λ i h l=>h _ os (z8 l)
 | _=>trivial
theorem G5 {p:Fn}{x:PV}(h:∀ v os,M0 p x σ v→K (.ok v σ) os):MZ p x σ os K:=by
 cases p with
 | strip=>exact cV (motive:=λ x=>∀ v os,M0 .strip x σ v→K (.ok v σ) os) h λ i h=>h _ os zD
 | split=>exact cV (motive:=λ x=>∀ v os,M0 .split x σ v→K (.ok v σ) os) h λ i h l=>h _ os (zM l)
 | _=>trivial
theorem rU {p:Fn}{x:PV}{k:List OV→Prop}(h:∀ os,oo p x σ→k os):z2 p x σ os k:=by
 have ls:∀ {p:Fn},MF p→p.ty="list"→(∀ os,oo p x σ→k os)→(match hd os with
   | .l vs _=>iJ σ x=some vs→k os.tail
   | .auto=>au (iJ σ x) λ Z9=>k os.tail
   | _=>True):=λ {p} m t h=>by
  cases hd os with
  | auto=>cases e:iJ σ x with
   | none=>trivial
   | some vs=>exact h _ (E6 m t e)
  | l vs _=>exact λ e=>h _ (E6 m t e)
  | _=>trivial
 have ss:∀ {p:Fn},MF p→p.ty="str"→(∀ os,oo p x σ→k os)→mY x λ Z9=>k os:=λ {p} m t h=>by
  cases x with
  | str s=>exact h _ (z1 m t s)
  | _=>trivial
 cases p with
 | extend=>exact ls yr rfl h
 | append=>exact ls yt rfl h
 | insert=>exact ls yq rfl h
 | get=>cases x with
  | dctI ks vs=>exact h _ (E7 (o:=.dctI ks vs) rfl (.inr nofun))
  | dctS ks vs=>exact h _ (E7 (o:=.dctS ks vs) rfl (.inl nofun))
  | _=>trivial
 | join=>exact ss Dt rfl h
 | splitOn=>exact ss uB rfl h
 | endswith=>exact ss r7 rfl h
 | startswith=>exact ss oA rfl h
 | index=>exact ss Aw rfl h
 | _=>trivial
theorem G4 {p:Fn}{x y:PV}(h:∀ r os,M1 p x y σ r→K r os):MY p x y σ os K:=by
 cases p with
 | join=>exact cV (motive:=λ x=>∀ r os,M1 .join x y σ r→K r os) h λ s h=>fU λ v os e=>h _ os (DN e)
 | splitOn =>
  refine cV (motive:=λ x=>∀ r os,M1 .splitOn x y σ r→K r os) h λ s h=>cV (motive:=λ y=>∀ r os,M1 .splitOn (.str s) y σ r→K r os) h λ t h=>?_
  cases t with
  | nil=>trivial
  | cons c t=>cases t with
   | nil=>exact λ l=>h _ os (un l)
   | cons=>trivial
 | endswith=>exact cV (motive:=λ x=>∀ r os,M1 .endswith x y σ r→K r os) h λ s h=>cV (motive:=λ y=>∀ r os,M1 .endswith (.str s) y σ r→K r os) h λ t h=>li λ v os e=>ri (Option.some.inj e) (h _ os Ek)
 | startswith=>exact cV (motive:=λ x=>∀ r os,M1 .startswith x y σ r→K r os) h λ s h=>cV (motive:=λ y=>∀ r os,M1 .startswith (.str s) y σ r→K r os) h λ t h=>li λ v os e=>ri (Option.some.inj e) (h _ os xS)
 | index=>exact cV (motive:=λ x=>∀ r os,M1 .index x y σ r→K r os) h λ s h=>cV (motive:=λ y=>∀ r os,M1 .index (.str s) y σ r→K r os) h λ t h=>fU λ v os e=>(O9.mp e).elim λ i w=>ri w.2 (h _ os (Bv w.1))
 | extend=>exact pQ λ v σ' os e=>h _ os (Hw e)
 | append=>exact pQ λ v σ' os e=>h _ os (Ic e)
 | _=>trivial
theorem G3 {p:Fn}{x y z:PV}(h:∀ r os,M2 p x y z σ r→K r os):MX p x y z σ os K:=by
 cases p with
 | get=>exact fU λ v os e=>h _ os (DZ e)
 | insert=>exact pQ λ v σ' os e=>h _ os (Hh e)
 | _=>trivial
theorem Cc {P:aY PV→Prop}(h:∀ r os,P r→K r os):Cd P σ os K:=by
 unfold Cd
 cases hd os with
 | v x=>exact λ p=>h _ _ p
 | r x σ'=>exact λ p=>h _ _ p
 | x c a σ'=>exact λ p=>h _ _ p
 | _=>trivial
theorem Cp {x y:PV}(h:∀ r os,de .Add x y σ r→K r os):Cq x y σ os K:=by
 unfold Cq
 cases hd os with
 | l xs ys=>exact λ a b c=>h _ _ (EM a b c)
 | _=>trivial
end
end
noncomputable section
theorem Eh {n:Nat}{ρ:am}{σ:aa}{r:aY PV}{a b:IE}(k:dc (Ev n a ρ σ) (λ x σ₁=>QB (Ev n b ρ σ₁) (·=.ok (.bool false) σ₁) x) r):Ev n (.andv a b) ρ σ r:=.ofV (λ Z9 Z9=>rfl) (λ Z9 Z9=>rfl) λ X e Φ fx d h vis=>qk e h λ o x y l p h =>
 beq_iff_eq.mp (aj (aj (aj h)))▸S6.mp (aE (aj (aj h)))▸(J.seqV k (W:=λ v Q E s=>wpAny X.M X.A (truthy v) (λ c s₂=>if c then wpAny X.M X.A (eval (.BoolOp .And [y] p) X.env) Q E s₂ else Q v s₂) E s) (λ Z9 ha=>ha.v X x Φ fx d (aE (aj h)) vis) λ x σ₁ k va s β Q E a g po=>by
  rcases k with ⟨rfl,k⟩ | ⟨rfl,k⟩
  ·cases (show va=.bool true from g.1)
   exact wpAny_truthy_bool (k.v X y Φ fx d (aE h) vis s β Q E a trivial po)
  ·cases (show va=.bool false from g.1)
   exact wpAny_truthy_bool ((show fu X Φ (bj X.S) bD β Q E (.ok (.bool false) σ₁) from ri k po) _ _ β a .rfl' rfl)).map λ Z9 Z9 Z9=>BoolOp_and
theorem FY {b:Bool}{k:Prop}(h:b=true→k):bl b k:=by cases b<;>first | trivial | exact h rfl
theorem DP {P:aY PV→Prop}{σ:aa}{os:List OV}{K:KO PV}{d:Prop}(h:∀ r os,P r→K r os)(hd:d):Hc P σ os K d:=by
 unfold Hc
 split
 ·exact λ p=>h _ _ p
 ·exact hd
theorem tL {P:List PV→Prop}{σ:aa}{os:List OV}{K:KO PV}(h:∀ ys os,P ys→ys.length≤ax→K (.ok (.lst ys) σ) os):B5 P σ os K:=by
 unfold B5
 split
 ·exact λ p q=>h _ _ p q
 ·trivial
theorem oi {α:Type}{f:Option α}{k:α→Prop}(h:∀ x,f=some x→k x):au f k:=by cases f<;>first | trivial | exact h _ rfl
theorem wy {vs:List PV}(h:Nat.ble vs.length 1000=true):vs.length≤ax:=N1 (P9 h) (by decide)
noncomputable def KW (n:Nat)(Γ:Gs)(e:IE):Prop:=∀ ρ σ os K,(∀ r os,Ev n e ρ σ r→K r os)→t6 Γ e ρ σ os K
section
variable {n:Nat} {Γ:Gs}
structure Li (n:Nat) (Γ:Gs):Prop where
 g:Γ.g=kZ
 fld:Γ.fld=fk
 call:∀ f vs σ r,Γ.call f vs σ r→ar n f vs σ r
 ev:∀ e ρ σ r,Γ.ev e ρ σ r→Ev n e ρ σ r
 st:∀ e ρ σ r,Γ.st e ρ σ r→St n e ρ σ r
 sorted:∀ x σ v,oS σ x=some v→t8 .sorted x σ v
theorem iX {x:PV}{a b:Prop}{P:PV→Prop}(h:P x)(ha:P (.bool true)→a)(hb:P (.bool false)→b):Fb x a b:=by
 cases x with
 | bool c=>cases c with
  | true=>exact ha h
  | false=>exact hb h
 | _=>trivial
theorem cY (G:Li n Γ)(e:IE):KW n Γ e:=e.rec (motive:=KW n Γ)
 (c:=λ v ρ σ os K h=>h _ _ dI)
 (v:=λ i ρ σ os K h=>by
  exact oi λ v e=>h _ _ (dG e))
 (g:=λ i ρ σ os K h=>by
  exact oi λ v e=>h _ _ (u7 (ri G.g e)))
 (bin:=λ o a b ha hb ρ σ os K h=>aQ (ha ρ σ) (λ r os q=>h r os (u8 q)) λ x σ₁ os h=>aQ (hb ρ σ₁) h λ y σ₂ os h=>ED λ v q=>h _ os q)
 (addl:=λ a b ha hb ρ σ os K h=>aQ (ha ρ σ) (λ r os q=>h r os (Ei q)) λ x σ₁ os h=>aQ (hb ρ σ₁) h λ y σ₂ os h=>Cp h)
 (neg:=λ a ha ρ σ os K h=>aQ (ha ρ σ) (λ r os q=>h r os (HE q)) λ x σ₁ os h=>by
  cases x with
  | int i=>exact h _ _ ⟨i,rfl,rfl⟩
  | _=>trivial)
 (nott:=λ a ha ρ σ os K h=>aQ (ha ρ σ) (λ r os q=>h r os (w3 q)) λ x σ₁ os h=>iX (P:=λ x=>∀ r os,QB (·=.ok (.bool false) σ₁) (·=.ok (.bool true) σ₁) x r→K r os) h (λ h=>h _ _ (.inl ⟨rfl,rfl⟩)) λ h=>h _ _ (.inr ⟨rfl,rfl⟩))
 (and:=λ a b ha hb ρ σ os K h=>aQ (ha ρ σ) (λ r os q=>h r os (BQ q)) λ x σ₁ os h=>iX (P:=λ x=>∀ r os,QB (Ev n b ρ σ₁) (·=.ok (.bool false) σ₁) x r→K r os) h (λ h=>hb ρ σ₁ os K λ r os q=>h _ _ (.inl ⟨rfl,q⟩)) λ h=>h _ _ (.inr ⟨rfl,rfl⟩))
 (or:=λ a b ha hb ρ σ os K h=>aQ (ha ρ σ) (λ r os q=>h r os (FJ q)) λ x σ₁ os h=>iX (P:=λ x=>∀ r os,QB (·=.ok (.bool true) σ₁) (Ev n b ρ σ₁) x r→K r os) h (λ h=>h _ _ (.inl ⟨rfl,rfl⟩)) λ h=>hb ρ σ₁ os K λ r os q=>h _ _ (.inr ⟨rfl,q⟩))
 (andv:=λ a b ha hb ρ σ os K h=>aQ (ha ρ σ) (λ r os q=>h r os (Eh q)) λ x σ₁ os h=>iX (P:=λ x=>∀ r os,QB (Ev n b ρ σ₁) (·=.ok (.bool false) σ₁) x r→K r os) h (λ h=>hb ρ σ₁ os K λ r os q=>h _ _ (.inl ⟨rfl,q⟩)) λ h=>h _ _ (.inr ⟨rfl,rfl⟩))
 (ite:=λ c a b hc ha hb ρ σ os K h=>DP (λ r os q=>h r os (G.ev _ _ _ _ q)) (aQ (hc ρ σ) (λ r os q=>h r os (dU q)) λ x σ₁ os h=>iX (P:=λ x=>∀ r os,QB (Ev n a ρ σ₁) (Ev n b ρ σ₁) x r→K r os) h (λ h=>ha ρ σ₁ os K λ r os q=>h _ _ (.inl ⟨rfl,q⟩)) λ h=>hb ρ σ₁ os K λ r os q=>h _ _ (.inr ⟨rfl,q⟩)))
 (cmp:=λ o a b ha hb ρ σ os K h=>aQ (ha ρ σ) (λ r os q=>h r os (gS q)) λ x σ₁ os h=>aQ (hb ρ σ₁) h λ y σ₂ os h=>li λ v os e=>h _ os ⟨v,dl e,rfl⟩)
 (cmp2:=λ o1 o2 a b c ha hb hc ρ σ os K h=>aQ (ha ρ σ) (λ r os q=>h r os (w6 q)) λ x σ₁ os h=>aQ (hb ρ σ₁) h λ y σ₂ os h=>li λ v os e=>iX (P:=λ q=>q=.bool v) rfl (λ e'=>aQ (hc ρ σ₂) (λ r os q=>h r os ⟨v,dl e,.inl ⟨e'.symm,q⟩⟩) λ z σ₃ os h=>li λ v' os e''=>h _ os ⟨v',dl e'',rfl⟩) λ e'=>h _ os ⟨v,dl e,.inr ⟨e'.symm,rfl⟩⟩)
 (tru:=λ a ha ρ σ os K h=>aQ (ha ρ σ) (λ r os q=>h r os (qF q)) λ x σ₁ os h=>li λ v os e=>h _ os ⟨v,pN e,rfl⟩)
 (fn:=λ p a ha ρ σ os K h=>aQ (ha ρ σ) (λ r os q=>h r os (BP q)) λ x σ₁ os h=>Hu (λ v os e=>h _ os ⟨v,e,rfl⟩) λ v os e q=>h _ os ⟨v,ru e (G.sorted x σ₁ v q),rfl⟩)
 (m0:=λ p a ha ρ σ os K h=>aQ (ha ρ σ) (λ r os q=>h r os (Kz q)) λ x σ₁ os h=>G5 λ v os e=>h _ os ⟨v,e,rfl⟩)
 (m1:=λ p a b ha hb ρ σ os K h=>aQ (ha ρ σ) (λ r os q=>h r os (Ky q)) λ x σ₁ os h=>rU λ os e=>aQ (hb ρ σ₁) (λ r os q=>h r os ⟨e,q⟩) λ y σ₂ os h=>G4 h)
 (m2:=λ p a b c ha hb hc ρ σ os K h=>aQ (ha ρ σ) (λ r os q=>h r os (Kx q)) λ x σ₁ os h=>rU λ os e=>aQ (hb ρ σ₁) (λ r os q=>h r os ⟨e,q⟩) λ y σ₂ os h=>aQ (hc ρ σ₂) h λ z σ₃ os h=>G3 h)
 (call:=λ f as ha ρ σ os K h=>aQ (ha ρ σ) (λ r os q=>h r os (xa q)) λ x σ₁ os h=>iW (motive:=λ x=>∀ r os,(∃ vs,x=.tup vs∧ar n f vs σ₁ r)→K r os) h λ vs h=>Cc λ r os q=>h r os ⟨vs,rfl,G.call f vs σ₁ r q⟩)
 (new:=λ c ρ σ os K h=>by
  show K _ os
  refine ru G.fld ?_
  exact h _ _ HC)
 (idx:=λ a i ha hb ρ σ os K h=>aQ (ha ρ σ) (λ r os q=>h r os (i9 q)) λ x σ₁ os h=>aQ (hb ρ σ₁) h λ y σ₂ os h=>fU λ v os e=>h _ os ⟨v,i6 e,rfl⟩)
 (slice:=λ a b c ha hb hc ρ σ os K h=>aQ (ha ρ σ) (λ r os q=>h r os (tr q)) λ x σ₁ os h=>aQ (hb ρ σ₁) h λ y σ₂ os h=>aQ (hc ρ σ₂) h λ z σ₃ os h=>fU λ v os e=>h _ os ⟨v,rJ e,rfl⟩)
 (attr:=λ a nm ha ρ σ os K h=>aQ (ha ρ σ) (λ r os q=>h r os (Eg q)) λ x σ₁ os h=>fU λ v os e=>h _ os ⟨v,EI e,rfl⟩)
 (tup:=λ as ha ρ σ os K h=>aQ (ha ρ σ) (λ r os q=>h r os (HA q)) λ x σ₁ os h=>iW (motive:=λ x=>∀ r os,(∃ vs,x=.tup vs∧vs.length≤ax∧r=.ok x σ₁)→K r os) h λ vs h=>FY λ e=>h _ os ⟨vs,rfl,wy e,rfl⟩)
 (lst:=λ as ha ρ σ os K h=>aQ (ha ρ σ) (λ r os q=>h r os (HF q)) λ x σ₁ os h=>iW (motive:=λ x=>∀ r os,(∃ vs,x=.tup vs∧vs.length≤ax∧r=.ok (.lst vs) σ₁)→K r os) h λ vs h=>FY λ e=>h _ os ⟨vs,rfl,wy e,rfl⟩)
 (nil:=λ ρ σ os K h=>h _ _ HB)
 (dct0:=λ ρ σ os K h=>h _ _ Ef)
 (dctc:=λ ks vs ρ σ os K h=>h _ _ Ee)
 (comp:=λ elt single nt it cond mask Z9 hi Z9 ρ σ os K h=>aQ (hi ρ σ) (λ r os q=>h r os (qG G.ev q)) λ x σ₁ os h=>oi λ xs e=>tL λ ys os p q=>h _ os ⟨xs,ys,e,p,q,rfl⟩)
 (nl:=λ ρ σ os K h=>h _ _ Kw)
 (cs:=λ a b ha hb ρ σ os K h=>aQ (ha ρ σ) (λ r os q=>h r os (KA q)) λ x σ₁ os h=>aQ (hb ρ σ₁) h λ w σ₂ os h=>iW (motive:=λ w=>∀ r os,(∃ vs,w=.tup vs∧r=.ok (.tup (x::vs)) σ₂)→K r os) h λ vs h=>h _ _ ⟨vs,rfl,rfl⟩)
end
end
noncomputable section
theorem sj {P:aY cO→Prop}{os:List OV}{K:KO cO}(h:∀ r os,P r→K r os):wv P os K:=by
 unfold wv
 cases hd os with
 | n ρ σ=>exact λ p=>h _ _ p
 | r x σ=>exact λ p=>h _ _ p
 | x c a σ=>exact λ p=>h _ _ p
 | _=>trivial
set_option tactic.hygienic true in
theorem Am {o:aY cO}{k k':am→aa→Prop}{d:Prop}(h:∀ ρ σ,k ρ σ→k' ρ σ)(x:GD o k d):GD o k' d:=by
 cases o with
 | ok o σ=>cases o with
  | next ρ=>exact h _ _ x
  | ret=>exact x
 | exc=>exact x
theorem cE.mp {s s':am→aa→aY cO→Prop}{as kill xs}(h:∀ ρ σ r,s ρ σ r→s' ρ σ r):∀ ρ σ r,cE s as kill xs ρ σ r→cE s' as kill xs ρ σ r:=by
 induction xs with
 | nil=>exact λ Z9 Z9 Z9 x=>x
 | cons x xs ih=>exact λ ρ σ r x=>x.imp λ Z9 x=>x.imp λ Z9 x=>⟨x.1,h _ _ _ x.2.1,Am (λ Z9 Z9=>ih _ _ _) x.2.2⟩
theorem EO.mp {e e':am→aa→aY PV→Prop}{s s':am→aa→aY cO→Prop}{kill k}(g:∀ ρ σ r,e ρ σ r→e' ρ σ r)(h:∀ ρ σ r,s ρ σ r→s' ρ σ r):∀ ρ σ r,EO e s kill k ρ σ r→EO e' s' kill k ρ σ r:=by
 induction k with
 | zero=>exact λ Z9 Z9 Z9 x=>x
 | succ k ih=>exact λ ρ σ r x=>x.imp (λ x=>x.imp λ Z9 x=>⟨g _ _ _ x.1,x.2⟩) λ x=>x.imp λ Z9 x=>x.imp λ Z9 x=>⟨g _ _ _ x.1,h _ _ _ x.2.1,Am (λ Z9 Z9=>ih _ _ _) x.2.2⟩
theorem Gh {P:aY cO→Prop}{os:List OV}{K:KO cO}{d:List OV→Prop}(h:∀ r os,P r→K r os)(hd:∀ os,d os):LB P os K d:=by
 unfold LB
 split
 ·exact λ p=>h _ _ p
 ·exact hd _
 ·exact hd _
noncomputable def Ij (n:Nat)(Γ:Gs)(s:IS):Prop:=∀ ρ σ os K,(∀ r os,St n s ρ σ r→K r os)→IA Γ s ρ σ os K
section
variable {n:Nat} {Γ:Gs}
theorem Ib (G:Li n Γ)(i:Nat)(e:IE):Ij n Γ (.asg i e):=λ ρ σ os K h=>by
 cases hc:qw e with
 | false=>exact aQ (cY G e ρ σ) (λ r os q=>h r os (um hc q)) λ x σ₁ os h=>h _ os rfl
 | true=>cases e with
  | comp elt single nt it cond mask =>
   refine cY G it ρ σ os _ λ r os q=>?_
   cases r with
   | ok x σ₁=>exact oi λ xs e=>tL λ ys os p l=>h _ os (vV G.ev (.inl ⟨x,σ₁,q,ys,⟨xs,ys,e,p,l,rfl⟩,rfl⟩))
   | exc c m σ₁=>exact h _ os (vV G.ev (.inr ⟨c,m,σ₁,q,rfl⟩))
  | _=>exact rh hc
set_option tactic.hygienic true in
theorem BL (G:Li n Γ)(s:IS):Ij n Γ s:=s.rec (motive:=Ij n Γ)
 (ret:=λ e ρ σ os K h=>aQ (cY G e ρ σ) (λ r os q=>h r os (ul q)) λ x σ₁ os h=>h _ os rfl)
 (expr:=λ e ρ σ os K h=>aQ (cY G e ρ σ) (λ r os q=>h r os (CT q)) λ x σ₁ os h=>h _ os rfl)
 (asg:=Ib G)
 (asgT:=λ is e ρ σ os K h=>aQ (cY G e ρ σ) (λ r os q=>h r os (CU q)) λ x σ₁ os h=>oi λ ρ' e=>h _ os ⟨ρ',e,rfl⟩)
 (aug:=λ i e ρ σ os K h=>oi λ x hv=>aQ (cY G e ρ σ) (λ r os q=>h r os (Gg hv q)) λ y σ₁ os h=>EH λ v q=>h _ os ⟨v,q,rfl⟩)
 (setI:=λ d k v ρ σ os K h=>aQ (cY G v ρ σ) (λ r os q=>h r os (CS q)) λ z σ₁ os h=>aQ (cY G d ρ σ₁) h λ x σ₂ os h=>aQ (cY G k ρ σ₂) h λ y σ₃ os h=>pQ λ v σ' os e=>(O9.mp e).elim λ σ'' w=>h _ os ⟨σ',w.1.trans (congrArg some (congrArg Prod.snd w.2)),rfl⟩)
 (iff:=λ c a b ha hb ρ σ os K h=>aQ (cY G c ρ σ) (λ r os q=>h r os (ee q)) λ x σ₁ os h=>iX (P:=λ x=>∀ r os,QB (St n a ρ σ₁) (St n b ρ σ₁) x r→K r os) h (λ h=>ha ρ σ₁ os K λ r os q=>h _ _ (.inl ⟨rfl,q⟩)) λ h=>hb ρ σ₁ os K λ r os q=>h _ _ (.inr ⟨rfl,q⟩))
 (whil:=λ c b kill Z9 ρ σ os K h=>sj (P:=λ r=>∃ k,EO (Γ.ev c) (Γ.st b) kill k ρ σ r) λ r os p=>h r os (CP (p.imp λ k p=>EO.mp (G.ev c) (G.st b) ρ σ r p)))
 (forr:=λ single t it b kill Z9 ρ σ os K h=>aQ (cY G it ρ σ) (λ r os q=>h r os (vU q)) λ x σ₁ os h=>oi λ xs e=>sj λ r os p=>h r os ⟨xs,e,cE.mp (G.st b) _ _ r p⟩)
 (raise:=λ c a ρ σ os K h=>show th (t6 Γ (.cs c (.cs a .nl))) ρ σ os K λ w σ os=>Dk w λ vs=>match vs with | [x,y]=>mY x λ s=>yf y λ i=>K (.exc s i σ) os | _=>True from aQ (cY G (.cs c (.cs a .nl)) ρ σ) (λ r os q=>h r os (zK q)) λ x σ₁ os h=>iW (motive:=λ w=>∀ r os,(∃ s i,w=.tup [.str s,.int i]∧r=.exc s i σ₁)→K r os) h λ vs h=>by
  cases vs with
  | nil=>trivial
  | cons x vs=>cases vs with
   | nil=>trivial
   | cons y vs=>cases vs with
    | nil=>exact cV (motive:=λ x=>∀ r os,(∃ s i,PV.tup [x,y]=.tup [.str s,.int i]∧r=.exc s i σ₁)→K r os) h λ s h=>fg (motive:=λ y=>∀ r os,(∃ s' i,PV.tup [.str s,y]=.tup [.str s',.int i]∧r=.exc s' i σ₁)→K r os) h λ i h=>h _ os ⟨s,i,rfl,rfl⟩
    | cons=>trivial)
 (tryE:=λ e x hn ih ρ σ os K h=>cY G e ρ σ os _ λ r os q=>by
  cases r with
  | ok=>trivial
  | exc c a σ₁=>cases x with
   | none=>exact Hn λ v s e=>h _ os (ru e (CR q rfl))
   | some i =>
    refine ih _ σ₁ os _ λ r os q'=>?_
    cases r with
    | exc=>trivial
    | ok o σ₂=>cases o with
     | ret v=>exact h _ os (CQ q q' rfl)
     | next=>trivial)
 (sk:=λ ρ σ os K h=>h _ os gj)
 (sq:=λ a b ha hb ρ σ os K h=>Gh (λ r os q=>h r os (G.st _ _ _ _ q)) λ os=>aQ (os:=os) (K:=K) (k:=MN (IA Γ b) K) (ha ρ σ) (λ r os q=>h r os (dD q)) λ o σ₁ os h=>by
  cases o with
  | next ρ'=>exact hb ρ' σ₁ os K λ r os q=>h r os q
  | ret v=>exact h _ os rfl)
end
end
noncomputable section
noncomputable def uN (x:Str):List (Str×Value)→Option Value→Option Value
 | [],w=>w
 | q::r,w=>uN x r (if x=q.1 then some q.2 else w)
theorem DG {x:Str}{v:Value}(bs:List (Str×Value)):∀ w,(∀ q∈bs,q.1=x→q.2=v)→(w=some v∨(x,v)∈bs)→uN x bs w=some v:=by
 induction bs with
 | nil=>exact λ w Z9 h=>h.elim id λ m=>o4 m
 | cons q r ih =>
  refine λ w h o=>ih _ (λ q m=>h q (.tail _ m)) (o.elim (λ e=>.inl ?_) λ m=>(Q2.mp m).elim (λ e=>.inl ?_) .inr)
  by_cases e1:x=q.1
  ·exact (if_pos e1).trans (congrArg some (h q N2 e1.symm))
  ·exact (if_neg e1).trans e
  ·subst e;exact if_pos rfl
theorem sB {ps:List Str}{vals:List Value}{i:Nat}{x:Str}{v:Value}{w:Option Value}(nd:ps.Nodup)(h1:ps[i]?=some x)(h2:vals[i]?=some v):uN x (ps.zip vals) w=some v :=
 DG _ w (λ q m e=>(V8.mp m).elim λ j z =>
  Option.some.inj ((S1.mp z).2.symm.trans (ru (ig nd (S1.mp z).1 (h1.trans (congrArg some e.symm))) h2))) (.inr (Q1 (S1.mpr ⟨h1,h2⟩)))
theorem Ch {kindOf:Str→Option NameKind}{x:Str}(hk:kindOf x=some .local)(bs:List (Str×Value)):∀ m,bindL kindOf bs m x=uN x bs (m x):=by
 induction bs with
 | nil=>exact λ Z9=>rfl
 | cons q r ih =>
  refine λ m=>(ih _).trans (congrArg (uN x r) ?_)
  by_cases e:x=q.1
  ·exact ru (if_pos (ri e hk)) rfl
  ·split
   ·exact if_neg e
   ·rfl
theorem Ci {kindOf:Str→Option NameKind}{x:Str}(hk:kindOf x=some .cell)(bs:List (Str×Value)):∀ m,bindC kindOf bs m x=uN x bs (m x):=by
 induction bs with
 | nil=>exact λ Z9=>rfl
 | cons q r ih =>
  refine λ m=>(ih _).trans (congrArg (uN x r) ?_)
  by_cases e:x=q.1
  ·exact ru (if_neg (e▸λ z=>nomatch hk.symm.trans z)) rfl
  ·split
   ·rfl
   ·exact if_neg e
section
variable {S:Sy} {B0 h:Heap} {β β':Fz} {σ:aa} {Φ:Ow} {n:Nat}
theorem Do {a:Addr}{o:aN}(x:jf h a λ x=>eH S β a x o)(f:bQ o=true)(k:β.B.StaysIn β'.B)(ka:∀ o,h.get? a=some o→β'.B.get? a=some o):bj S β' (zp o) (.ref a):=by
 obtain ⟨ob,g,x⟩:=x
 have g:=ka _ g
 cases o with
 | lst vs=>exact ⟨(x.free k f).1,(x.free k f).2.elim λ is w=>⟨a,is,rfl,(w.1 _ g).elim λ n z=>⟨_,z,rfl,n,rfl⟩,w.2⟩⟩
 | dctI ks vs=>exact ⟨(x.free k f).1,(x.free k f).2.elim λ is w=>⟨a,is,rfl,⟨ob,g,w.1⟩,w.2⟩⟩
 | dctS ks vs=>exact ⟨(x.free k f).1,(x.free k f).2.elim λ is w=>⟨a,is,rfl,⟨ob,g,w.1⟩,w.2⟩⟩
theorem wY (I:cy S B0 h β σ Φ)(k:β.B.StaysIn β'.B)(hμ:β.μ.take n <+: β'.μ)(ka:∀ (l:Nat) a o,n≤l→β.μ[l]?=some a→h.get? a=some o→β'.B.get? a=some o){v p:PV}{va:Value}(e:nS σ n v=some p)(r:bj S β v va):bj S β' p va:=by
 have key:∀ {v:PV},bj S β v va→(if aS v=true then some v else none)=some p→bj S β' p va:=λ r e=>ri ((cW e).2) (r.free (cW e).1 k)
 cases v with
 | loc l =>
  obtain ⟨a,rfl,ea⟩:=r
  have e:(if l<n then some (PV.loc l) else (σ[l]?).bind λ o=>if bQ o=true then some (zp o) else none)=some p:=e
  by_cases hl:l<n
  ·rw [if_pos hl] at e
   exact ri (Option.some.inj e) (⟨a,rfl,pX hμ ((z0b hl).trans ea)⟩)
  ·rw [if_neg hl] at e
   obtain ⟨o,ho,e⟩:=O5.mp e
   exact ri ((cW e).2) (Do (I.obj l a o ea ho) (cW e).1 k λ o=>ka l a o (z1i hl) ea)
 | _=>exact key r e
theorem qB (I:cy S B0 h β σ Φ)(k:β.B.StaysIn β'.B)(hμ:β.μ.take n <+: β'.μ)(ka:∀ (l:Nat) a o,n≤l→β.μ[l]?=some a→h.get? a=some o→β'.B.get? a=some o)(vs:List PV):∀ {ps is},i3 (nS σ n) vs=some ps→RepL S β vs is→RepL S β' ps is∧ps.length=vs.length:=by
 induction vs with
 | nil=>exact λ e r=>ri (Option.some.inj e) (⟨r,rfl⟩)
 | cons v vs ih =>
  intro ps is e r
  obtain ⟨p,e1,e⟩:=O5.mp e
  obtain ⟨qs,e2,rfl⟩:=O9.mp e
  obtain ⟨va,is,rfl,r1,r2⟩:=r
  exact ⟨⟨va,is,rfl,wY I k hμ ka e1 r1,(ih e2 r2).1⟩,congrArg (·+1) (ih e2 r2).2⟩
theorem Hs (I:cy S B0 h β σ Φ)(k:β.B.StaysIn β'.B)(hμ:β.μ.take n <+: β'.μ)(ka:∀ (l:Nat) a o,n≤l→β.μ[l]?=some a→h.get? a=some o→β'.B.get? a=some o){v p:PV}{va:Value}(e:Ko σ n v=some p)(r:bj S β v va):bj S β' p va:=by
 have key:∀ {v:PV},bj S β v va→nS σ n v=some p→bj S β' p va:=λ r e=>wY I k hμ ka e r
 cases v with
 | tup vs =>
  obtain ⟨ps,e',rfl⟩:=O9.mp e
  obtain ⟨hl,a,is,e1,t,r⟩:=r
  exact ⟨ru (qB I k hμ ka vs e' r).2 hl,a,is,e1,rj t k,(qB I k hμ ka vs e' r).1⟩
 | inst c ks vs =>
  obtain ⟨ps,e',rfl⟩:=O9.mp e
  exact r.mp (λ Z9 Z9 t=>t.keep k) λ is r=>(qB I k hμ ka vs e' r).1
 | _=>exact key r e
theorem Hv {mv:Bool}{v:PV}{va:Value}{q:PV×aa}(I:cy S B0 h β σ Φ)(e:gA mv n σ v=some q)(r:bj S β v va)(hn:n≤β.μ.length)(hk:∀ q∈Φ,q.k≤n):∃ β',cy S B0 h β' q.2 Φ∧Le (β.tk n) β'∧bj S β' q.1 va:=by
 unfold gA at e
 by_cases hf:(σ.take n).all bQ=true
 ·rw [if_pos hf] at e
  have off:∀ (l:Nat) a,n≤l→β.μ[l]?=some a→a∉β.μ.take n++dL Φ:=λ l a hl ea m=>(R0.mp m).elim (λ m=>(V8.mp m).elim λ j ej=>by
   have hj:=(O6.mp ej).1
   rw [V1] at hj
   have hj:j<n:=S7 hj (Z0 _ _)
   rw [z0b hj] at ej
   exact W5.mpr hl (ru (ig (Q0.mp I.nd).1 ea ej) hj)) λ m=>I.apart (Q1 ea) m rfl
  cases mv with
  | false =>
   obtain ⟨p,e',rfl⟩:=O9.mp e
   obtain ⟨β',I',l,eμ,fz⟩:=(I.cut n hf hn hk).keeps (λ Z9 Z9 e=>e)
   exact ⟨β',I',l,Hs I l.b (ru eμ (z0f _)) (λ l a o hl ea g=>fz a o (off l a hl ea) g) e' r⟩
  | true=>cases v with
   | loc l =>
    dsimp only at e
    by_cases hl:l<n
    ·rw [if_pos hl] at e;exact b2 e
    ·rw [if_neg hl] at e
     obtain ⟨o,ho,e⟩:=O5.mp e
     obtain ⟨vs,hv,e⟩:=O5.mp e
     obtain ⟨a,rfl,ea⟩:=r
     cases o with
     | lst ws =>
      cases Option.some.inj hv
      have w:=(I.cut n hf hn hk).addσ (λ Z9 Z9 e=>e) (a:=a) (o:=.lst vs) ⟨off l a (z1i hl) ea,I.hid a (O7 _ (Q1 ea))⟩ ((I.obj l a _ ea ho).mp λ Z9 y=>eH.free (β:=β) (β':=β.tk n) (λ Z9 Z9 e=>e) (cW e).1 y)
      refine ⟨_,ri (cW e).2 w.1,w.2,ri (cW e).2 (⟨a,rfl,?_⟩)⟩
      exact (congrArg (λ i=>(β.μ.take n++[a])[i]?) (by exact ru V1 (ru (V0 hn) rfl):(β.μ.take n).length=n).symm).trans S9
     | _=>exact b2 hv
   | _=>exact b2 e
 ·rw [if_neg hf] at e;exact b2 e
end
set_option tactic.hygienic true in
noncomputable def fq (mv:Bool)(n:Nat)(ro:aY cO)(r:aY PV):Prop:=match ro with
 | .ok o σ'=>(match o with
  | .next _=>(σ'.take n).all bQ=true∧r=.ok .none (σ'.take n)
  | .ret v=>∃ q,gA mv n σ' v=some q∧r=.ok q.1 q.2)
 | .exc c a σ'=>(σ'.take n).all bQ=true∧r=.exc c a (σ'.take n)
noncomputable def oL (fd:Fd)(vs:List PV):am:=vs.map some++List.replicate (fd.nslots-fd.nargs) none
theorem q8 {fd:Fd}{vs:List PV}{i:Nat}{p:PV}(h:cT (oL fd vs) i=some p):vs[i]?=some p:=by
 obtain ⟨o,e,rfl⟩:=O5.mp h
 unfold oL at e
 rcases Nat.lt_or_ge i (vs.map some).length with hi | hi
 ·rw [S3 hi] at e
  exact (dw e).elim λ q w=>ri (Option.some.inj w.2) w.1
 ·rw [T8 hi] at e
  exact Jf (List.eq_of_mem_replicate (Q1 e))
noncomputable abbrev Cx.fn (X:Cx)(env:Env)(slots:List Str)(n:Nat):Cx:={ X with env:=env,A:=X.A.deeper env,l:=env::X.l,slots:=slots,d:=n }
section
variable {X:Cx} {n:Nat} {Φ Ψ:Ow} {s:Shared} {β β':Fz} {σ σ':aa}
theorem lq.fn {env:Env}{slots:List Str}(fx:lq X)(d:X.d=n+1)(k:env.scope.kind=.function)(g:env.globals=mainGlobals)(b:env.builtins=builtinsNs):lq (X.fn env slots n) where
 kind:=k
 glob:=g
 blt:=b
 frames:=Around.frames_deeper fx.frames
 roomU:=by have:=fx.roomU;rw [d] at this;show X.A.units+3+40*n+200<cLine;(first | lia | omega)
 roomD:=by have:=fx.roomD;rw [d] at this;show X.A.depth+1+n+5<recursionLimit;(first | lia | omega)
 top:=fx.top
 hok:=fx.hok
theorem At.ks (a:At X s β σ Φ):∀ q∈Φ,q.k≤σ.length:=λ q m=>ri a.2.len ((a.2.own q m).1)
theorem Le.cut (l:Le β β')(hn:β.μ.length=n):Le β (β'.tk n):=⟨l.b,⟨[],(O3 _).trans (by show _=β'.μ.take n;exact ri hn (ru (ry l.m (N8 _)) (ru W3 rfl)))⟩⟩
set_option tactic.hygienic true in
theorem qR {f:Nat}{vs:List PV}{r:aY PV}{fd:Fd}{ro:aY cO}(hf:lC f=some fd)(hl:vs.length=fd.nargs)(hs:St n fd.body (oL fd vs) σ ro)(hr:fq fd.moves σ.length ro r):ar (n+1) f vs σ r:=λ X fd' fr fa Φ fx d hf' FP FC hn stk s β Q E vals a rv po=>by
 cases Option.some.inj (hf.symm.trans hf')
 have F:=FP.keep a.ns
 refine wpAny_call (codeAny_call_function (fd:=fr.fd) (body:=fr.body) (by have:=fx.roomD;(first | lia | omega)) F.get rfl F.co F.gen rfl F.code ?_)
 refine ru (FP.bind vals (rv.length.trans (hl.trans FC.na):vals.length=fr.ps.length)) ?_
 refine wpAny_pure (wpAny_newFunctionEnv_cells F.kind (λ z mz=>(FC.par _ (z1l mz).1).imp id λ q=>⟨q,cellsFrom_some _ _ _ (.inl q)⟩) λ env he s₁ hin=>?_)
 have sm:s₁.os=s.os∧s₁.gens=s.gens:=by obtain ⟨h,tk,e⟩:=hin.toInCall.same;refine ru e ?_;exact ⟨rfl,rfl⟩
 refine ⟨(fx.top.nolimit.keeps a.ns).keeps hin.toInCall.keep,codeAny_func ?_⟩
 have eS:env.scope=fr.scope:=by refine ru he ?_;rfl
 have eK:∀ x,env.kindOf x=fr.scope.names.lookup x:=λ x=>by refine ru he ?_;rfl
 have eC:env.cells=cellsFrom (s.heap.objs.size+1) fr.scope.names []:=by refine ru he ?_;rfl
 have eF:env.frame=some env.locals:=by refine ru he ?_;rfl
 have fx':lq (X.fn env fr.slots n):=fx.fn d (by refine ru eS ?_;exact F.kind) (by refine ru he ?_;rfl) (by refine ru he ?_;rfl)
 have cn:env.cells.map (·.1)=(cellsFrom 0 fr.scope.names []).map (·.1):=by refine ru eC ?_;exact cellsFrom_names _ _ _ _ _ rfl
 have cnd:(env.cells.map (·.1)).Nodup:=ru cn FC.ndc
 have ck:∀ c∈env.cells,env.kindOf c.1=some .cell:=λ c m=>(S0.mp (show c.1∈(cellsFrom 0 fr.scope.names []).map (·.1) from ri cn (R6 (f:=λ c:Str×Addr=>c.1) m))).elim λ c' w=>(eK _).trans (ri w.2 (FC.celk c' w.1))
 have ok:re (X.fn env fr.slots n) Φ:=⟨fx',FC.nds,λ x h=>z1t.mp (by show (env.cells.lookup x).isSome=true;refine ru eC ?_;exact cellsFrom_some _ _ _ (.inl ((eK x).symm.trans h))),ck,cnd,⟨X.l,rfl,stk⟩,eF⟩
 have psn:fr.ps.Nodup:=FC.nds.sublist (z1u _ _)
 have at_:∀ {i:Nat} {x:Str} {p:PV},fr.slots[i]?=some x→cT (oL fd vs) i=some p→∃ v,fr.ps[i]?=some x∧vals[i]?=some v∧bj X.S β p v:=λ {i x p} h1 h2 =>
  (rv.get (q8 h2)).imp λ v w=>⟨(S3 (z2v (O6.mp w.1).1 (rv.length.trans (hl.trans FC.na):vals.length=fr.ps.length))).symm.trans h1,w⟩
 have hi:∀ y∈dL (bM (X.fn env fr.slots n) (oL fd vs) β.μ.length),s.heap.objs.size≤y:=λ y m=>by
  rw [fb] at m
  exact (Q2.mp m).elim (λ e=>ru e hin.toInCall.fresh) λ m=>(S0.mp m).elim λ c w=>ri w.2 (T3 (O0 hin.toInCall.fresh (hin.above c.1 c.2 w.1)))
 have a':At (X.fn env fr.slots n) s₁ β σ (bM (X.fn env fr.slots n) (oL fd vs) β.μ.length++Φ):=by
  refine ⟨⟨sm.1.trans a.1.1,sm.2.trans a.1.2⟩,a.2.addL hin.toInCall.keep ?_ (λ y m=>a.2.fresh (Heap.get?_none_of_le (hi y m))) λ q m=>?_⟩
  ·refine ru fb ?_
   exact Q9.mpr ⟨λ m=>(S0.mp m).elim λ c w=>z0y _ (w.2▸hin.above c.1 c.2 w.1),z3d.mpr hin.apart⟩
  ·rcases Q2.mp m with e | m
   ·exact ru e (lH.now ((pG hin.toInCall.ns).imp λ o w=>⟨w.1,_,w.2,λ q m=>(fB m).elim λ i w=>(at_ w.1 w.2.1).imp λ v z=>⟨(Ch (beq_iff_eq.mp w.2.2) _ _).trans (sB psn z.1 z.2.1),z.2.2⟩⟩))
   ·obtain ⟨c,mc,rfl⟩:=S0.mp m
    refine lH.now ((hin.cell c.1 c.2 (lookup_of_mem_nodup cnd mc)).elim λ o w=>⟨o,w.1,_,λ h e=>⟨o,e,w.2⟩,λ q m=>(fB m).elim λ i z=>(at_ z.1 z.2.1).imp λ v y=>⟨?_,y.2.2⟩⟩)
    exact (Ci (ck c mc) _ _).trans (ri (beq_iff_eq.mp z.2.2:q.1=c.1) (sB psn y.1 y.2.1))
 have cut:∀ {s' β' σ' Ψ},At X s' β' σ' (Ψ++Φ)→Le β β'→(σ'.take σ.length).all bQ=true→At X s' (β'.tk σ.length) (σ'.take σ.length) Φ∧Le β (β'.tk σ.length):=λ {s' β' σ' Ψ} a' l hf=>⟨⟨a'.1,(a'.2.drop (Ψ:=Ψ)).cut _ hf (ri a.2.len l.m.length_le) a.ks⟩,l.cut a.2.len⟩
 refine hs.ss (X.fn env fr.slots n) fr.body Φ ok rfl hn (by show (lK fd.body (B9 env.scope fr.slots)).ss fr.body=true;refine ru eS ?_;exact FC.rel) s₁ β β.μ.length _ _ a' trivial ?_
 cases ro with
 | ok o σ'=>cases o with
  | next ρ'=>exact λ s' β' k a₂ l=>(show fu X Φ (bj X.S) bD β Q E (.ok .none (σ'.take σ.length)) from ri hr.2 po) _ s' _ (cut a₂ l hr.1).1 (cut a₂ l hr.1).2 rfl
  | ret v=>exact λ w s' β' ρ' k a₂ l rw'=>hr.elim λ q z=>(Hv (a₂.2.drop (Ψ:=bM _ _ _)) z.1 rw' (ri a.2.len l.m.length_le) a.ks).elim λ β₃ y=>(show fu X Φ (bj X.S) bD β Q E (.ok q.1 q.2) from ri z.2 po) w s' β₃ ⟨a₂.1,y.1⟩ ((l.cut a.2.len).trans y.2.1) y.2.2
 | exc c x σ' =>
  refine λ ea dd s' md β' ρ' k hm a₂ l xd=>AZ (X:=X.fn env fr.slots n) fx'.frames rfl eF ok.vis.stk hm a₂ λ s'' T a₃=>?_
  have a₄:At X s'' β' σ' (qD X.A.handled ea dd (.fly T)++Φ):=⟨a₃.1,a₃.2.sub (by
   have nd:=(Q0.mp a₃.2.nd).2.1
   rw [dL,P6,P6] at nd
   (rewrite [dL];refine ru P6 ?_)
   exact nd.sublist ((List.sublist_append_right _ _).append_left _)) λ q m=>(R0.mp m).elim (O7 _) λ m=>O8 _ (O8 _ m)⟩
  have nk:∀ q∈qD X.A.handled ea dd (.fly T)++Φ,q.k≤σ.length:=λ q m=>(R0.mp m).elim (λ m=>by
   rcases Q2.mp m with e | m
   ·exact ru e (P4 _)
   ·exact ru (P7.mp m) (P4 _)) (a.ks q)
  exact (show fu X Φ (bj X.S) bD β Q E (.exc c x (σ'.take σ.length)) from ri hr.2 po) ea dd s'' (.fly T) (β'.tk σ.length) trivial ⟨a₄.1,a₄.2.cut _ hr.1 (ri a.2.len l.m.length_le) nk⟩ (l.cut a.2.len) xd
end
end
end Mine
end
section
open PySem
namespace Mine
noncomputable section
open PySem.W PyProof.Rows PySem.Calls
noncomputable def H3:FuncBody→List Stmt
 | .stmts b=>b
 | _=>[]
noncomputable def No (o:Option Obj):rf:=match o with
 | some ⟨oc,od,.func f,osl⟩=>⟨oc,od,osl,f.name,f.qualname,f.params,H3 f.body,f.scope,f.defaults,f.kwdefaults,f.doc,f.pyModule,f.annotations,f.code,f.closureTuple⟩
 | _=>⟨.none,none,#[],default,default,default,[],default,.none,.none,.none,.none,none,.none,.none⟩
noncomputable def rf.obj (r:rf):Obj:=⟨r.oc,r.od,.func r.fd,r.osl⟩
noncomputable def yO:List Addr:=[53,60,65,72,95,102,109,165,172,179,186,193,200,207,214,221,228,235,242,249,256,263,270,277,284,291,298,305,312,469,476,483,490,495,500,505,510,517,524]
noncomputable def oj:List Addr:=529::130::151::28::yO
noncomputable def NA (K:Frag)(r:rf):Bool:=codeIn K r.cdv r.qual&&(!r.scope.isCoroutine&&(!r.scope.isGenerator&&(r.scope.kind==.function)))
noncomputable def qe {α:Type}[BEq α]:List α→Bool
 | []=>true
 | a::l=>!l.contains a&&qe l
noncomputable def Ht (fd:Fd)(r:rf):Bool:=(r.ps.all λ x=>r.scope.names.lookup x==some .local||r.scope.names.lookup x==some .cell)&&(qe r.slots&&(qe ((cellsFrom 0 r.scope.names []).map (·.1))&&(((cellsFrom 0 r.scope.names []).all λ c=>r.scope.names.lookup c.1==some .cell)&&(Nat.beq fd.nargs r.ps.length&&(Nat.beq fd.nslots r.slots.length&&(lK fd.body (B9 r.scope r.slots)).ss r.body)))))
noncomputable def iU (K:Frag)(a:Addr):rf:=No (K.lookup a)
structure xF (K:Frag):Prop where
 get:(oj.map λ a=>K.lookup a)=oj.map λ a=>some (iU K a).obj
 bind:∀ f:Nat→Value,(oj.map λ a=>bindArgs (iU K a).fd ⟨(List.range (iU K a).ps.length).map f,[]⟩)=oj.map λ a=>pure ((iU K a).ps.zip ((List.range (iU K a).ps.length).map f))
 ok:(oj.all λ a=>NA K (iU K a))=true
 rel:((yO.zip (List.range 39)).all λ q=>match lC q.2 with | some fd=>Ht fd (iU K q.1)&&!nt fd.body | none=>false)=true
 rel39:Ht ⟨1,12,false,nE⟩ (iU K 529)=true
theorem xF.fn {K:Frag}(H:xF K){h:Heap}(X:K.In h){a:Addr}(m:a∈oj):F2 h a (iU K a):=by
 have ok:=N4.mp (O2.mp H.ok a m)
 have no:∀ {b:Bool},(!b)=true→b=false:=λ {b}=>by cases b<;>first | exact λ Z9=>rfl | exact λ h=>h.symm
 refine ⟨X a _ (W0.mp H.get a m),codeRec_of X ok.1,no (N4.mp ok.2).1,no (N4.mp (N4.mp ok.2).2).1,beq_iff_eq.mp (N4.mp (N4.mp ok.2).2).2,λ vals hl=>?_⟩
 have e:(List.range vals.length).map (λ i=>vals[i]?.getD .none)=vals:=List.ext_getElem (by exact ru (N3 ..) (ru Q4 rfl)) λ i h1 h2=>by refine ru (List.getElem_map ..) (ru (Z3 ..) (ru (O4 h2) ?_));rfl
 rw [hl] at e
 refine ri e ?_
 exact W0.mp (H.bind _) a m
end
noncomputable section
open PySem.W PyProof.Rows PySem.Calls
noncomputable def Mw (es:List DictEntry)(ep:Nat):Obj:=⟨.type "dict",none,.dict es.toArray ep,#[]⟩
noncomputable def u9 (K:Frag)(a:Addr):List DictEntry:=match K.lookup a with
 | some ⟨_,_,.dict es _,_⟩=>es.toList
 | _=>[]
noncomputable def Mv (K:Frag)(a:Addr):Nat:=match K.lookup a with
 | some ⟨_,_,.dict _ ep,_⟩=>ep
 | _=>0
noncomputable def Lr (is:List Value)(sz:Nat)(d:Option Addr)(sl:Array (Option Value)):Obj:=⟨.type "tuple",d,.seq is.toArray sz,sl⟩
noncomputable def EV (o:Option Obj)(k:List Value→Bool):Bool:=match o with
 | some o=>(match o.cls with | .type T=>T=="tuple" | _=>false)&&(match o.data with | .seq items _=>k items.toList | _=>false)
 | none=>false
theorem CL {o:Option Obj}{k}(h:EV o k=true):∃ is sz d sl,o=some (Lr is sz d sl)∧k is=true:=by
 cases o with
 | none=>exact ff h
 | some o =>
  obtain ⟨c,d,x,sl⟩:=o
  have h:=an h
  cases c with
  | type T=>cases x with
   | seq items sz=>exact ⟨_,_,_,_,congrArg (λ T=>some (⟨.type T,d,.seq items sz,sl⟩:Obj)) (beq_iff_eq.mp h.1),h.2⟩
   | _=>exact ff h.2
  | _=>exact ff h.1
noncomputable def xI {α:Type}(f:α→Value→Bool):List α→List Value→Bool
 | [],l=>l.isEmpty
 | p::ps,l=>match l with
  | []=>false
  | v::r=>f p v&&xI f ps r
noncomputable def G7 (K:Frag)(n:Nat):PV→Value→Bool:=n.rec (λ Z9 Z9=>false) λ Z9 ih p v=>match p with
 | .int i=>(match v with | .int j _=>decide (j=i) | _=>false)
 | .str s=>(match v with | .str x _=>(Nat.ble s.length 1000&&s.all λ c=>Nat.blt c 1114112)&&decide (x=aG s) | _=>false)
 | .tup vs=>(match v with | .ref a=>Nat.ble vs.length 1000&&EV (K.lookup a) λ is=>xI ih vs is | _=>false)
 | _=>false
structure Ip (K:Frag) {L:Type} (hf:L→Int) (isf:L→Value→Bool) (a:Addr) (ks:List L) (vs:List PV):Prop where
 at_:K.lookup a=some (Mw (u9 K a) (Mv K a))
 ne:(a==sysModules)=false
 hs:((u9 K a).map λ e=>e.hash)=ks.map hf
 k:xI isf ks ((u9 K a).map (·.key))=true
 v:xI (G7 K 3) vs ((u9 K a).map (·.val))=true
section
variable {S:Sy} {B:Heap} {μ:List Addr} {K:Frag}
theorem vM {f:PV→Value→Bool}(h:∀ p v,f p v=true→bj S ⟨B,μ⟩ p v)(ps:List PV):∀ vs,xI f ps vs=true→RepL S ⟨B,μ⟩ ps vs:=by
 induction ps with
 | nil=>exact λ vs e=>S6.mp e
 | cons p ps ih =>
  intro vs e
  cases vs with
  | nil=>exact ff e
  | cons v r=>exact ⟨v,r,rfl,h p v (aj e),ih r (aE e)⟩
theorem AR (X:K.In B)(n:Nat):∀ p v,G7 K n p v=true→bj S ⟨B,μ⟩ p v:=by
 induction n with
 | zero=>exact λ Z9 Z9 h=>ff h
 | succ n ih =>
  intro p v h
  cases p with
  | int i=>cases v with
   | int j t=>exact ⟨t,congrArg (Value.int · t) (of_decide_eq_true h)⟩
   | _=>exact ff h
  | str s=>cases v with
   | str x t =>
    exact ⟨⟨N1 (P9 (aj (aj h))) (by decide),λ c m=>P9 (O2.mp (aE (aj h)) c m)⟩,t,congrArg (Value.str · t) (of_decide_eq_true (aE h))⟩
   | _=>exact ff h
  | tup vs=>cases v with
   | ref a =>
    obtain ⟨is,sz,d,sl,e,z⟩:=CL (aE h)
    exact ⟨N1 (P9 (aj h)) (by decide),a,is,rfl,⟨_,X _ _ e,rfl,sz,rfl⟩,vM ih _ _ z⟩
   | _=>exact ff h
  | _=>exact ff h
theorem DL {κ L:Type}[DecidableEq κ]{knd:KeyKind S.prog S.w κ}{enc:L→κ}(ks:List L):∀ {es:List DictEntry},(es.map λ e=>e.hash)=(ks.map λ k=>knd.hash (enc k))→xI (λ k v=>knd.is (enc k) v) ks (es.map (·.key))=true→(es.length=ks.length∧∀ e∈es,∃ k,knd.is k e.key=true∧e.hash=knd.hash k)∧Pairs knd es ((ks.map enc).zip (es.map (·.val))):=by
 induction ks with
 | nil=>exact λ h Z9=>by cases z0u.mp h;exact ⟨⟨rfl,O1 _⟩,.nil⟩
 | cons k ks ih =>
  intro es h z
  cases es with
  | nil=>exact ff z
  | cons e r =>
   exact ⟨⟨congrArg (·+1) (ih (z0e h) (aE z)).1.1,N7.mpr ⟨⟨_,(aj z),T9 h⟩,(ih (z0e h) (aE z)).1.2⟩⟩,.cons (aj z) rfl (ih (z0e h) (aE z)).2⟩
theorem xk {κ L:Type}[DecidableEq κ]{knd:KeyKind S.prog S.w κ}{enc:L→κ}(X:K.In B){a:Addr}{ks:List L}{vs:List PV}(D:Ip K (λ k=>knd.hash (enc k)) (λ k v=>knd.is (enc k) v) a ks vs)(hn:(ks.map enc).Nodup):y9 (λ a is=>Lo a B (lr knd enc a ks is)) (RepL S ⟨B,μ⟩ vs) (.ref a) :=
 have w:=DL ks D.hs D.k
 ⟨a,_,rfl,⟨_,X _ _ D.at_,λ h' e'=>⟨((N3 _).trans w.1.1:((u9 K a).map (·.val)).length=ks.length),D.ne,_,(u9 K a).toArray,_,e',⟨rfl,rfl,rfl⟩,rfl,λ e m=>w.1.2 e (z3h.mp m),w.2,by refine ru (z0h (P0 ((N3 _).trans ((N3 _).trans w.1.1:((u9 K a).map (·.val)).length=ks.length).symm))) ?_;exact hn⟩⟩,vM (AR X 3) _ _ D.v⟩
end
end
noncomputable section
open PySem.W PyProof.Rows PySem.Calls
noncomputable def yp (K:Frag):Array DictEntry:=match K.lookup 3 with
 | some ⟨_,_,.dict es _,_⟩=>es
 | _=>#[]
noncomputable def Iz:List Fn:=[.len,.ord,.chr,.str,.list,.tuple,.sorted,.range]
noncomputable def K5 (i:Nat):List Int:=match kZ i with | some (.dctI ks _)=>ks | _=>[]
noncomputable def ML (i:Nat):List PV:=match kZ i with | some (.dctI _ vs)=>vs | _=>[]
noncomputable def Jw (i:Nat):List (List Nat):=match kZ i with | some (.dctS ks _)=>ks | _=>[]
noncomputable def MK (i:Nat):List PV:=match kZ i with | some (.dctS _ vs)=>vs | _=>[]
noncomputable def dA:List (Nat×Addr):=[(17,73),(18,81),(21,110),(22,115),(23,116)]
noncomputable abbrev DI (K:Frag)(i:Nat)(a:Addr):Prop:=Ip K hashInt Value.isInt a (K5 i) (ML i)
noncomputable abbrev DS (K:Frag)(w:World)(i:Nat)(a:Addr):Prop:=Ip K (λ k=>hashStr w (aG k)) (λ k v=>Value.isStrOf (aG k) v) a (Jw i) (MK i)
theorem B7 {K:Frag}{C:Addr}{fs:List (List Nat×Bool)}(m:makesIn K C=true)(sa:findIn K (.ref C) "__setattr__"=some (some (.builtin "object.__setattr__")))(o:plainOver K C=true)(d:hasDictIn K C=true)(k:keepIn K (.ref C)=true)(ng:noGet K none=true)
  (t:(fs.map λ p=>takerIn K C (aG p.1))=fs.map λ Z9=>some none) (g:(fs.map λ p=>plainGet K C (aG p.1))=fs.map λ Z9=>true) (f:(fs.map λ p=>findIn K (.ref C) (aG p.1))=fs.map λ Z9=>some none) (nd:(fs.map (·.1)).Nodup) (le:fs.length≤1000):t3 K C fs :=
 ⟨m,sa,o,d,W0.mp t,λ p w=>⟨W0.mp g p w,d,none,W0.mp f p w,ng⟩,nd,le,k⟩
structure ot (K:Frag) (w:World):Prop where
 d3:∃ o ep,K.lookup 3=some o∧o.data=.dict (yp K) ep
 gv:(uW.all λ q=>match nsFind (yp K) q.1 with
  | some v=>(match dA.lookup q.2 with | some a=>(match v with | .ref b=>Nat.beq b a | _=>false) | none=>(match kZ q.2 with | some p=>G7 K 8 p v | none=>false))
  | none=>false)=true
 nm:(["AsmNames","AsmRows","BadCode"].map λ x=>nsFind (yp K) (Str.ofString x))=[133,154,44].map λ a=>some (.ref a)
 d17:DI K 17 73
 d18:DI K 18 81
 d21:DI K 21 110
 d22:DS K w 22 115
 d23:DS K w 23 116
 bv:(Iz.map λ p=>nsFind (yp K) p.name)=Iz.map λ Z9=>none
 fv:(qC.map λ q=>nsFind (yp K) q.1)=qC.map λ q=>(yO[q.2]?).map .ref
 c0:t3 K 133 (fk 0)
 c1:t3 K 154 (fk 1)
 i:([133,154,44].map λ a=>findIn K (.ref a) "__init__")=[some (some (.ref 130)),some (some (.ref 151)),some (some (.ref 28))]
 t:([130,151,28].map λ a=>typeIn K (.ref a))=[some (.type "function"),some (.type "function"),some (.type "function")]
 ps:([130,151,28].map λ a=>(iU K a).ps)=[[("self":Str)],[("self":Str)],[("self":Str),("code":Str),("at":Str)]]
 loc:([130,151,28].all λ a=>(iU K a).ps.all λ x=>(iU K a).scope.names.lookup x==some .local)=true
 b:(pj (fk 0) (iU K 130).body&&pj (fk 1) (iU K 151).body&&Hz (iU K 28).body)=true
 ex:∃ oC,K.lookup 44=some oC∧fw oC 44
 ck:∀ prog a b,peek K ⟨prog,w.params⟩ (checkBuiltinCall "Exception.__new__" ⟨[.ref 44,a,b],[]⟩)=some ()
 sa:findIn K (.ref 44) "__setattr__"=some (some (.builtin "object.__setattr__"))
 tc:takerIn K 44 "code"=some none
 ta:takerIn K 44 "at"=some none
 keep:keepIn K (.ref 44)=true
 ga:findIn K (.ref 44) "__getattribute__"=some (some (.builtin "BaseException.__getattribute__"))
 gn:findIn K (.ref 44) "__getattr__"=some none
 sub:subIn K (.ref 44) (.type "BaseException")=some true
 dict:hasDictIn K 44=true
 at_:findIn K (.ref 44) "at"=some none
 ng:noGet K none=true
 p39:(iU K 529).ps=[("script":Str)]
 c39:∀ n,cellsFrom n (iU K 529).scope.names []=[(("numbers":Str),n)]
 s39:(iU K 529).scope.kind=.function
section
variable {K:Frag} {w:World} {h:Heap} {mg mb:Str→Option Value}
theorem ot.is (H:ot K w)(X:K.In h)(g:h.Ns mainGlobals mg)(x:Str):mg x=nsFind (yp K) x:=by
 obtain ⟨o,ep,e,d⟩:=H.d3
 obtain ⟨o',es',ep',e1,e2,e3,e4⟩:=g
 have e1:h.get? 3=some o':=e1
 rw [X _ _ e] at e1;cases e1
 rw [d] at e2;cases e2
 exact (e4 x).symm
noncomputable def oB (prog:Program)(w:World)(K:Frag):Sy:=⟨prog,w,K,λ c=>match c with | 0=>133 | _=>154,44⟩
theorem qx {prog:Program}{i:Nat}{a:Addr}(X:K.In h)(D:DI K i a)(hl:(Nat.ble (K5 i).length 1000)=true)(hn:(K5 i).Nodup):bj (oB prog w K) ⟨h,[]⟩ (.dctI (K5 i) (ML i)) (.ref a) :=
 ⟨N1 (P9 hl) (by decide),xk (S:=oB prog w K) (knd:=K8 (oB prog w K)) (enc:=id) X D (ri ((Y6 _).symm) hn)⟩
theorem vT {prog:Program}{i:Nat}{a:Addr}(X:K.In h)(D:DS K w i a)(ho:(Nat.ble (Jw i).length 1000&&(Jw i).all λ k=>Nat.ble k.length 1000&&k.all λ c=>Nat.blt c 1114112)=true)(hn:(Jw i).Nodup):bj (oB prog w K) ⟨h,[]⟩ (.dctS (Jw i) (MK i)) (.ref a) :=
 ⟨⟨N1 (P9 (aj ho)) (by decide),λ k m =>
  have q:=an (O2.mp (aE ho) k m)
  ⟨N1 (P9 q.1) (by decide),λ c m=>P9 (O2.mp q.2 c m)⟩⟩,
  xk (S:=oB prog w K) (knd:=KZ (oB prog w K)) (enc:=aG) X D (z3d.mpr (hn.imp λ n e=>n (cU e)))⟩
theorem gk {α β:Type}{f:α→β}{l:List α}{r:List β}(h:l.map f=r)(i:Nat){x:α}{y:β}(hx:l[i]?=some x)(hy:r[i]?=some y):f x=y:=by
 subst h
 rw [Q3,hx] at hy
 exact Option.some.inj hy
theorem wZ {fd:Fd}{r:rf}(h:Ht fd r=true):MH fd r:=by
 have h2:=N4.mp (N4.mp h).2
 have h4:=N4.mp (N4.mp h2.2).2
 have nd:∀ {l:List Str},qe l=true→l.Nodup:=λ {l}=>by
  induction l with
  | nil=>exact λ Z9=>.nil
  | cons a l ih=>exact λ h=>have h:=N4.mp h;Q9.mpr ⟨λ m=>(rh ((congrArg (!·) (X1.mpr m)).symm.trans h.1)),ih h.2⟩
 exact ⟨λ x m=>(P5.mp (O2.mp (N4.mp h).1 x m)).imp beq_iff_eq.mp beq_iff_eq.mp,nd h2.1,nd (N4.mp h2.2).1,λ c m=>beq_iff_eq.mp (O2.mp h4.1 c m),z0l (N4.mp h4.2).1,z0l (N4.mp (N4.mp h4.2).2).1,(N4.mp (N4.mp h4.2).2).2⟩
theorem eP {l:List Str}{x:Str}{i:Nat}(h:l.zipIdx.lookup x=some i):l[i]?=some x:=List.mk_mem_zipIdx_iff_getElem?.mp (dj h)
theorem u2 {p:Fn}(e:p.isFn=true):p∈Iz:=by cases p<;>first | exact ff e | (repeat first | exact .head _ | apply List.Mem.tail)
theorem Kp:(Iz.all λ p=>p.name !="__name__")=true:=by decide +kernel
theorem Kq:(Iz.map λ p=>bootBuiltins p.name)=Iz.map λ p=>some p.val:=by decide +kernel
theorem ot.dct {prog:Program}(H:ot K w)(X:K.In h){i:Nat}{a:Addr}(m:dA.lookup i=some a):∃ p,kZ i=some p∧bj (oB prog w K) ⟨h,[]⟩ p (.ref a) :=
 (show ∀ q∈dA,∃ p,kZ q.1=some p∧bj (oB prog w K) ⟨h,[]⟩ p (.ref q.2) from N7.mpr ⟨⟨_,rfl,qx X H.d17 (by decide +kernel) (by decide +kernel)⟩,N7.mpr ⟨⟨_,rfl,qx X H.d18 (by decide +kernel) (by decide +kernel)⟩,N7.mpr ⟨⟨_,rfl,qx X H.d21 (by decide +kernel) (by decide +kernel)⟩,N7.mpr ⟨⟨_,rfl,vT X H.d22 (by decide +kernel) (by decide +kernel)⟩,N7.mpr ⟨⟨_,rfl,vT X H.d23 (by decide +kernel) (by decide +kernel)⟩,O1 _⟩⟩⟩⟩⟩) _ (dj m)
theorem ot.top {prog:Program}(H:ot K w)(F:xF K)(X:K.In h)(g:h.Ns mainGlobals mg)(b:h.Ns builtinsNs mb)(hl:h.NoLimit)(hb:∀ x:Str,x≠"__name__"→mb x=bootBuiltins x):tX (oB prog w K) h mg mb:=by
 have is:=H.is X g
 have lc:=λ {a x} (m:a∈[130,151,28]) m'=>beq_iff_eq.mp (O2.mp (O2.mp H.loc a m) x m')
 have mk:∀ {C fa:Addr} {fs:List (List Nat×Bool)},t3 K C fs→findIn K (.ref C) "__init__"=some (some (.ref fa))→typeIn K (.ref fa)=some (.type "function")→fa∈oj→fa∈[130,151,28]→(iU K fa).ps=[("self":Str)]→pj fs (iU K fa).body=true→xD K h C fs fa (iU K fa):=λ c i t m m' p b=>⟨c,i,t,F.fn X m,p,lc m' (ru p N2),b⟩
 refine ⟨X,hl,g,b,λ x i e=>?_,λ p e=>?_,λ x i e=>?_,λ x c e=>?_,(is _).trans (gk H.nm 2 rfl rfl),?_⟩
 ·have q:=O2.mp H.gv _ (dj e)
  rw [← is] at q
  revert q
  cases mg x with
  | none=>exact λ q=>ff q
  | some v =>
   dsimp only
   cases hA:dA.lookup i with
   | none=>cases kZ i with
    | none=>exact λ q=>ff q
    | some p=>exact λ q=>⟨p,v,rfl,rfl,AR X 8 p v q⟩
   | some a=>cases v with
    | ref b =>
     intro q
     cases z0l q
     exact (H.dct X hA).imp λ p z=>⟨_,z.1,rfl,z.2⟩
    | _=>exact λ q=>ff q
 ·exact ⟨(is _).trans (W0.mp H.bv p (u2 e)),(hb _ (bne_iff_ne.mp (O2.mp Kp p (u2 e)))).trans (W0.mp Kq p (u2 e))⟩
 ·have hi:i<yO.length:=(O6.mp (eP e)).1
  have r:=O2.mp F.rel _ (Q1 (S1.mpr ⟨O4 hi,z2s hi⟩:(yO.zip (List.range 39))[i]?=some (yO[i],i)))
  revert r
  cases hf:lC i with
  | none=>exact λ r=>ff r
  | some fd =>
   intro r
   exact ⟨_,fd,_,((is x).trans (W0.mp H.fv _ (dj e))).trans (congrArg (Option.map Value.ref) (O4 hi)),rfl,F.fn X (.tail _ (.tail _ (.tail _ (.tail _ (U5 hi))))),wZ (N4.mp r).1,ri (U2 _) (N4.mp r).2⟩
 ·have m:=eP e
  match c,m with
  | 0,m=>cases Option.some.inj m;exact ⟨(is _).trans (gk H.nm 0 rfl rfl),_,_,mk H.c0 (gk H.i 0 rfl rfl) (gk H.t 0 rfl rfl) (by decide) (by decide) (gk H.ps 0 rfl rfl) (N4.mp (N4.mp H.b).1).1⟩
  | 1,m=>cases Option.some.inj m;exact ⟨(is _).trans (gk H.nm 1 rfl rfl),_,_,mk H.c1 (gk H.i 1 rfl rfl) (gk H.t 1 rfl rfl) (by decide) (by decide) (gk H.ps 1 rfl rfl) (N4.mp (N4.mp H.b).1).2⟩
 ·refine H.ex.elim λ oC w1z=>w1z.elim λ e1 e2=>?_
  exact ⟨oC,28,_,H.ck prog,e1,e2,H.sa,H.tc,H.ta,gk H.i 2 rfl rfl,gk H.t 2 rfl rfl,H.keep,F.fn X (by decide),gk H.ps 2 rfl rfl,λ x m=>lc (by decide) m,(N4.mp H.b).2,H.ga,H.gn,H.sub,H.dict,none,H.at_,H.ng⟩
end
end
end Mine
end
section
open PySem PySem.W PyProof.Rows PySem.Calls
namespace Mine
noncomputable section
noncomputable def Bx:Option Value→List Addr
 | some (.ref a)=>[a]
 | _=>[]
theorem lp.at' {h h':Heap}{hd}(x:lp h hd)(k:∀ b∈Bx hd,∀ o,h.get? b=some o→h'.get? b=some o):lp h' hd:=λ v e=>(x v e).imp λ b x=>x.imp λ o x=>x.imp λ vs y=>⟨y.1,k b (by refine ru e (ru y.1 ?_);exact N2) o y.2.1,y.2.2⟩
section
variable {prog:Program} {w:World} {A:Around} {E:Value→Shared→Prop} {s:Shared} {K:Type} [DecidableEq K] {knd:PySem.KeyKind prog w K}
theorem ub {hd:Option Value}(hA:A.handled=hd)(I d:Addr)(hne:d≠I)(hni:hd≠some (.ref I))(kvs:List (K×Value))(ep:Nat) :
  Walks prog w A I (I::d::Bx hd) [I] kvs.length (λ i v=>∃ k x,kvs[i]?=some (k,x)∧knd.is k v=true) (λ i h=>h.IsKeyIter I d i kvs.length ep∧h.DictAt knd d kvs ep∧lp h hd) where
 sub:=λ b hb=>ri (P7.mp hb) N2
 frame:=λ Z9 Z9 Z9 st hk=>⟨st.1.at λ o e=>hk I N2 o e,st.2.1.at' λ o e=>hk d (.tail _ (.head _)) o e,st.2.2.at' λ b m o e=>hk b (.tail _ (.tail _ m)) o e⟩
 item:=λ i s Q E hi st hQ=>wpAny_pyNext_dict_item st.1 st.2.1 (k:=kvs[i].1) (v:=kvs[i].2) (O4 hi) λ key h' hkey hit' hs' =>
  hQ key h' s.toks ⟨_,_,O4 hi,hkey⟩ ⟨hit',st.2.1.extBut hs'.extBut hne,st.2.2.extBut hs'.extBut hni⟩ λ b o hb e=>hs'.extBut b o (λ h=>hb (ri h N2)) e
 done:=λ s Q E st hQ=>st.1.elim λ o z=>nZ (ru hA st.2.2) (ru hA hni) z.1 z.2.1 z.2.2 st.2.1 rfl (N8 _) λ h' he'=>hQ h' s.toks λ b o hb e=>he' b o (λ h=>hb (ri h N2)) e
 self:=λ Z9 Z9 Z9 Z9 st hQ=>wpAny_pyIter_keyiter st.1 hQ
theorem qL {d:Addr}{kvs:List (K×Value)}{ep:Nat}{Q:List Value→Shared→Prop}(hok:lp s.heap A.handled)(hd:(d==sysModules)=false)(hm:s.heap.DictAt knd d kvs ep)(hn:kvs.length≤sizeLine)
  (hQ:∀ s' acc,s.heap.StaysIn s'.heap→s'.gens=s.gens→s'.os=s.os→ItemsOf (λ i v=>∃ k x,kvs[i]?=some (k,x)∧knd.is k v=true) acc kvs.length→Q acc.toList s'):wpAny (model prog w) A (collect (.ref d)) Q E s:=by
 have hSd:s.heap.objs.size≠d:=z0k (hm.lt_size:d<s.heap.objs.size)
 have nI:s.heap.get? (s.heap.objs.size+1)=none:=Heap.get?_none_of_le (U4 _)
 refine wpAny_bind (wpAny_runValue (codeAny_builtin PySem.F.entry_proto_collect ?_))
 refine ru (Around.under_plainId PySem.F.plain_proto_collect _) ?_
 show wpAny _ A.in1 (newList [] >>= λ l=>again (.builtin "list.__iadd__" ⟨[l,.ref d],[]⟩)) _ _ s
 refine wpAny_bind (wpAny_newObj_type (wpAny_pure ⟨plainId_quiet PySem.F.plain_list_iadd _,codeAny_builtin PySem.F.entry_list_iadd ?_⟩))
 refine ru (Around.under_plainId PySem.F.plain_list_iadd _) ?_
 show wpAny _ A.in1 (Builtin.List.listExtendWith (.ref s.heap.objs.size) (.ref d) (.ref s.heap.objs.size)) _ _ _
 generalize hH:s.heap.push { cls:=.type "list",data:=.seq ([]:List Value).toArray }=H at *
 have kH:s.heap.StaysIn H:=λ b o e=>by refine ri hH ?_;exact Heap.get?_push_of_some _ e
 have hS₁:H.get? s.heap.objs.size=some { cls:=.type "list",data:=.seq ([]:List Value).toArray }:=by refine ri hH ?_;exact Heap.get?_push_size _ rfl
 refine wpAny_bind (wpAny_typeOf ((hm.keep kH:H.DictAt knd d kvs ep).dictOf.typeIs:Shared.TypeIs { s with heap:=H } (.ref d) "dict") ?_)
 refine ru (if_neg (show ¬ (Builtin.List.listSameRef (.ref s.heap.objs.size) (.ref d)||_||_)=true by rw [show Builtin.List.listSameRef (.ref s.heap.objs.size) (.ref d)=false from beq_eq_false_iff_ne.mpr hSd];decide)) ?_
 refine wpAny_bind (wpAny_pyIter_dict hd (hm.keep kH:H.DictAt knd d kvs ep) (wpAny_bind (wpAny_holding ?_)))
 generalize hio:({ cls:=.type "dict_keyiterator",data:=.fields #[.ref d,.int 0 0,.int kvs.length 0,.int ep 0] }:Obj)=io
 have hT2:Shared.TypeIs { s with heap:=H.push io } (.ref d) "dict":=((hm.keep kH:H.DictAt knd d kvs ep).push io).dictOf.typeIs
 refine wpAny_bind (wpAny_specialOf (name:=Str.ofString "__len__") hT2 PySem.F.slot_dict_len.lookup ?_)
 wp_delta
 refine wpAny_bind (wpAny_isInstance (T:="dict") (v:=.ref d) (b:=true) hT2 (by refine ru (isSubtype_type ..) ?_;kernel_rfl) ?_)
 refine wpAny_bind (wpAny_typeOf hT2 (wpAny_pure ?_))
 show wpAny _ A.in1 (rule "list.extend.makes-room" >>= λ Z9=>Builtin.List.listTouch (.ref s.heap.objs.size) >>= λ Z9 =>
  again (.builtin "list.extend.loop" ⟨[.ref s.heap.objs.size,.ref H.objs.size,.ref s.heap.objs.size],[]⟩)) _ _ _
 refine wpAny_bind (wpAny_rule (wpAny_bind ?_))
 have hS₂:(H.push io).get? s.heap.objs.size=some { cls:=.type "list",data:=.seq ([]:List Value).toArray }:=Heap.get?_push_of_some _ hS₁
 refine wpAny_bind (wpAny_updateSeq hS₂ rfl ?_)
 refine wpAny_updateSeq (Heap.get?_update_self (Obj.mapSeq (·.push Value.none)) hS₂ rfl) rfl ?_
 have hS₄:=Heap.get?_update_self (Obj.mapSeq (·.pop)) (Heap.get?_update_self (Obj.mapSeq (·.push Value.none)) hS₂ rfl) rfl
 generalize hH4:(((H.push io).update s.heap.objs.size (Obj.mapSeq (·.push Value.none))).update s.heap.objs.size (Obj.mapSeq (·.pop)))=H4 at *
 have oth:∀ b o,b≠s.heap.objs.size→(H.push io).get? b=some o→H4.get? b=some o:=λ b o hb e=>by
  refine ri hH4 ?_;exact (Heap.get?_update_other _ _ (Ne.symm hb)).trans ((Heap.get?_update_other _ _ (Ne.symm hb)).trans e)
 have old:s.heap.StaysIn H4:=λ b o e=>oth b o (V7 (Heap.lt_size e)) (Heap.get?_push_of_some _ (kH b o e))
 have hio4:H4.get? H.objs.size=some io:=oth _ _ (by refine ru (by exact ri hH (ru (Heap.size_push ..) rfl):H.objs.size=s.heap.objs.size+1) ?_;exact z1h _) (Heap.get?_push_size _ (by refine ri hio ?_;rfl:io.isFreed=false))
 rw [(by exact ri hH (ru (Heap.size_push ..) rfl):H.objs.size=s.heap.objs.size+1)] at hio4 ⊢
 have hSf:s.heap.objs.size∉(s.heap.objs.size+1)::d::Bx A.handled:=λ m=>(Q2.mp m).elim (λ q=>z1h _ q.symm) λ m=>(Q2.mp m).elim hSd λ m=>by
  cases hh:A.handled with
  | none=>rw [hh] at m;exact o4 m
  | some v=>obtain ⟨x,o,vs,rfl,e,-⟩:=hok v hh;rw [hh] at m;exact cH (P7.mp m▸(Heap.get?_none_of_le (N8 _):s.heap.get? s.heap.objs.size=none)) e
 refine wpAny_pure ⟨plainId_quiet PySem.F.plain_extend_loop _,codeAny_extend_loopS ((ub (knd:=knd) (A:=A.in1) rfl (s.heap.objs.size+1) d (V7 (W6 (hm.lt_size:d<s.heap.objs.size))) (hok.fresh nI) kvs ep).toS) hn _ hSf _ kvs.length 0 _ _ _ rfl (P4 _)
  ⟨⟨_,hio4,by exact ri hio rfl,by refine ri hio ?_;rfl⟩,(hm.keep old:H4.DictAt knd d kvs ep),hok.keep old⟩ hS₄ (ItemsOf.nil _) λ s' acc' c' hmv hS' hacc=>?_⟩
 exact wpAny_bind (wpAny_load hS' (wpAny_pure (hQ s' acc' (λ b o e=>hmv.heap b o (λ hb=>(Q2.mp hb).elim (λ q=>cH (q▸(Heap.get?_none_of_le (N8 _):s.heap.get? s.heap.objs.size=none)) e) λ q=>cH (P7.mp q▸nI) e) (old b o e)) hmv.gens hmv.os hacc)))
end
theorem Bu {x y:Int}{r:List Int}:ti x (y::r)=if x≤y then x::y::r else y::ti x r:=rfl
set_option tactic.hygienic true in
theorem Hg {x:Int}{l:List Int}(h:l.Pairwise (·≤·)):(ti x l).Pairwise (·≤·)∧∀ y∈ti x l,y=x∨y∈l:=by
 induction l with
 | nil=>exact ⟨V3 _ _,λ y m=>.inl (P7.mp m)⟩
 | cons a r ih =>
  obtain ⟨h1,h2⟩:=z0z.mp h
  refine ru Bu ?_
  split
  ·rename_i hx
   exact ⟨z0z.mpr ⟨λ y m=>(Q2.mp m).elim (λ q=>ru q hx) λ m=>U8 hx (h1 y m),h⟩,λ y m=>Q2.mp m⟩
  ·rename_i hx
   exact ⟨z0z.mpr ⟨λ y m=>((ih h2).2 y m).elim (λ q=>ru q (U9 (Y7.mp hx))) (h1 y),(ih h2).1⟩,λ y m=>(Q2.mp m).elim (λ q=>.inr (ri q N2)) λ m=>((ih h2).2 y m).imp id (N9 _)⟩
theorem CV {l:List Int}:(aW l).Pairwise (·≤·):=by
 induction l with
 | nil=>exact .nil
 | cons a r ih=>exact (Hg ih).1
theorem Bs {x:Int}{l:List Int}:(ti x l).Perm (x::l):=by
 induction l with
 | nil=>exact .refl _
 | cons a r ih =>
  refine ru Bu ?_
  split
  ·exact .refl _
  ·exact (List.Perm.cons a ih).trans (.swap ..)
theorem cd {l:List Int}:(aW l).Perm l:=by
 induction l with
 | nil=>exact .nil
 | cons a r ih=>exact Bs.trans (List.Perm.cons a ih)
theorem xV {l l':List Int}(p:l'.Perm l)(w:l'.Pairwise (·≤·)):l'=aW l :=
 List.Perm.eq_of_pairwise (le:=(·≤·)) (λ a b Z9 Z9 h1 h2=>Int.le_antisymm h1 h2) w CV (p.trans cd.symm)
theorem Bp {prog:Program}{w:World}(l:List Value):∀ ks:List Int,l.length=ks.length→(∀ (j:Nat) v,l[j]?=some v→∃ k,ks[j]?=some k∧(PySem.intKind prog w).is k v=true)→IntsAre l ks:=by
 induction l with
 | nil=>exact λ ks hl h=>ru (U6.mp hl.symm) .nil
 | cons v l ih =>
  intro ks hl h
  cases ks with
  | nil=>exact Iw hl
  | cons k ks=>exact (h 0 v rfl).elim λ k' w=>(Value.isInt_shape w.2).elim λ t e=>e▸ri (Option.some.inj w.1) (.cons _ _ (ih ks (Nat.succ.inj hl) λ j=>h (j+1)))
theorem Bo {S:Sy}{β:Fz}{l:List Value}{ns:List Int}(h:IntsAre l ns):RepL S β (ns.map .int) l:=by
 induction h with
 | nil=>rfl
 | cons n t _ ih=>exact ⟨_,_,rfl,⟨t,rfl⟩,ih⟩
theorem xU {x:PV}{σ:aa}{v:PV}(h:oS σ x=some v):t8 .sorted x σ v:=by
 obtain ⟨o,hv,h⟩:=O5.mp h
 cases o with
 | dctI ks vs =>
  obtain ⟨hz,rfl⟩:=cW h
  exact λ va X Φ P fx s β Q E a g po=>vD va g.1 a hv λ d q=>by
   refine q.elim λ o w1z=>w1z.elim λ e w2z=>w2z.elim λ hl w3z=>w3z.elim λ is w4z=>w4z.elim λ on q=>?_
   obtain ⟨ep,e4⟩:=(on _ e).2.2.dictAt
   have hzl:=g9 (enc:=id) (ks:=ks) (on _ e).1
   refine call_function_entry kind_sorted plain_sorted entry_sorted (args_sorted1 _) ?_
   refine wpAny_bind (m:=checkCount "sorted" 1 1 _) (wpAny_pure (wpAny_bind (qL (fx.hok.keep a.ns) (on _ e).2.1 e4 (by refine ru hzl ?_;exact N1 (T3 hz) (by decide)) λ s' acc k eg eo hacc=>?_)))
   refine hacc.elim λ ha hi=>?_
   rw [hzl] at ha
   have hint:IntsAre acc.toList ks:=Bp _ _ (by simpa using ha) λ j v hj=>by
    obtain ⟨k',x,e,hk⟩:=hi j v (by simpa using hj)
    exact ⟨k',by simpa using (S1.mp e).1,hk⟩
   refine wpAny_bind (wpAny_newList ?_ (by simp only [Array.length_toList];refine ru ha ?_;exact N1 (T3 hz) (by decide)))
   have hoL:(s'.heap.push (seqObj "list" acc.toList.toArray 0)).get? s'.heap.objs.size=some (seqObj "list" acc.toList.toArray 0):=Heap.get?_push_size _ rfl
   refine wpAny_bind (wpAny_holding (wpAny_call_entry slot_list_sort ⟨_,hoL,rfl⟩ entry_list_sort (list_sort_tree hoL hint (by simp only [Array.length_toList];refine ru ha ?_;exact hz) λ out ns' a1 a2 a3=>⟨_,rfl,?_⟩) (args_list_sort _)))
   refine wpAny_pure ⟨_,rfl,?_⟩
   refine (sortedHeap_at (out:=out) hoL).elim λ e hend=>?_
   have st:s.heap.StaysIn (sortedHeap (s'.heap.push (seqObj "list" acc.toList.toArray 0)) s'.heap.objs.size acc.toList out):=λ b o eb=>by
    refine ru (sortedHeap_old (V7 (Heap.lt_size (k b o eb))) (by rw [Heap.size_push];exact W6 (Heap.lt_size (k b o eb)))) ?_
    exact Heap.get?_push_of_some _ (k b o eb)
   have ns':=xV a2 a3
   subst ns'
   obtain ⟨β',I',l',-,fz⟩:=a.2.keeps st
   refine po _ _ β' ⟨⟨eo.trans a.1.1,eg.trans a.1.2⟩,I'⟩ l' ⟨by refine ru (N3 ..) (ru a2.length_eq ?_);exact N1 (T3 hz) (by decide),s'.heap.objs.size,out.toList,rfl,⟨_,fz _ _ (λ m=>?_) hend,rfl,e,by simp⟩,Bo a1⟩
   exact (a.2.live m).elim λ o w=>z0y _ (Heap.lt_size (k _ _ w.1))
 | _=>exact b2 h
end
end Mine
end
section
open PySem
namespace Mine
noncomputable section
noncomputable abbrev ΓS (n:Nat):Gs:=⟨kZ,fk,ar n,Ev n,St n⟩
theorem Ms (n:Nat):Li n (ΓS n):=⟨rfl,rfl,λ Z9 Z9 Z9 Z9 h=>h,λ Z9 Z9 Z9 Z9 h=>h,λ Z9 Z9 Z9 Z9 h=>h,λ Z9 Z9 Z9 h=>xU h⟩
theorem run {n f:Nat}{vs:List PV}{σ:aa}{fd:Fd}(hf:lC f=some fd)(hl:vs.length=fd.nargs)(os:List OV):IA (ΓS n) fd.body (oL fd vs) σ os λ ro Z9=>∀ r,fq fd.moves σ.length ro r→ar (n+1) f vs σ r :=
 BL (Ms n) fd.body _ σ os _ λ Z9 Z9 hs Z9 hr=>qR hf hl hs hr
theorem LC (n:Nat)(s:IS)(ρ:am)(σ:aa)(os:List OV):IA (ΓS n) s ρ σ os λ r Z9=>St n s ρ σ r:=BL (Ms n) s ρ σ os _ λ Z9 Z9 h=>h
theorem LD (n:Nat)(e:IE)(ρ:am)(σ:aa)(os:List OV):t6 (ΓS n) e ρ σ os λ r Z9=>Ev n e ρ σ r:=cY (Ms n) e ρ σ os _ λ Z9 Z9 h=>h
theorem al {n f:Nat}{vs:List PV}{σ:aa}{fd:Fd}{r:aY PV}(hf:lC f=some fd)(hl:vs.length=fd.nargs)(os:List OV)(k:(IA (ΓS n) fd.body (oL fd vs) σ os λ ro Z9=>∀ r,fq fd.moves σ.length ro r→ar (n+1) f vs σ r)→ar (n+1) f vs σ r):ar (n+1) f vs σ r:=k (run hf hl os)
theorem be {n:Nat}{s:IS}{ρ:am}{σ:aa}{r:aY cO}(os:List OV)(k:(IA (ΓS n) s ρ σ os λ r Z9=>St n s ρ σ r)→St n s ρ σ r):St n s ρ σ r:=k (LC n s ρ σ os)
theorem cG {n:Nat}{e:IE}{ρ:am}{σ:aa}{r:aY PV}(os:List OV)(k:(t6 (ΓS n) e ρ σ os λ r Z9=>Ev n e ρ σ r)→Ev n e ρ σ r):Ev n e ρ σ r:=k (LD n e ρ σ os)
noncomputable abbrev free (σ:aa):Prop:=σ.all bQ=true
theorem kf {σ τ:aa}(h:free σ):((σ++τ).take σ.length).all bQ=true:=by refine ru X4 ?_;exact h
theorem l9 {σ τ:aa}{v p:PV}(h:free σ)(e:Ko (σ++τ) σ.length v=some p):gA false σ.length (σ++τ) v=some (p,σ):=by
 unfold gA
 refine ru (if_pos (kf h)) (ru e (ru X4 ?_));rfl
theorem FG {σ:aa}{n:Nat}{v:PV}(h:aS v=true):nS σ n v=some v:=by
 have key:∀ {v:PV},aS v=true→(if aS v=true then some v else none)=some v:=λ h=>if_pos h
 cases v<;>first | exact key h | exact (λ (h:false=true)=>rh h) h
theorem BD {σ:aa}{n:Nat}{vs:List PV}(h:noLocs vs=true):i3 (nS σ n) vs=some vs:=by
 induction vs with
 | nil=>rfl
 | cons v vs ih =>
  show (nS σ n v).bind _=_
  refine ru (FG (N4.mp h).1) ?_
  refine ru (ih (N4.mp h).2) ?_;rfl
theorem Ea {σ:aa}{n:Nat}{v:PV}(h:aS v=true):Ko σ n v=some v:=by
 have key:∀ {v:PV},aS v=true→nS σ n v=some v:=FG
 cases v with
 | tup vs=>exact congrArg (Option.map PV.tup) (BD h)
 | inst c ks vs=>exact congrArg (Option.map (PV.inst c ks)) (BD h)
 | _=>exact key h
theorem oy {σ τ:aa}{v:PV}(h:free σ)(hv:aS v=true):fq false σ.length (.ok (.ret v) (σ++τ)) (.ok v σ):=⟨_,l9 h (Ea hv),rfl⟩
theorem bB {σ:aa}{v:PV}(h:free σ)(hv:aS v=true):fq false σ.length (.ok (.ret v) σ) (.ok v σ):=by have:=oy (τ:=[]) h hv;rwa [O3] at this
theorem oD {σ τ:aa}{m:Bool}{c:List Nat}{a:Int}(h:free σ):fq m σ.length (.exc c a (σ++τ)) (.exc c a σ):=⟨kf h,by exact ru X4 rfl⟩
theorem cu {σ:aa}{m:Bool}{c:List Nat}{a:Int}(h:free σ):fq m σ.length (.exc c a σ) (.exc c a σ):=⟨by refine ru W3 ?_;exact h,by exact ru W3 rfl⟩
noncomputable def aw:Nat→List OV→List OV
 | 0,os=>os
 | n+1,os=>.auto::aw n os
noncomputable abbrev ov (x:PV)(os:List OV):List OV:=.v x::os
noncomputable abbrev ob (b:Bool)(os:List OV):List OV:=.b b::os
end
noncomputable section
open Builtin Builtin.Str StrLaws
noncomputable abbrev sp (c:Nat):Bool:=Unicode.isSpace c
theorem v2 (l:List Nat):(aG l).cps.toList=l:=rfl
theorem lV (l:List Nat):(aG l).length=l.length:=by simp [aG,Str.length]
theorem uS (c:Nat)(s:List Nat):gN [c] s=decide (c∈s):=by
 exact (found_one (aG s) c)
theorem jV {α:Type}(p:α→Bool):∀ l:List α,l.drop (l.takeWhile p).length=l.dropWhile p
 | []=>rfl
 | a::r=>by
  by_cases h:p a
  ·simp [List.takeWhile,List.dropWhile,h,jV p r]
  ·simp [List.takeWhile,List.dropWhile,h]
theorem kj (s:List Nat):av s=(((s.dropWhile sp).reverse).dropWhile sp).reverse:=by
 unfold av Txt.strip
 refine ru (PyProof.Rows.stripBy_eq ..) ?_
 unfold cQ
 refine ru (strSub_toList ..) ?_
 refine ru (rfl:stripLo Unicode.isSpace true (aG s)=(s.takeWhile sp).length) ?_
 refine ru (jV _ _:(aG s).cps.toList.drop (s.takeWhile sp).length=s.dropWhile sp) ?_
 unfold stripHi
 refine ru (if_pos rfl) (ru (jV _ _:(aG s).cps.toList.drop (s.takeWhile sp).length=s.dropWhile sp) (ru (lV ..) ?_))
 generalize hd:s.dropWhile sp=d
 have h3:s.length=(s.takeWhile sp).length+d.length:=by
  exact ri hd (ri N5 (ru z1e rfl))
 have h4:∀ l:List Nat,l.take (l.length-(l.reverse.takeWhile sp).length)=(l.reverse.dropWhile sp).reverse:=by
  intro l
  exact ri (jV ..) (ru List.drop_reverse (ru (z2i ..) rfl))
 refine ri (h4 d) ?_
 (refine ru (rfl:(List.takeWhile Unicode.isSpace d.reverse).length=(List.takeWhile sp d.reverse).length) (ru h3 ?_);rewrite [Nat.add_sub_assoc (z0w (as:=d)▸(z0m sp).length_le)];exact ru (V9 ..) rfl)
theorem sF (sep:List Nat):∀ l:List (List Nat),Str.join (aG sep) (l.map aG)=aG (ah sep l)
 | []=>rfl
 | [a]=>rfl
 | a::b::r=>by
  show _=aG (a++sep++ah sep (b::r))
  have:Str.join (aG sep) ((a::b::r).map aG)=aG a++aG sep++Str.join (aG sep) ((b::r).map aG):=rfl
  refine ru this (ru (sF sep (b::r)) ?_)
  exact Str.ext' (by simp [Str.cps_append,aG])
theorem uP {sep a:List Nat}{r:List (List Nat)}(h:r≠[]):ah sep (a::r)=a++sep++ah sep r:=by
 cases r with
 | nil=>exact absurd rfl h
 | cons b r=>rfl
noncomputable def iR (c:Nat):List Nat→List Nat→List (List Nat)
 | cur,[]=>[cur]
 | cur,x::r=>if x=c then cur::iR c [] r else iR c (cur++[x]) r
theorem Gi {c x:Nat}{cur r:List Nat}:iR c cur (x::r)=if x=c then cur::iR c [] r else iR c (cur++[x]) r:=rfl
theorem mN {c:Nat}{r:List Nat}:∀ {p cur:List Nat},c∉p→iR c cur (p++r)=iR c (cur++p) r
 | [],cur,_=>congrArg (iR c · r) (O3 cur).symm
 | x::p,cur,h=>(if_neg λ e:x=c=>h (ri e N2)).trans ((mN λ m=>h (N9 _ m)).trans (congrArg (iR c · r) (N6 cur [x] p)))
theorem pR {c:Nat}:∀ {l:List (List Nat)},l≠[]→(∀ p∈l,c∉p)→iR c [] (ah [c] l)=l
 | [],h,_=>absurd rfl h
 | [a],_,h=>(congrArg (iR c []) (O3 a).symm).trans (mN (h a N2))
 | a::b::r,_,h=>(congrArg (iR c []) (N6 a [c] _)).trans ((mN (h a N2)).trans ((if_pos rfl).trans (congrArg (a::·) (pR (R5 b r) λ p m=>h p (N9 _ m)))))
theorem lu (c:Nat)(s:List Nat):aq c s=iR c [] s:=by
 have h1:=join_split (aG s) (aG [c])
 have e:(Txt.split (aG s) (aG [c]))=(aq c s).map aG:=by
  refine ru T0 ?_
  exact (Y6 _).symm
 have h3:=PyProof.Rows.split_pos (aG s) (aG [c])
 rw [e,sF] at h1
 rw [e] at h3
 exact (pR (λ q=>absurd (N1 h3 (P0 (congrArg (λ l=>(List.map aG l).length) q))) (Nat.not_succ_le_zero 0)) λ p hp=>(S0.mp hp).elim λ q w=>ri w.2 (split_free (aG s) c q w.1)).symm.trans (congrArg (iR c []) (congrArg cQ h1:ah [c] (aq c s)=s))
theorem dv {c:Nat}{l:List (List Nat)}(hn:l≠[])(hf:∀ p∈l,c∉p):aq c (ah [c] l)=l:=(lu ..).trans (pR hn hf)
noncomputable def gH:Option (List Nat)→List Nat→List (List Nat)
 | none,[]=>[]
 | some w,[]=>[w]
 | none,c::r=>if sp c then gH none r else gH (some [c]) r
 | some w,c::r=>if sp c then w::gH none r else gH (some (w++[c])) r
theorem IH {c:Nat}{r:List Nat}:gH none (c::r)=if sp c then gH none r else gH (some [c]) r:=rfl
theorem IG {c:Nat}{r w:List Nat}:gH (some w) (c::r)=if sp c then w::gH none r else gH (some (w++[c])) r:=rfl
theorem IF {x:Nat}{r:List Nat}{o:Option (List Nat)}(h:sp x=true):gH o (x::r)=o.toList++gH none r:=by cases o<;>exact if_pos h
theorem II {x:Nat}{r:List Nat}{o:Option (List Nat)}(h:sp x=false):gH o (x::r)=gH (some (o.getD []++[x])) r:=by cases o<;>exact if_neg (by refine ru h ?_;exact S8)
section
variable {s:Str} {limit cur:Nat} {ws:Array (Nat×Nat)} {st:Option Nat}
noncomputable def v7 (ws:Array (Nat×Nat))(cur:Nat):Option Nat→Array (Nat×Nat)
 | none=>ws
 | some b=>ws.push (b,cur)
theorem Ls (hz:¬ (ws.size==limit)=true)(h:Unicode.isSpace (s.cps.getD cur 0)=true):swBody s limit cur (none,ws,st)=pure (ForInStep.yield (none,v7 ws cur st,none)):=by
 unfold swBody
 refine ru (if_neg hz) ?_
 dsimp only
 refine ru h ?_
 cases st<;>rfl
theorem Lu (hz:¬ (ws.size==limit)=true)(h:Unicode.isSpace (s.cps.getD cur 0)=false):swBody s limit cur (none,ws,st)=pure (ForInStep.yield (none,ws,some (st.getD cur))):=by
 unfold swBody
 refine ru (if_neg hz) ?_
 dsimp only
 refine ru h ?_
 cases st<;>rfl
noncomputable abbrev Dg (s:Str)(p:Nat×Nat):List Nat:=cQ (strSub s p.1 p.2)
noncomputable abbrev IM (s:Str)(cur b:Nat):List Nat:=(s.cps.toList.drop b).take (cur-b)
theorem rX:(v7 ws cur st).toList.map (Dg s)=ws.toList.map (Dg s)++(st.map (IM s cur)).toList:=by
 cases st with
 | none=>exact (O3 _).symm
 | some b=>exact (congrArg (List.map (Dg s)) Array.toList_push).trans (P6.trans (congrArg (λ x=>_++[x]) (strSub_toList ..)))
theorem nY (h:cur<s.length):s.cps.toList.drop cur=s.cps.getD cur 0::s.cps.toList.drop (cur+1)∧s.cps.toList[cur]?=some (s.cps.getD cur 0):=by
 have e:s.cps.toList[cur]?=some (s.cps.getD cur 0):=(O4 h).trans (congrArg some (dif_pos h:s.cps.getD cur 0=_).symm)
 exact ⟨(z1r h).trans (congrArg (·::_) (Option.some.inj ((O4 h).symm.trans e))),e⟩
theorem rt {b x:Nat}(hb:b≤cur)(hx:s.cps.toList[cur]?=some x):IM s (cur+1) b=IM s cur b++[x]:=by
 unfold IM
 refine ru (Nat.succ_sub hb) (ru z1d (ru (z2y) (ru (z2o hb) (ru hx ?_))))
 rfl
theorem pL (hl:s.length<limit):∀ (m cur:Nat) (ws:Array (Nat×Nat)) (st:Option Nat),cur+m=s.length→ws.size≤cur→(∀ b,st=some b→b≤cur) →
  (swEnd s (forIn (List.range' cur m) ((none,ws,st):SwSt) (swBody s limit)).run).map (Dg s)=ws.toList.map (Dg s)++gH (st.map (IM s cur)) (s.cps.toList.drop cur)
 | 0,cur,ws,st,hm,hw,hb=>by
  have hm:cur=s.length:=hm
  refine ru hm (ru (show s.cps.toList.drop s.length=[] from z0j (N8 _)) ?_)
  refine (show _=(swEnd s ((none,ws,st):SwSt)).map (Dg s) from rfl).trans ((by cases st<;>rfl:(swEnd s ((none,ws,st):SwSt)).map (Dg s)=(v7 ws s.length st).toList.map (Dg s)).trans (rX.trans ?_))
  cases st<;>rfl
 | m+1,cur,ws,st,hm,hw,hb=>by
  have hc:cur<s.length:=ri hm (Nat.lt_add_of_pos_right (T6 m))
  have hz:¬ (ws.size==limit)=true:=λ h=>z0y _ (O0 hw (S7 (P8 hc hl) (P0 (beq_iff_eq.mp h).symm)))
  have hm:cur+1+m=s.length:=(S4 cur 1 m).trans hm
  refine ru List.range'_succ (ru (z3n ..) (ru (nY hc).1 ?_))
  cases hs:Unicode.isSpace (s.cps.getD cur 0) with
  | true =>
   refine ru (Ls hz hs) ?_
   refine (pL hl m (cur+1) (v7 ws cur st) none hm ?_ λ Z9 q=>nN q).trans ?_
   ·cases st with
    | none=>exact T5 hw
    | some b=>exact N1 (P0 (Array.size_push _)) (P3 hw)
   ·refine ru rX (ru (N6 ..) (ru (IF hs) ?_));rfl
  | false =>
   refine ru (Lu hz hs) ?_
   refine (pL hl m (cur+1) ws (some (st.getD cur)) hm (T5 hw) λ b q=>Option.some.inj q▸?_).trans ?_
   ·cases st with
    | none=>exact U4 _
    | some b=>exact T5 (hb b rfl)
   ·refine ru (II hs) ?_
    refine congrArg (λ x=>_++gH (some x) _) ?_
    cases st with
    | none=>exact (rt (N8 cur) (nY hc).2).trans (congrArg (·++_) ((congrArg (List.take · _) (Nat.sub_self cur)).trans rfl))
    | some b=>exact rt (hb b rfl) (nY hc).2
end
set_option tactic.hygienic true in
theorem d0 (s:List Nat):ai s=gH none s:=by
 have h:=pL (s:=aG s) (U0 _) (aG s).length 0 #[] none (R9 _) (N8 _) λ Z9 q=>nN q
 rw [← sw_eq] at h
 have h:((spaceWords (aG s) ((aG s).length+1)).map (Dg (aG s)))=gH none s:=h
 unfold ai Txt.words
 split
 ·rename_i hc
  rw [beq_iff_eq] at hc
  rw [hc] at h
  refine ri h ?_
  exact congrArg (λ x=>[x]) ((strSub_toList ..).trans (W3 ..)).symm
 ·refine ri h ?_
  exact T0
theorem bG (s t:List Nat):Txt.startswith (aG s) (aG t)=t.isPrefixOf s:=by
 unfold Txt.startswith
 (refine ru (subAt_eq ..) ?_;rewrite [z0o];refine ru (X5 ..) (ru decide_eq_true_eq ?_);rewrite [beq_iff_eq,List.isPrefixOf_iff_prefix])
 exact ⟨λ h=>ri (show List.take t.length s=t from h.2) (z1j t.length s),λ h=>h.elim λ u e=>ri e (⟨N1 (P0 (R9 _)) (N1 (P1 _ _) (P0 N5.symm)),X4⟩)⟩
theorem jT (s:List Nat)(c:Nat):Txt.endswith (aG s) (aG [c])=(s.getLast?==some c):=by
 unfold Txt.endswith
 refine ru (subAt_eq ..) (ru (lV ..) (ru (lV ..) (ru (v2 ..) (ru (v2 ..) ?_))))
 rw [z0o]
 simp only [X5,decide_eq_true_eq,beq_iff_eq]
 rcases z2e s with rfl | ⟨u,x,rfl⟩
 ·simp
 ·simp
end
noncomputable section
section
variable {st:am→aa→aY cO→Prop} {asg:PV→am→Option am} {kill:List Nat} {x:PV} {xs:List PV} {ρ ρ' ρ'':am} {σ σ':aa} {r:aY cO}
set_option tactic.hygienic true in
theorem aF (ha:asg x ρ=some ρ')(hs:st ρ' σ (.ok (.next ρ'') σ'))(k:cE st asg kill xs (dg kill ρ'') σ' r):cE st asg kill (x::xs) ρ σ r:=⟨ρ',_,ha,hs,k⟩
theorem iu (ha:asg x ρ=some ρ')(hs:st ρ' σ r)(h:GD r (λ Z9 Z9=>False) True):cE st asg kill (x::xs) ρ σ r:=⟨ρ',r,ha,hs,by
 cases r with
 | ok o=>cases o with
  | next=>exact h.elim
  | ret=>exact rfl
 | exc=>exact rfl⟩
end
section
variable {n:Nat} {c:IE} {b:IS} {kill:List Nat} {ρ ρ'':am} {σ σ':aa} {r:aY cO}
noncomputable abbrev Wh (n:Nat)(c:IE)(b:IS)(kill:List Nat)(ρ:am)(σ:aa)(r:aY cO):Prop:=∃ k,EO (Ev n c) (St n b) kill k ρ σ r
set_option tactic.hygienic true in
theorem fQ (h:Ev n c ρ σ (.ok (.bool false) σ)):Wh n c b kill ρ σ (.ok (.next ρ) σ):=⟨1,.inl ⟨σ,h,rfl⟩⟩
set_option tactic.hygienic true in
theorem lS (h:Ev n c ρ σ (.ok (.bool true) σ))(hs:St n b ρ σ (.ok (.next ρ'') σ'))(k:Wh n c b kill (dg kill ρ'') σ' r):Wh n c b kill ρ σ r:=k.imp' (·+1) λ k q=>.inr ⟨σ,_,h,hs,q⟩
theorem ua (h:Ev n c ρ σ (.ok (.bool true) σ))(hs:St n b ρ σ r)(e:GD r (λ Z9 Z9=>False) True):Wh n c b kill ρ σ r:=⟨1,.inr ⟨σ,r,h,hs,by
 cases r with
 | ok o=>cases o with
  | next=>exact e.elim
  | ret=>exact rfl
 | exc=>exact rfl⟩⟩
end
noncomputable def fM (c:Nat):PV:=.str [c]
theorem nc {vs:List PV}:noLocs vs=vs.all aS:=by
 induction vs with
 | nil=>rfl
 | cons a r ih=>exact congrArg (aS a&&·) ih
theorem ay {α:Type}{f:α→PV}{l:List α}(h:∀ a,aS (f a)=true):noLocs (l.map f)=true:=by
 induction l with
 | nil=>rfl
 | cons a r ih=>exact N4.mpr ⟨h a,ih⟩
noncomputable def ag (n:Nat):PV:=.int (n:Int)
noncomputable def jD:List Nat:=match Kl with | .str s=>s | _=>[]
noncomputable def ak (s:List Nat):Bool:=!s.isEmpty&&s.all λ c=>jD.contains c
theorem uT (c:Nat)(s:List Nat):gN [c] s=s.contains c:=(uS c s).trans (by exact ru (List.contains_eq_mem ..) rfl)
theorem qd {c:Nat}{s:List Nat}{b:Bool}{σ:aa}(h:s.contains c=b):bT .NotIn (.str [c]) (.str s) σ=some (!b):=congrArg (λ b=>some (!b)) ((uT c s).trans h)
theorem Bb {n:Nat}{x:PV}{σ:aa}(s:List Nat):cE (St n wK) (b3 true [1]) [1] (s.map fM) [some x,none] σ (match s.all (λ c=>jD.contains c) with | true=>.ok (.next [some x,none]) σ | false=>.ok (.ret (.bool false)) σ):=by
 induction s with
 | nil=>rfl
 | cons c s ih =>
  refine ru Y9 ?_
  cases hc:jD.contains c with
  | true=>exact aF rfl (be (ob false []) λ H=>(H:_→_) (qd hc)) ih
  | false=>exact iu rfl (be (ob true []) λ H=>(H:_→_) (qd hc)) trivial
theorem gf {n:Nat}{s:List Nat}{σ:aa}(h:free σ):ar (n+1) 7 [.str s] σ (.ok (.bool (ak s)) σ):=by
 cases s with
 | nil=>exact (al rfl rfl [] λ H=>H _ (bB h rfl))
 | cons a r =>
  have L:=Bb (n:=n) (x:=.str (a::r)) (σ:=σ) (a::r)
  unfold ak
  revert L
  cases (a::r).all λ c=>jD.contains c with
  | true=>exact λ L=>(al rfl rfl (aw 1 (.n [some (.str (a::r)),none] σ::[])) λ H=>(H:_→_) L _ (bB h rfl))
  | false=>exact λ L=>(al rfl rfl (aw 1 (.r (.bool false) σ::[])) λ H=>(H:_→_) L _ (bB h rfl))
end
noncomputable section
section
variable {σ:aa} {x k:Int} {a b:List Nat}
theorem qO (h:x=k):bT .Eq (.int x) (.int k) σ=some true:=congrArg some (decide_eq_true h)
theorem eI (h:x≠k):bT .Eq (.int x) (.int k) σ=some false:=congrArg some (decide_eq_false h)
theorem Mx (h:x≠k):bT .NotEq (.int x) (.int k) σ=some true:=congrArg (Option.map (!·)) (eI (σ:=σ) h)
theorem My (h:x=k):bT .NotEq (.int x) (.int k) σ=some false:=congrArg (Option.map (!·)) (qO (σ:=σ) h)
theorem EB (h:x<k):bT .Lt (.int x) (.int k) σ=some true:=congrArg some (decide_eq_true h)
theorem qN (h:¬ x<k):bT .Lt (.int x) (.int k) σ=some false:=congrArg some (decide_eq_false h)
theorem KD (h:x ≥ k):bT .GtE (.int x) (.int k) σ=some true:=congrArg some (decide_eq_true h)
theorem Lb (h:¬ x ≥ k):bT .GtE (.int x) (.int k) σ=some false:=congrArg some (decide_eq_false h)
theorem MP (h:a=b):bT .Eq (.str a) (.str b) σ=some true:=congrArg some (decide_eq_true (congrArg aG h))
theorem zQ (h:a≠b):bT .Eq (.str a) (.str b) σ=some false:=congrArg some (decide_eq_false λ q=>h (cU q))
theorem EZ (h:a≠b):bT .NotEq (.str a) (.str b) σ=some true:=congrArg (Option.map (!·)) (zQ (σ:=σ) h)
theorem MO (h:a=b):bT .NotEq (.str a) (.str b) σ=some false:=congrArg (Option.map (!·)) (MP (σ:=σ) h)
end
theorem xz {i n:Nat}(h:i<n):t7 (i:Int) n=some i:=if_pos (N4.mpr ⟨decide_eq_true (Q7 i),decide_eq_true (R8.mpr h)⟩)
theorem eY {s:List Nat}{i c:Nat}{σ:aa}(h:s[i]?=some c):bp (.str s) (.int (i:Int)) σ=some (fM c):=by
 show (t7 i s.length).bind _=_
 refine ru (xz (O6.mp h).1) ?_
 exact congrArg (Option.map _) h
theorem HR {s:List Nat}{k:Nat}(h:k≤s.length):dN (.str s) .none (.int (k:Int))=some (.str (s.take k)):=by
 show some (PV.str (ba 0 (min k s.length) s))=_
 refine ru (V0 h) ?_;rfl
theorem n5 {s:List Nat}{k:Nat}(h:k≤s.length):dN (.str s) (.int (k:Int)) .none=some (.str (s.drop k)):=by
 show some (PV.str (ba (min k s.length) s.length s))=_
 refine ru (V0 h) ?_
 exact congrArg (some∘PV.str) (Y2 (P0 V4))
noncomputable abbrev nb (c:Nat):Bool:=c !=32&&c !=9
noncomputable def ac (s:List Nat):List Nat×List Nat:=(s.takeWhile nb,av (s.dropWhile nb))
theorem LX {c:Nat}(h:nb c=false):c=32∨c≠32∧c=9:=by
 by_cases e:c=32
 ·exact .inl e
 ·exact .inr ⟨e,Decidable.not_not.mp λ e'=>rh (h.symm.trans (N4.mpr ⟨bne_iff_ne.mpr e,bne_iff_ne.mpr e'⟩))⟩
theorem D8 {n:Nat}{s:List Nat}{σ:aa}(rest:List Nat):∀ i:Nat,s.drop i=rest→Wh n (.and (.cmp .Lt (.v 1) (.fn .len (.v 0))) (.and (.cmp .NotEq (.idx (.v 0) (.v 1)) (.c (.str [32]))) (.cmp .NotEq (.idx (.v 0) (.v 1)) (.c (.str [9]))))) wJ [] [some (.str s),some (.int (i:Int))] σ (.ok (.next [some (.str s),some (.int ((i+(rest.takeWhile nb).length:Nat):Int))]) σ):=by
 induction rest with
 | nil=>exact λ i h=>fQ (cG (aw 1 (ob false [])) λ H=>(H:_→_) (qN (V2.mpr (V5.mpr (List.drop_eq_nil_iff.mp h)))))
 | cons c rest ih =>
  intro i h
  have hg:s[i]?=some c:=by refine ri (z3m) (ru h ?_);rfl
  have hl:=EB (σ:=σ) (R8.mpr (O6.mp hg).1)
  refine ru z0t ?_
  cases hc:nb c with
  | true =>
   exact lS (cG (aw 1 (ob true (ov (fM c) (ob true (ov (fM c) (ob true [])))))) λ H=>(H:_→_→_→_→_→_) hl ((eY (σ:=σ) hg)) (EZ λ q=>bne_iff_ne.mp (N4.mp hc).1 (T9 q)) ((eY (σ:=σ) hg)) (EZ λ q=>bne_iff_ne.mp (N4.mp hc).2 (T9 q))) (be [] λ H=>H) (ri (S4 i 1 _) (ih (i+1) (by refine ri z3o (ru h ?_);rfl)))
  | false =>
   rcases LX hc with e | ⟨e1,e⟩
   ·subst e;exact fQ (cG (aw 1 (ob true (ov (fM 32) (ob false [])))) λ H=>(H:_→_→_→_) hl ((eY (σ:=σ) hg)) rfl)
   ·subst e;exact fQ (cG (aw 1 (ob true (ov (fM 9) (ob true (ov (fM 9) (ob false [])))))) λ H=>(H:_→_→_→_→_→_) hl ((eY (σ:=σ) hg)) rfl ((eY (σ:=σ) hg)) rfl)
theorem ET (p:Nat→Bool)(s:List Nat):(s.takeWhile p).length≤s.length:=(z0m p).length_le
theorem eD {n:Nat}{s:List Nat}{σ:aa}(h:free σ):ar (n+1) 8 [.str s] σ (.ok (.tup [.str (ac s).1,.str (ac s).2]) σ):=by
 have L:=D8 (n:=n) (σ:=σ) s 0 rfl
 rw [R9] at L
 have e1:=HR (ET nb s)
 have e2:=n5 (ET nb s)
 rw [← List.prefix_iff_eq_take.mp (z0m nb)] at e1
 rw [jV] at e2
 exact (al rfl rfl (.n [some (.str s),some (.int ((s.takeWhile nb).length:Int))] σ::(ov (.str (s.takeWhile nb)) (ov (.str (s.dropWhile nb)) []))) λ H=>(H:_→_→_→_) L e1 e2 _ (bB h rfl))
end
noncomputable section
set_option tactic.hygienic true in
theorem Fj {m:Bool}{n:Nat}{ρ:am}{σ:aa}(h:free σ)(hl:σ.length=n):fq m n (.ok (.next ρ) σ) (.ok .none σ):=ri hl (⟨by refine ru W3 ?_;exact h,by exact ru W3 rfl⟩)
theorem I0 {n:Nat}{v:PV}{σ:aa}(h:free σ)(hl:σ.length=n)(hv:aS v=true):fq false n (.ok (.ret v) σ) (.ok v σ):=ri hl (bB h hv)
theorem Ku {m:Bool}{n:Nat}{c:List Nat}{a:Int}{σ:aa}(h:free σ)(hl:σ.length=n):fq m n (.exc c a σ) (.exc c a σ):=ri hl (cu h)
theorem gQ {σ τ:aa}(h:free σ)(h':free τ):free (σ++τ):=X9.trans (N4.mpr ⟨h,h'⟩)
structure ae where
 rows:List (Nat×Nat×List Nat):=[]
 labs:List (List Nat×Nat):=[]
 cls:List (Nat×List (List Nat)):=[]
noncomputable def ow (q:Nat×Nat×List Nat):PV:=.tup [.int (q.1:Int),.int (q.2.1:Int),.str q.2.2]
noncomputable def oF (q:Nat×List (List Nat)):PV:=.tup [.int (q.1:Int),.lst (q.2.map .str)]
noncomputable def ny (q:List Nat×Nat):PV:=.int (q.2:Int)
noncomputable def iE:List (List Nat×Nat)→aN
 | []=>.dctI [] []
 | q::r=>.dctS ((q::r).map (·.1)) ((q::r).map ny)
noncomputable def dM (σ:aa)(p:ae):aa:=σ++[.lst (p.rows.map ow),iE p.labs,.lst (p.cls.map oF)]
noncomputable def Ar:List Nat:=[114,111,119,115]
noncomputable def As:List Nat:=[108,97,98,101,108,115]
noncomputable def GK:List Nat:=[99,108,97,117,115,101,115]
noncomputable def mV (l:Nat):PV:=.inst 1 [Ar,As,GK] [.loc l,.loc (l+1),.loc (l+2)]
section
variable {σ τ:aa} {p:ae}
theorem lT:(dM σ p).length=σ.length+3:=N5
theorem fp (i:Nat):(σ++τ)[σ.length+i]?=τ[i]?:=by exact ru (T8 (P1 _ _)) (ru (V9 ..) rfl)
theorem rD:(dM σ p)[σ.length]?=some (.lst (p.rows.map ow)):=fp 0
theorem rE:(dM σ p)[σ.length+1]?=some (iE p.labs):=fp 1
theorem CO:(dM σ p)[σ.length+2]?=some (.lst (p.cls.map oF)):=fp 2
theorem lU {i:Nat}{o:aN}:(σ++τ).set (σ.length+i) o=σ++τ.set i o:=by exact ru (List.set_append_right _ _ (P1 _ _)) (ru (V9 ..) rfl)
theorem kS (l:List (List Nat×Nat)):bQ (iE l)=true:=by
 cases l with
 | nil=>rfl
 | cons q r=>exact ay (l:=q::r) λ a=>rfl
theorem pB (q:Nat×List (List Nat)):aS (oF q)=true:=N4.mpr ⟨ay λ Z9=>rfl,rfl⟩
theorem bW (h:free σ):free (dM σ p):=gQ h (N4.mpr ⟨ay λ Z9=>rfl,N4.mpr ⟨kS _,N4.mpr ⟨ay pB,rfl⟩⟩⟩)
end
noncomputable def aM (k:List Nat):List (List Nat×Nat)→Option Nat
 | []=>none
 | (a,v)::r=>if k=a then some v else aM k r
theorem jC (k:List Nat)(l:List (List Nat×Nat)):bz k (l.map (·.1)) (l.map ny)=(aM k l).map λ v=>.int (v:Int):=by
 induction l with
 | nil=>rfl
 | cons q r ih =>
  show (if k=q.1 then some (ny q) else bz k (r.map (·.1)) (r.map ny))=Option.map _ (if k=q.1 then some q.2 else aM k r)
  split
  ·rfl
  ·exact ih
theorem o8 (k:List Nat)(l:List (List Nat×Nat)):dF (iE l) (.str k)=some ((aM k l).map λ v=>.int (v:Int)):=by
 cases l with
 | nil=>rfl
 | cons q r=>exact congrArg some (jC k (q::r))
theorem De {k:List Nat}{x:PV}{l:List (List Nat×Nat)}(h:aM k l=none):ku k x (l.map (·.1)) (l.map ny)=(l.map (·.1)++[k],l.map ny++[x]):=by
 induction l with
 | nil=>rfl
 | cons q r ih =>
  have h:(if k=q.1 then some q.2 else aM k r)=none:=h
  by_cases hk:k=q.1
  ·exact Jf ((if_pos hk).symm.trans h)
  ·exact (if_neg hk).trans (by refine ru (ih ((if_neg hk).symm.trans h)) ?_;rfl)
theorem oT {τ:aa}{l:Nat}{ls:List (List Nat×Nat)}{k:List Nat}{v:Nat}(hl:τ[l]?=some (iE ls))(h:aM k ls=none)(hz:ls.length<ax):eM (.loc l) (.str k) (.int (v:Int)) τ=some (τ.set l (iE (ls++[(k,v)]))):=by
 show (τ[l]?).bind _=_
 refine ru hl ?_
 cases ls with
 | nil=>rfl
 | cons q r =>
  have e:iE ((q::r)++[(k,v)])=.dctS ((q::r).map (·.1)++[k]) ((q::r).map ny++[ny (k,v)]):=by
   show aN.dctS (((q::r)++[(k,v)]).map (·.1)) (((q::r)++[(k,v)]).map ny)=_
   refine ru P6 (ru P6 ?_);rfl
  exact (if_pos (by refine ru (N3 ..) ?_;exact hz)).trans (by refine ru (De h) (ru e ?_);rfl)
theorem uc {σ:aa}{p:ae}:df (dM σ p) (.loc (σ.length+1))=some (iE p.labs):=rE
theorem zP {σ:aa}{p:ae}{k:List Nat}{v:Nat}(h:aM k p.labs=none)(hz:p.labs.length<ax):(eM (.loc (σ.length+1)) (.str k) (.int (v:Int)) (dM σ p)).map (λ σ'=>(PV.none,σ'))=some (.none,dM σ { p with labs:=p.labs++[(k,v)] }):=by
 refine ru (oT rE h hz) ?_
 exact congrArg (λ z=>some (PV.none,z)) lU
noncomputable def c7:List Nat:=[108,97,98,101,108]
noncomputable def Mz:List Nat:=[111,112]
noncomputable def aP (p:ae)(k:List Nat):Option ae:=if !ak k||(aM k p.labs).isSome then none else some { p with labs:=p.labs++[(k,p.rows.length)] }
theorem wV {σ:aa}{p:ae}{k:List Nat}{b:Bool}(h:(aM k p.labs).isSome=b):bT .In (.str k) (.loc (σ.length+1)) (dM σ p)=some b:=by
 show (df (dM σ p) (.loc (σ.length+1))).bind _=_
 refine ru uc (ri h ?_)
 show (dF (iE p.labs) (.str k)).map _=_
 refine ru (o8 ..) ?_
 exact congrArg some (Z8 ..)
theorem AW {σ:aa}{p:ae}:(jE (dM σ p) (.loc σ.length)).map (λ n:Nat=>PV.int (n:Int))=some (.int (p.rows.length:Int)):=by
 show Option.map _ (((dM σ p)[σ.length]?).map _)=_
 refine ru rD ?_
 exact congrArg (λ n:Nat=>some (PV.int (n:Int))) (N3 ..)
noncomputable def LI (σ:aa)(p:ae)(m:Int):Option ae→aY PV
 | some p'=>.ok .none (dM σ p')
 | none=>.exc c7 m (dM σ p)
theorem oG {n:Nat}{p:ae}{k:List Nat}{m:Int}{σ:aa}(h:free σ)(hz:p.labs.length<ax):ar (n+2) 11 [mV σ.length,.str k,.int m] (dM σ p) (LI σ p m (aP p k)):=by
 have hf:=bW (p:=p) h
 unfold aP
 cases hl:ak k with
 | false=>exact (al rfl rfl (ov (.bool false) []) λ H=>(H:_→_) (ri hl (gf (n:=n) (s:=k) hf)) _ (cu hf))
 | true =>
  cases hk:(aM k p.labs).isSome with
  | true=>exact (al rfl rfl (ov (.bool true) (aw 2 (ob true []))) λ H=>(H:_→_→_) (ri hl (gf (n:=n) (s:=k) hf)) (wV hk) _ (cu hf))
  | false=>exact (al rfl rfl (ov (.bool true) (aw 2 (ob false (aw 1 (ov (.int (p.rows.length:Int)) (aw 1 (.r .none (dM σ { p with labs:=p.labs++[(k,p.rows.length)] })::[]))))))) λ H=>(H:_→_→_→_→_) (ri hl (gf (n:=n) (s:=k) hf)) (wV hk) AW (zP (Option.not_isSome_iff_eq_none.mp (z0d.mp hk)) hz) _ (Fj (bW h) (by exact ru lT (ru lT rfl))))
end
noncomputable section
noncomputable def LN:List Int:=match Hr with | .dctI ks _=>ks | _=>[]
noncomputable def LM:List (List Nat):=match Hr with | .dctI _ vs=>vs.filterMap jp | _=>[]
noncomputable def bV:List (List Nat×Nat):=LM.zip (LN.map Int.toNat)
noncomputable def Aj (q:List Nat×Nat):Int:=(q.2:Int)
theorem NQ:kZ 17=some (.dctI (bV.map Aj) (bV.map λ q=>.str q.1)):=by kernel_rfl
noncomputable def rY:PV:=.dctS (bV.map (·.1)) (bV.map ny)
noncomputable def Ly (v:Option PV)(s:List Nat):Bool:=match v with | some (.str t)=>t==s | _=>false
theorem mX (q)(m:q∈bV):bz (Aj q) (bV.map Aj) (bV.map λ q=>.str q.1)=some (.str q.1):=by
 have h:=O2.mp (show (bV.all λ q=>Ly (bz (Aj q) (bV.map Aj) (bV.map λ q=>.str q.1)) q.1)=true by kernel_rfl) q m
 revert h
 generalize bz (Aj q) (bV.map Aj) (bV.map λ q=>.str q.1)=v
 cases v with
 | none=>exact λ h=>rh h
 | some v=>cases v<;>first | exact λ h=>congrArg (λ s=>some (PV.str s)) (beq_iff_eq.mp h) | exact λ (h:false=true)=>rh h
theorem Gy:(bV.map (·.1)).Nodup:=by decide +kernel
theorem i8 {k:List Nat}{l:List (List Nat×Nat)}(h:k∉l.map (·.1)):aM k l=none:=by
 induction l with
 | nil=>rfl
 | cons q r ih=>exact (if_neg λ e=>h (Q2.mpr (.inl e))).trans (ih λ m=>h (N9 _ m))
theorem l8 {σ τ:aa}{i:Nat}{o:aN}(h:free σ)(e:τ[i]?=some o)(f:bQ o=true):gA false σ.length (σ++τ) (.loc (σ.length+i))=some (zp o,σ):=l9 h (by
 show (if σ.length+i<σ.length then _ else _)=_
 refine ru (if_neg (W5.mpr (P1 _ _))) (ru (fp ..) (ru e ?_))
 exact if_pos f)
theorem Af {n:Nat}{σ:aa}(rest:List (List Nat×Nat)):∀ done,done++rest=bV→cE (St n wM) (b3 true [1]) [1] ((rest.map Aj).map .int) [some (.loc σ.length),none] (σ++[iE done]) (.ok (.next [some (.loc σ.length),none]) (σ++[iE bV])):=by
 induction rest with
 | nil=>exact λ done e=>by refine ri e (ru (O3 ..) ?_);rfl
 | cons q rest ih =>
  intro done e
  have m:q∈bV:=by refine ri e ?_;exact O8 _ N2
  have nd:=Gy
  rw [← e,P6] at nd
  have hs:(eM (.loc σ.length) (.str q.1) (.int (q.2:Int)) (σ++[iE done])).map (λ σ'=>(PV.none,σ'))=some (.none,σ++[iE (done++[q])]):=by
   refine ru (oT (fp 0) (i8 (k:=q.1) (l:=done) λ m=>(Q0.mp nd).2.2 _ m _ N2 rfl) (O0 (by refine ri e (ru N5 ?_);exact P1 _ _) (show bV.length<ax by decide +kernel):done.length<ax)) ?_
   exact congrArg (λ z=>some (PV.none,z)) (lU (i:=0))
  exact aF rfl (be (ov (.str q.1) (.r .none (σ++[iE (done++[q])])::[])) λ H=>(H:_→_→_) (mX q m) hs) (ih (done++[q]) (by refine ru (N6 ..) ?_;exact e))
theorem qU {n:Nat}{σ:aa}(h:free σ):ar (n+1) 4 [] σ (.ok rY σ) :=
 (al rfl rfl (.n [some (.loc σ.length),none] (σ++[iE bV])::[]) λ H=>(H:_→_) (Af bV [] rfl) _ ⟨_,l8 h (i:=0) rfl (kS bV),rfl⟩)
noncomputable def lE (w:List Nat):Bool:=w.getLast?==some 58
noncomputable def du (w:List Nat):Bool:=[47,47].isPrefixOf w
noncomputable def fF:Nat→ae→List Nat→List Nat→Option (Except (List Nat×ae) (ae×List Nat×List Nat))
 | 0,_,_,_=>none
 | n+1,p,w,r=>if lE w&&!du w then (match aP p w.dropLast with
   | none=>some (.error (c7,p))
   | some p'=>fF n p' (ac r).1 (ac r).2) else some (.ok (p,w,r))
theorem qp {n:Nat}{p:ae}{w r:List Nat}:fF (n+1) p w r=if lE w&&!du w then (match aP p w.dropLast with
   | none=>some (.error (c7,p))
   | some p'=>fF n p' (ac r).1 (ac r).2) else some (.ok (p,w,r)):=rfl
noncomputable def fj:List Nat:=[46,116,114,121]
noncomputable def iT (p:ae)(num:Nat)(w r:List Nat):Except (List Nat×ae) ae :=
 if w=[]||du w then .ok p
 else if w=fj then .ok { p with cls:=p.cls++[(num,ai r)] }
 else match aM w bV with
  | some op=>.ok { p with rows:=p.rows++[(num,op,r)] }
  | none=>.error (Mz,p)
noncomputable def dX (n:Nat)(p:ae)(line:List Nat)(num:Nat):Option (Except (List Nat×ae) ae):=match fF n p (ac line).1 (ac line).2 with
 | none=>none
 | some (.error e)=>some (.error e)
 | some (.ok (p,w,r))=>some (iT p num w r)
theorem mJ (s:List Nat):(av s).length≤s.length:=by
 refine ru (kj ..) (ru z0w ?_)
 exact N1 (z2f sp).length_le (by refine ru z0w ?_;exact (z2f sp).length_le)
theorem i7 (s:List Nat):(ac s).1.length+(ac s).2.length≤s.length :=
 N1 (S5 (mJ _) _) (P0 ((N5).symm.trans (congrArg List.length z1e)))
theorem d7 (s:List Nat):(ai s).length≤s.length:=by
 have h1:=PyProof.Rows.sum_ge_count (Txt.words (aG s)) (StrLaws.words_pos (aG s))
 have h2:=StrLaws.words_weight (aG s)
 rw [lV] at h2
 refine ru (N3 ..) ?_
 (first | lia | omega)
theorem ve (w:List Nat):Txt.endswith (aG w) (aG [58])=lE w:=jT w 58
theorem mK (w:List Nat):Txt.startswith (aG w) (aG [47,47])=du w:=bG w [47,47]
theorem uu {p p':ae}{k:List Nat}(h:aP p k=some p'):p'.labs=p.labs++[(k,p.rows.length)]∧p'.rows=p.rows∧p'.cls=p.cls:=by
 unfold aP at h
 split at h
 ·exact b2 h
 ·cases h;exact ⟨rfl,rfl,rfl⟩
theorem Df {p p':ae}{k:List Nat}(h:aP p k=some p'):p'.labs.length=p.labs.length+1:=by refine ru ((uu h).1) (ru N5 ?_);rfl
theorem mO {w:List Nat}(h:1≤w.length):dN (.str w) .none (.int (-1))=some (.str w.dropLast):=by
 show some (PV.str (ba 0 (-1+(w.length:Int)).toNat w))=_
 refine ru (show (-1+(w.length:Int)).toNat=w.length-1 from (congrArg Int.toNat (Int.add_comm (-1) _)).trans (z3p w.length 1)) ?_
 unfold ba
 exact ru List.dropLast_eq_take (ru List.drop_zero (ru (Nat.sub_zero ..) rfl))
theorem nV {w:List Nat}(h:lE w=true):1≤w.length:=by
 cases w with
 | nil=>exact rh h
 | cons=>exact T6 _
theorem sD {k:List Nat}{p p':ae}{w r:List Nat}(hw:1≤w.length)(hp:aP p k=some p'):p'.labs.length+(ac r).1.length+(ac r).2.length≤p.labs.length+w.length+r.length :=
 N1 (P0 (z1v ..)) (R7 (N1 (P0 (Df hp)) (S5 hw _)) (i7 r))
set_option tactic.hygienic true in
theorem ik (n:Nat):∀ {p:ae} {w r:List Nat} {p':ae} {w' r':List Nat},fF n p w r=some (.ok (p',w',r'))→p'.labs.length+w'.length+r'.length≤p.labs.length+w.length+r.length∧p'.rows=p.rows∧p'.cls=p.cls:=by
 induction n with
 | zero=>exact λ h=>b2 h
 | succ n ih =>
  intro p w r p' w' r' h
  rw [qp] at h
  split at h
  ·rename_i hc
   cases hp:aP p w.dropLast with
   | none=>rw [hp] at h;exact nomatch h
   | some p₁ =>
    rw [hp] at h
    exact ⟨N1 (ih h).1 (sD (nV (aj hc)) hp),(ih h).2.1.trans (uu hp).2.1,(ih h).2.2.trans (uu hp).2.2⟩
  ·cases h;exact ⟨N8 _,rfl,rfl⟩
theorem lY {α β:Type}{f:α→β}{l:List α}{x:α}:l.map f++[f x]=(l++[x]).map f:=(P6 (l₁:=l) (l₂:=[x])).symm
theorem lk {σ τ:aa}{i:Nat}{vs:List PV}{v:PV}(h:τ[i]?=some (.lst vs))(hz:vs.length<ax):q9 (σ++τ) (.loc (σ.length+i)) v=some (.none,σ++τ.set i (.lst (vs++[v]))):=by
 show ((σ++τ)[σ.length+i]?).bind _=_
 refine ru (fp ..) (ru h ?_)
 exact (if_pos hz).trans (congrArg (λ z=>some (PV.none,z)) lU)
theorem vE {σ:aa}{p:ae}{q:Nat×List (List Nat)}(hz:p.cls.length<ax):q9 (dM σ p) (.loc (σ.length+2)) (oF q)=some (.none,dM σ { p with cls:=p.cls++[q] }) :=
 (lk (i:=2) rfl (by refine ru (N3 ..) ?_;exact hz)).trans (by refine ru lY ?_;rfl)
theorem tW {σ:aa}{p:ae}{q:Nat×Nat×List Nat}(hz:p.rows.length<ax):q9 (dM σ p) (.loc σ.length) (ow q)=some (.none,dM σ { p with rows:=p.rows++[q] }) :=
 (lk (i:=0) rfl (by refine ru (N3 ..) ?_;exact hz)).trans (by refine ru lY ?_;rfl)
theorem AP {σ:aa}{p:ae}:iJ (dM σ p) (.loc σ.length)=some (p.rows.map ow):=congrArg (Option.bind · eR) rD
theorem Dz {σ:aa}{p:ae}:iJ (dM σ p) (.loc (σ.length+2))=some (p.cls.map oF):=congrArg (Option.bind · eR) CO
theorem zF {σ:aa}{p p':ae}:(dM σ p').length=(dM σ p).length:=by exact ru lT (ru lT rfl)
noncomputable def I3 (σ:aa)(num:Nat):Except (List Nat×ae) ae→aY PV
 | .ok p=>.ok .none (dM σ p)
 | .error e=>.exc e.1 (num:Int) (dM σ e.2)
theorem sr {σ:aa}{k:List Nat}{b:Bool}(h:(aM k bV).isSome=b):bT .In (.str k) rY σ=some b:=ri h (congrArg some ((congrArg Option.isSome (jC k bV)).trans (Z8 ..)))
theorem DX {σ:aa}{k:List Nat}{v:Nat}(h:aM k bV=some v):bp rY (.str k) σ=some (.int (v:Int)):=(jC k bV).trans (by refine ru h ?_;rfl)
noncomputable def Lc:IE:=.and (.tru (.m1 .endswith (.v 4) (.c (.str [58])))) (.nott (.tru (.m1 .startswith (.v 4) (.c (.str [47,47])))))
noncomputable def tz (l:Nat)(line:List Nat)(num:Nat)(w r:List Nat):am:=[some (mV l),some rY,some (.str line),some (.int (num:Int)),some (.str w),some (.str r)]
noncomputable def L8 (σ:aa)(line:List Nat)(num:Nat):Except (List Nat×ae) (ae×List Nat×List Nat)→aY cO
 | .error e=>.exc e.1 (num:Int) (dM σ e.2)
 | .ok b=>.ok (.next (tz σ.length line num b.2.1 b.2.2)) (dM σ b.1)
theorem Ba {n num:Nat}{line:List Nat}{σ:aa}(h:free σ)(k:Nat):∀ {p w r x},p.labs.length+w.length+r.length<1000000→fF k p w r=some x→Wh (n+2) Lc td [] (tz σ.length line num w r) (dM σ p) (L8 σ line num x):=by
 induction k with
 | zero=>exact λ Z9 e=>b2 e
 | succ k ih =>
  intro p w r x hz e
  rw [qp] at e
  cases h1:lE w with
  | false=>rw [h1] at e;cases e;exact fQ (cG (ob false []) λ H=>(H:_→_) (congrArg some ((ve w).trans h1)))
  | true =>
   cases h2:du w with
   | true=>rw [h1,h2] at e;cases e;exact fQ (cG (ob true (aw 1 (ob true []))) λ H=>(H:_→_→_) (congrArg some ((ve w).trans h1)) (congrArg some ((mK w).trans h2)))
   | false =>
    rw [h1,h2] at e
    have e:(match aP p w.dropLast with | none=>some (.error (c7,p)) | some p'=>fF k p' (ac r).1 (ac r).2)=some x:=e
    have hw:=nV h1
    have hf:=bW (p:=p) h
    have C:=oG (n:=n) (p:=p) (k:=w.dropLast) (m:=(num:Int)) h (O0 (N1 (P1 _ _) (P1 _ _)) (P8 hz (by decide)))
    have go:Ev (n+2) Lc (tz σ.length line num w r) (dM σ p) (.ok (.bool true) (dM σ p)):=(cG (ob true (aw 1 (ob false []))) λ H=>(H:_→_→_) (congrArg some ((ve w).trans h1)) (congrArg some ((mK w).trans h2)))
    revert e C
    cases hp:aP p w.dropLast with
    | none=>exact λ e C=>by cases e;exact ua (c:=Lc) go (be (ov (.str w.dropLast) (.x c7 (num:Int) (dM σ p)::[])) λ H=>(H:_→_→_) (mO hw) C) trivial
    | some p'=>exact λ e C=>lS (c:=Lc) go (be (ov (.str w.dropLast) (.r .none (dM σ p')::(ov (.tup [.str (ac r).1,.str (ac r).2]) []))) λ H=>(H:_→_→_→_) (mO hw) C (eD (n:=n+1) (bW h))) (ih (O0 (sD hw hp) hz) e)
set_option tactic.hygienic true in
theorem Fi {m:Bool}{ρ:am}{σ:aa}{p p':ae}(h:free σ):fq m (dM σ p).length (.ok (.next ρ) (dM σ p')) (.ok .none (dM σ p')):=Fj (bW h) zF
noncomputable def Nu:IS:=match FA with
 | .sq _ (.sq _ r)=>r
 | _=>.sk
theorem zV {n:Nat}{p:ae}{line w r:List Nat}{num:Nat}{σ:aa}(h:free σ)(hz:p.rows.length+p.cls.length<1000000)(hr:r.length<1000000):∃ ro,St (n+2) Nu (tz σ.length line num w r) (dM σ p) ro∧∀ p₀,fq false (dM σ p₀).length ro (I3 σ num (iT p num w r)):=by
 have hl:∀ {k:Nat},k<1000000→k<ax:=λ h=>P8 h (by decide)
 have c1:=mK w
 unfold iT
 by_cases h1:w=[]
 ·subst h1
  exact ⟨_,(be (aw 1 (ob true [])) λ H=>H),λ p₀=>I0 (bW h) zF rfl⟩
 cases h2:du w with
 | true=>exact ⟨_,(be (ob false (ob true [])) λ H=>(H:_→_→_) (zQ h1) (congrArg some (c1.trans h2))),λ p₀=>by refine ru (Z4 ..) ?_;exact I0 (bW h) zF rfl⟩
 | false =>
  refine ru (decide_eq_false h1) ?_
  by_cases h3:w=fj
  ·subst h3
   exact ⟨_,(be (aw 1 (ob false (aw 1 (aw 1 (aw 1 (.l (p.cls.map oF) []::(.r .none (dM σ { p with cls:=p.cls++[(num,ai r)] })::[]))))))) λ H=>(H:_→_→_→_→_) (congrArg some (c1.trans h2)) Dz (N1 (d7 r) (T3 (hl hr))) (vE (q:=(num,ai r)) (hl (O0 (z1k _ _) hz)))),λ p₀=>Fi h⟩
  ·refine ru (if_neg h3) ?_
   cases h4:aM w bV with
   | none=>exact ⟨_,(be (ob false (ob false (aw 1 (ob false (ob false []))))) λ H=>(H:_→_→_→_→_) (zQ h1) (congrArg some (c1.trans h2)) (zQ h3) (sr (congrArg Option.isSome h4))),λ p₀=>Ku (bW h) zF⟩
   | some op=>exact ⟨_,(be (ob false (ob false (aw 1 (ob false (ob true (aw 1 (.l (p.rows.map ow) []::(ov (.int (op:Int)) (.r .none (dM σ { p with rows:=p.rows++[(num,op,r)] })::[]))))))))) λ H=>(H:_→_→_→_→_→_→_→_) (zQ h1) (congrArg some (c1.trans h2)) (zQ h3) (sr (congrArg Option.isSome h4)) AP (DX h4) (tW (q:=(num,op,r)) (hl (O0 (P1 _ _) hz)))),λ p₀=>Fi h⟩
theorem vp {n k:Nat}{p:ae}{line:List Nat}{num:Nat}{σ:aa}{r:Except (List Nat×ae) ae}(h:free σ)(hz:p.labs.length+line.length<1000000)(hr:p.rows.length+p.cls.length<1000000)(e:dX k p line num=some r):ar (n+3) 10 [mV σ.length,rY,.str line,.int (num:Int)] (dM σ p) (I3 σ num r):=by
 have hl:=O0 (N1 (P0 (z1v ..)) (S5 (i7 line) p.labs.length)) hz
 have L:=λ {x}=>Ba (n:=n) (num:=num) (line:=line) h k (p:=p) (w:=(ac line).1) (r:=(ac line).2) (x:=x) hl
 unfold dX at e
 cases hg:fF k p (ac line).1 (ac line).2 with
 | none=>rw [hg] at e;exact b2 e
 | some x =>
  rw [hg] at e
  cases x with
  | error er=>cases e;exact (al rfl rfl (ov (.tup [.str (ac line).1,.str (ac line).2]) (.x er.1 (num:Int) (dM σ er.2)::[])) λ H=>(H:_→_→_) ((eD (n:=n+1) (s:=line) (bW (p:=p) h))) ((L hg)) _ (Ku (bW h) zF))
  | ok b =>
   cases e
   refine (zV (n:=n) (p:=b.1) (line:=line) (w:=b.2.1) (r:=b.2.2) (num:=num) h (by refine ru (ik k hg).2.1 (ru (ik k hg).2.2 ?_);exact hr) (O0 (N1 (z1k _ _) (ik k hg).1) hl)).elim λ ro w1z=>w1z.elim λ R1 R2=>?_
   exact (al rfl rfl (ov (.tup [.str (ac line).1,.str (ac line).2]) (.n (tz σ.length line num b.2.1 b.2.2) (dM σ b.1)::(.s ro::[]))) λ H=>(H:_→_→_→_) ((eD (n:=n+1) (s:=line) (bW (p:=p) h))) ((L hg)) R1 _ (R2 p))
end
noncomputable section
set_option tactic.hygienic true in
theorem nz (n:Nat):∀ {p:ae} {w r:List Nat},w.length+r.length<n→∃ x,fF n p w r=some x:=by
 induction n with
 | zero=>exact λ h=>MW h
 | succ n ih =>
  intro p w r h
  refine ru qp ?_
  split
  ·rename_i hc
   have hw:=nV (aj hc)
   cases aP p w.dropLast with
   | none=>exact ⟨_,rfl⟩
   | some p'=>exact ih (O0 (i7 r) (by (first | lia | omega)))
  ·exact ⟨_,rfl⟩
noncomputable def fc (p:ae)(line:List Nat)(num:Nat):Except (List Nat×ae) ae:=((dX (line.length+1) p line num).getD (.ok p))
theorem uo {p:ae}{line:List Nat}{num:Nat}:dX (line.length+1) p line num=some (fc p line num):=by
 refine (nz (line.length+1) (p:=p) (Q8 (i7 line))).elim λ x hx=>?_
 unfold fc dX
 refine ru hx ?_
 cases x<;>rfl
theorem zW {p p':ae}{line:List Nat}{num:Nat}(h:fc p line num=.ok p'):p'.labs.length≤p.labs.length+line.length∧p'.rows.length+p'.cls.length≤p.rows.length+p.cls.length+1:=by
 have hl:=i7 line
 refine (nz (line.length+1) (p:=p) (Q8 hl)).elim λ x hx=>?_
 unfold fc dX at h
 rw [hx] at h
 cases x with
 | error e=>exact nomatch h
 | ok b =>
  refine (ik _ hx).elim λ g1 w1z=>w1z.elim λ g2 g3=>?_
  have h:iT b.1 num b.2.1 b.2.2=.ok p':=h
  have g0:b.1.labs.length≤p.labs.length+line.length:=by (first | lia | omega)
  unfold iT at h
  refine ri g2 (ri g3 ?_)
  split at h
  ·cases h;exact ⟨g0,U4 _⟩
  ·split at h
   ·cases h;exact ⟨g0,P0 (congrArg (b.1.rows.length+·) N5)⟩
   ·split at h
    ·cases h;exact ⟨g0,P0 ((congrArg (·+b.1.cls.length) N5).trans (S4 _ 1 _))⟩
    ·exact nomatch h
noncomputable def bc:ae→Nat→List (List Nat)→Except (List Nat×Nat×ae) ae
 | p,_,[]=>.ok p
 | p,k,l::r=>match fc p (av l) (k+1) with
  | .ok p'=>bc p' (k+1) r
  | .error e=>.error (e.1,k+1,e.2)
theorem zv {p:ae}{k:Nat}{l:List Nat}{r:List (List Nat)}:bc p k (l::r)=(match fc p (av l) (k+1) with
  | .ok p'=>bc p' (k+1) r
  | .error e=>.error (e.1,k+1,e.2)):=rfl
noncomputable def yF:List (List Nat×Nat)→PV
 | []=>.dctI [] []
 | q::r=>.dctS ((q::r).map (·.1)) ((q::r).map ny)
noncomputable def bf (p:ae):PV:=.inst 1 [Ar,As,GK] [.lst (p.rows.map ow),yF p.labs,.lst (p.cls.map oF)]
noncomputable def IO (ρ:Nat→am)(σ:aa)(k:Nat):Except (List Nat×Nat×ae) ae→aY cO
 | .ok p=>.ok (.next (ρ k)) (dM σ p)
 | .error e=>.exc e.1 (e.2.1:Int) (dM σ e.2.2)
noncomputable def HH (text:List Nat)(l k:Nat):am:=[some (.str text),some (mV l),some rY,some (.int (k:Int)),none]
theorem xO {n:Nat}{text:List Nat}{σ:aa}(h:free σ)(ls:List (List Nat)):∀ p k,k+ls.length≤900→p.labs.length≤1000*k→p.rows.length+p.cls.length≤k→(∀ l∈ls,l.length<1000)→cE (St (n+3) wI) (b3 true [4]) [4] (ls.map .str) (HH text σ.length k) (dM σ p) (IO (HH text σ.length) σ (k+ls.length) (bc p k ls)):=by
 induction ls with
 | nil=>exact λ Z9 Z9 Z9 Z9 Z9 Z9=>rfl
 | cons l ls ih =>
  intro p k hk h1 h2 hl
  have hs:=O0 (mJ l) (hl l N2)
  have C:=vp (n:=n) (num:=k+1) (line:=av l) (p:=p) h (by (first | lia | omega)) (by (first | lia | omega)) uo
  refine ru zv ?_
  cases hr:fc p (av l) (k+1) with
  | ok p' =>
   rw [hr] at C
   have g:=zW hr
   have i:=ih p' (k+1) (by refine ru (S4 ..) ?_;exact hk:k+1+ls.length≤900) (by (first | lia | omega)) (N1 g.2 (P3 h2)) λ l m=>hl l (N9 _ m)
   rw [S4] at i
   exact aF rfl (be (.r .none (dM σ p')::[]) λ H=>(H:_→_) C) i
  | error e =>
   rw [hr] at C
   exact iu rfl (be (.x e.1 ((k+1:Nat):Int) (dM σ e.2)::[]) λ H=>(H:_→_) C) trivial
theorem nR {σ τ:aa}{i:Nat}{o:aN}(e:τ[i]?=some o)(f:bQ o=true):nS (σ++τ) σ.length (.loc (σ.length+i))=some (zp o):=by
 show (if σ.length+i<σ.length then _ else _)=_
 refine ru (if_neg (W5.mpr (P1 _ _))) (ru (fp ..) (ru e ?_))
 exact if_pos f
theorem LY {α β:Type}{f:α→Option β}{a b c:α}{x y z:β}(h1:f a=some x)(h2:f b=some y)(h3:f c=some z):i3 f [a,b,c]=some [x,y,z]:=by
 show (f a).bind _=_
 refine ru h1 ?_
 show ((f b).bind _).map _=_
 refine ru h2 ?_
 show (((f c).bind _).map _).map _=_
 refine ru h3 ?_;rfl
theorem yN {σ:aa}{p:ae}:Ko (dM σ p) σ.length (mV σ.length)=some (bf p):=by
 refine (congrArg (Option.map (PV.inst 1 [Ar,As,GK])) (LY (nR (i:=0) (o:=.lst (p.rows.map ow)) rfl (ay λ Z9=>rfl)) (nR (i:=1) rfl (kS p.labs)) (nR (i:=2) (o:=.lst (p.cls.map oF)) rfl (ay pB)))).trans ?_
 cases h:p.labs<;>(unfold bf;refine ru h ?_;rfl)
noncomputable def IN (σ:aa):Except (List Nat×Nat×ae) ae→aY PV
 | .ok p=>.ok (bf p) σ
 | .error e=>.exc e.1 (e.2.1:Int) σ
theorem n9 {n:Nat}{text:List Nat}{σ:aa}(h:free σ)(hl:(aq 10 text).length≤900)(hc:∀ l∈aq 10 text,l.length<1000):ar (n+4) 9 [.str text] σ (IN σ (bc {} 0 (aq 10 text))):=by
 have L:=xO (n:=n) (text:=text) h (aq 10 text) {} 0 (by refine ru (R9 ..) ?_;exact hl) (P4 _) (P4 _) hc
 have O:=qU (n:=n+2) (σ:=dM σ {}) (bW h)
 have hs:(aq 10 text).length≤ax:=N1 hl (by decide)
 revert L
 cases bc {} 0 (aq 10 text) with
 | ok p=>exact λ L=>(al rfl rfl (ov rY (.n (HH text σ.length (0+(aq 10 text).length)) (dM σ p)::[])) λ H=>(H:_→_→_→_) O hs L _ ⟨_,l9 h yN,rfl⟩)
 | error e=>exact λ L=>(al rfl rfl (ov rY (.x e.1 (e.2.1:Int) (dM σ e.2.2)::[])) λ H=>(H:_→_→_→_) O hs L _ (oD h))
end
noncomputable section
noncomputable def a7:List (List Nat×PV):=[([109,121,32,32,107,105,110,100],.int 41),([105,110,116],.int 7),([109,121,32,107,105,110,100],.int 41),([97,32,116,111,32,98],.int 42),([76,105,115,116,60,105,110,116,62],.int 43),([105,110,116,51,50],.int 7),([],.int 44)]
noncomputable def dz:List (List Nat×PV):=[([65,58,58,102],.tup [.int 20,.int 64]),([66,32,58,58,32,102],.tup [.int 21,.int 64]),([102],.tup [.int 20,.int 65])]
noncomputable def fC:List (List Nat×PV):=[([65,58,58,109],.tup [.int 20,.int 256,.tup []]),([65,58,58,109,32,60,105,110,116,62],.tup [.int 20,.int 256,.tup [.int 7]]),([110,101,119],.tup [.int 7,.int 0,.tup []])]
noncomputable def dP (l:List (List Nat×PV)):PV:=.dctS (l.map (·.1)) (l.map (·.2))
noncomputable def aH:PV:=.inst 0 [[107,105,110,100,115],[102,105,101,108,100,115,95],[109,101,116,104,111,100,115]] [dP a7,dP dz,dP fC]
noncomputable def mr:List Nat:=[116,97,114,103,101,116]
noncomputable def ms:List Nat:=[110,117,109,98,101,114]
noncomputable def Ce:List Nat:=[114,97,110,103,101]
noncomputable def FU:List Nat:=[116,101,120,116]
noncomputable def qW:List Nat:=[101,115,99,97,112,101]
noncomputable def xu:List Nat:=[115,119,105,116,99,104]
noncomputable def gz:List Nat:=[110,97,109,101]
noncomputable def fO:List Nat:=[111,112,101,114,97,110,100]
noncomputable def j1:List Nat:=[99,108,97,117,115,101]
theorem we {σ:aa}{l:List (List Nat×Nat)}{k:List Nat}{b:Bool}(h:(aM k l).isSome=b):bT .NotIn (.str k) (yF l) σ=some (!b):=by
 refine (show bT .NotIn (.str k) (yF l) σ=(((df σ (yF l)).bind λ o=>(dF o (.str k)).map (·.isSome)).map (!·)) by cases l<;>rfl).trans ?_
 refine ru (by cases l<;>rfl:df σ (yF l)=some (iE l)) (ri h ?_)
 exact (congrArg (λ o=>Option.map (!·) (Option.map (·.isSome) o)) (o8 k l)).trans (congrArg (λ b=>some !b) (Z8 ..))
theorem By {σ:aa}{l:List (List Nat×Nat)}{k:List Nat}{v:Nat}(h:aM k l=some v):bp (yF l) (.str k) σ=some (.int (v:Int)):=by
 cases l with
 | nil=>exact b2 h
 | cons q r=>exact (jC k (q::r)).trans (congrArg (Option.map _) h)
noncomputable def cf {α:Type}(f:α→PV)(num:Int)(σ:aa):Except (List Nat) α→aY PV
 | .ok a=>.ok (f a) σ
 | .error c=>.exc c num σ
noncomputable def aJ (p:ae)(k:List Nat):Except (List Nat) Nat:=match aM k p.labs with | some v=>.ok v | none=>.error c7
theorem eE {n:Nat}{p:ae}{k:List Nat}{num:Int}{σ:aa}(h:free σ):ar (n+1) 12 [bf p,.str k,.int num] σ (cf ag num σ (aJ p k)):=by
 unfold aJ
 cases hk:aM k p.labs with
 | none=>exact (al rfl rfl (aw 1 (ob true [])) λ H=>(H:_→_) (we (congrArg Option.isSome hk)) _ (cu h))
 | some v=>exact (al rfl rfl (aw 1 (ob false (aw 1 (ov (ag v) [])))) λ H=>(H:_→_→_) (we (congrArg Option.isSome hk)) (By hk) _ (bB h rfl))
noncomputable def bg (p:ae)(k:List Nat):Except (List Nat) Nat:=match aM k p.labs with | some v=>(if v<p.rows.length then .ok v else .error mr) | none=>.error c7
theorem iN {n:Nat}{p:ae}{k:List Nat}{num:Int}{σ:aa}(h:free σ):ar (n+2) 13 [bf p,.str k,.int num] σ (cf ag num σ (bg p k)):=by
 have C:=eE (n:=n) (p:=p) (k:=k) (num:=num) h
 have hl:(jE σ (.lst (p.rows.map ow))).map (λ n:Nat=>PV.int (n:Int))=some (ag p.rows.length):=congrArg (λ n:Nat=>some (ag n)) (N3 ..)
 revert C
 unfold bg aJ
 cases hk:aM k p.labs with
 | none=>exact λ C=>(al rfl rfl (.x c7 num σ::[]) λ H=>(H:_→_) C _ (cu h))
 | some v =>
  intro C
  by_cases hv:v<p.rows.length
  ·show ar _ _ _ _ (cf ag num σ (if v<p.rows.length then _ else _))
   refine ru (if_pos hv) ?_
   exact (al rfl rfl (ov (ag v) (aw 1 (ov (ag p.rows.length) (ob false [])))) λ H=>(H:_→_→_→_) C hl (Lb (Y7.mpr (R8.mpr hv))) _ (bB h rfl))
  ·show ar _ _ _ _ (cf ag num σ (if v<p.rows.length then _ else _))
   refine ru (if_neg hv) ?_
   exact (al rfl rfl (ov (ag v) (aw 1 (ov (ag p.rows.length) (ob true [])))) λ H=>(H:_→_→_→_) C hl (KD (V5.mpr (W5.mp hv))) _ (cu h))
noncomputable def bS:List Nat:=[48,49,50,51,52,53,54,55,56,57]
theorem yU:∀ c∈bS,(nM [c] bS).map (λ i:Nat=>PV.int (i:Int))=some (ag (c-48)):=by
 exact λ c m=>congrArg (Option.map _) ((by decide +kernel:∀ c∈bS,nM [c] bS=some (c-48)) c m)
noncomputable def dJ:Int→List Nat→Option Int
 | n,[]=>some n
 | n,c::r=>if c∈bS then dJ (n*10+((c-48:Nat):Int)) r else none
noncomputable def cI (s:List Nat):List Nat:=if [45].isPrefixOf s||[43].isPrefixOf s then s.drop 1 else s
noncomputable def dp (s:List Nat)(lo hi:Int):Except (List Nat) Int:=if cI s=[] then .error ms else match dJ 0 (cI s) with
 | none=>.error ms
 | some n=>let m:=if [45].isPrefixOf s then -n else n
  if m<lo∨m > hi then .error Ce else .ok m
section
variable {n:Nat} {s u:List Nat} {lo hi num:Int} {σ:aa}
noncomputable def pr (s:List Nat)(lo hi num:Int)(u:List Nat)(m:Option PV):am:=[some (.str s),some (.int lo),some (.int hi),some (.int num),some (.str u),m,none]
theorem BY (us:List Nat):∀ (m:Int) (i:Nat),0≤m→m<((10 ^ i:Nat):Int)→i+us.length≤70→cE (St n s9) (b3 true [6]) [6] (us.map fM) (pr s lo hi num u (some (.int m))) σ (match dJ m us with | some m=>.ok (.next (pr s lo hi num u (some (.int m)))) σ | none=>.exc ms num σ):=by
 induction us with
 | nil=>exact λ Z9 Z9 Z9 Z9 Z9=>rfl
 | cons c us ih =>
  intro m i h0 h1 hi'
  refine ru (show dJ m (c::us)=if c∈bS then dJ (m*10+((c-48:Nat):Int)) us else none from rfl) ?_
  by_cases hc:c∈bS
  ·refine ru (if_pos hc) ?_
   have c9:((c-48:Nat):Int)≤9:=V5.mpr ((show ∀ c∈bS,c-48≤9 by decide) c hc)
   exact aF rfl (be (ob false (ov (ag (c-48)) [])) λ H=>(H:_→_→_→_→_) (qd (X1.mpr hc)) ((decide_eq_true (S7 (R8.mp (by refine ru (Int.natAbs_of_nonneg h0) ?_;exact h1)) (N1 (Nat.pow_le_pow_right (by decide) (N1 (P1 _ _) hi'):10 ^ i≤10 ^ 70) (by decide))):m8 m=true)) rfl (yU c hc)) (ih _ (i+1) (by (first | lia | omega)) (by refine ru (Nat.pow_succ ..) ?_;(first | lia | omega)) (by refine ru (S4 ..) ?_;exact hi'))
  ·refine ru (if_neg hc) ?_
   exact iu rfl (be (ob true []) λ H=>(H:_→_) (qd (z0d.mpr λ q=>hc (X1.mp q)))) trivial
noncomputable def MS:IS:=match Fy with
 | .sq _ (.sq _ r)=>r
 | _=>.sk
noncomputable def I5:IS:=match MS with
 | .sq _ (.sq _ (.sq _ r))=>r
 | _=>.sk
noncomputable def LH:IS:=match I5 with
 | .sq _ r=>r
 | _=>.sk
noncomputable def Gn (lo hi m:Int):Except (List Nat) Int:=if m<lo∨m > hi then .error Ce else .ok m
theorem Ff (h:free σ)(m:Int):∃ ro,St n LH (pr s lo hi num u (some (.int m))) σ ro∧fq false σ.length ro (cf .int num σ (Gn lo hi m)):=by
 unfold Gn
 by_cases c1:m<lo
 ·refine ru (if_pos (.inl c1)) ?_;exact ⟨_,(be (ob true []) λ H=>(H:_→_) (EB c1)),cu h⟩
 ·by_cases c2:m > hi
  ·refine ru (if_pos (.inr c2)) ?_;exact ⟨_,(be (ob false (ob true [])) λ H=>(H:_→_→_) (qN c1) (congrArg some (decide_eq_true c2))),cu h⟩
  ·refine ru (if_neg λ q=>q.elim c1 c2) ?_;exact ⟨_,(be (ob false (ob false [])) λ H=>(H:_→_→_) (qN c1) (congrArg some (decide_eq_false c2))),bB h rfl⟩
theorem Jb (h:free σ)(m:Int):∃ ro,St n I5 (pr s lo hi num u (some (.int m))) σ ro∧fq false σ.length ro (cf .int num σ (Gn lo hi (if [45].isPrefixOf s then -m else m))):=by
 have e:=bG s [45]
 cases h45:[45].isPrefixOf s with
 | true=>exact (Ff h (-m)).imp λ ro w=>⟨(be (ob true (aw 1 (.k::(.s ro::[])))) λ H=>(H:_→_→_) (congrArg some (e.trans h45)) w.1),w.2⟩
 | false=>exact (Ff h m).imp λ ro w=>⟨(be (ob false (aw 1 (.s ro::[]))) λ H=>(H:_→_→_) (congrArg some (e.trans h45)) w.1),w.2⟩
theorem Jc (h:free σ)(hs:(cI s).length≤70):∃ ro,St n MS (pr s lo hi num (cI s) none) σ ro∧fq false σ.length ro (cf .int num σ (dp s lo hi)):=by
 unfold dp
 by_cases hz:cI s=[]
 ·refine ru (if_pos hz) (ru hz ?_);exact ⟨_,(be [] λ H=>H),cu h⟩
 ·refine ru (if_neg hz) ?_
  have L:=BY (n:=n) (s:=s) (u:=cI s) (lo:=lo) (hi:=hi) (num:=num) (σ:=σ) (cI s) 0 0 (by decide) (by decide) (by refine ru (R9 ..) ?_;exact hs)
  revert L
  cases dJ 0 (cI s) with
  | none=>exact λ L=>⟨_,(be (ob false (.x ms num σ::[])) λ H=>(H:_→_→_) (zQ hz) L),cu h⟩
  | some m=>exact λ L=>(Jb h m).imp λ ro w=>⟨(be (ob false (.n (pr s lo hi num (cI s) (some (.int m))) σ::(.s ro::[]))) λ H=>(H:_→_→_→_) (zQ hz) L w.1),w.2⟩
theorem tO (h:free σ)(hs:s.length≤70):ar (n+1) 14 [.str s,.int lo,.int hi,.int num] σ (cf .int num σ (dp s lo hi)):=by
 have R:=Jc (n:=n) (s:=s) (lo:=lo) (hi:=hi) (num:=num) h (by unfold cI;split<;>first | exact hs | exact N1 (ru V4 (z0a _ _)) hs)
 obtain ⟨ro,R,B⟩:=R
 unfold cI at R
 cases h45:[45].isPrefixOf s with
 | true =>
  rw [h45] at R
  have p:1≤s.length:=by cases s with | nil=>exact rh h45 | cons=>exact T6 _
  exact (al rfl rfl (ob true (aw 1 (.k::(ov (.str (s.drop 1)) (.s ro::[]))))) λ H=>(H:_→_→_→_) (congrArg some ((bG s [45]).trans h45)) ((n5 (k:=1):1≤s.length→dN (.str s) (.int 1) .none=some (.str (s.drop 1))) p) R _ B)
 | false =>
  cases h43:[43].isPrefixOf s with
  | true =>
   rw [h45,h43] at R
   have p:1≤s.length:=by cases s with | nil=>exact rh h43 | cons=>exact T6 _
   exact (al rfl rfl (ob false (aw 1 (ob true (aw 1 (.k::(ov (.str (s.drop 1)) (.s ro::[]))))))) λ H=>(H:_→_→_→_→_) (congrArg some ((bG s [45]).trans h45)) (congrArg some ((bG s [43]).trans h43)) ((n5 (k:=1):1≤s.length→dN (.str s) (.int 1) .none=some (.str (s.drop 1))) p) R _ B)
  | false =>
   rw [h45,h43] at R
   exact (al rfl rfl (ob false (aw 1 (ob false (aw 1 (.s ro::[]))))) λ H=>(H:_→_→_→_) (congrArg some ((bG s [45]).trans h45)) (congrArg some ((bG s [43]).trans h43)) R _ B)
end
end
noncomputable section
section
variable {σ:aa} {vs ws:List PV} {v:PV}
theorem dq {o:aN}:(σ++[o])[σ.length]?=some o:=S9
theorem ji {o o':aN}:(σ++[o]).set σ.length o'=σ++[o']:=lU (i:=0)
theorem mD (h:vs.length<ax):q9 (σ++[.lst vs]) (.loc σ.length) v=some (.none,σ++[.lst (vs++[v])]):=lk (i:=0) rfl h
theorem bb:iJ (σ++[.lst vs]) (.loc σ.length)=some vs:=congrArg (Option.bind · eR) dq
theorem bk:bw (σ++[.lst vs]) (.loc σ.length)=some vs:=congrArg (Option.bind · eR) dq
theorem ue (h:vs.length+ws.length≤ax):Hx (σ++[.lst vs]) (.loc σ.length) (.tup ws)=some (.none,σ++[.lst (vs++ws)]):=by
 show ((σ++[aN.lst vs])[σ.length]?).bind _=_
 refine ru dq ?_
 exact (if_pos (by refine ru N5 ?_;exact h)).trans (congrArg (λ z=>some (PV.none,z)) ji)
theorem br (h:free σ)(hv:noLocs vs=true):free (σ++[.lst vs]):=gQ h (N4.mpr ⟨hv,rfl⟩)
theorem vQ (h:free σ)(hv:noLocs vs=true):fq false σ.length (.ok (.ret (.loc σ.length)) (σ++[.lst vs])) (.ok (.lst vs) σ):=⟨_,l8 h (i:=0) rfl hv,rfl⟩
end
theorem GE (l:List Int):noLocs (l.map .int)=true:=ay λ Z9=>rfl
theorem b6 (l:List (List Nat)):noLocs (l.map .str)=true:=ay λ Z9=>rfl
theorem zC (l:List (List Nat)):i3 jp (l.map .str)=some l:=by
 induction l with
 | nil=>rfl
 | cons a r ih=>exact congrArg (Option.map (a::·)) ih
theorem cq {σ:aa}{x:PV}{sep:List Nat}{l:List (List Nat)}(h:bw σ x=some (l.map .str))(hs:sep.length≤1000)(hl:(ah sep l).length≤ax):wE σ sep x=some (.str (ah sep l)):=by
 unfold wE
 refine ru h ?_
 show (i3 jp (l.map .str)).bind _=_
 refine ru (zC ..) ?_
 exact if_pos ⟨hs,hl⟩
theorem kW (l:List (List Nat)):ah [] l=l.flatten:=by
 induction l with
 | nil=>rfl
 | cons a r ih=>cases r with
  | nil=>exact (O3 a).symm
  | cons b r=>exact (congrArg (a++[]++·) ih).trans (by refine ru (O3 ..) ?_;rfl)
theorem im (l:List Nat):ah [] (l.map λ c=>[c])=l:=by
 refine ru (kW ..) ?_
 induction l with
 | nil=>rfl
 | cons a r ih=>exact congrArg (a::·) ih
noncomputable def eh (c:Nat):List Nat:=if c<65536 then [c] else [55296+(c-65536) / 1024,56320+((c-65536) &&& 1023)]
noncomputable def ES (t:List Nat):List Nat:=t.flatMap eh
theorem vn {n c:Nat}{σ:aa}(h:free σ):ar (n+1) 0 [.int (c:Int)] σ (.ok (.tup ((eh c).map ag)) σ):=by
 unfold eh
 by_cases hc:c<65536
 ·refine ru (if_pos hc) ?_
  exact (al rfl rfl (ob true []) λ H=>(H:_→_) (EB (R8.mpr hc)) _ (bB h rfl))
 ·refine ru (if_neg hc) ?_
  obtain ⟨d,rfl⟩:∃ d,c=d+65536:=⟨c-65536,by (first | lia | omega)⟩
  have e:((d+65536:Nat):Int)-65536=(d:Int):=by (first | lia | omega)
  have R:=(al (n:=n) (f:=0) (vs:=[.int ((d+65536:Nat):Int)]) (σ:=σ) (fd:=⟨1,1,false,JX⟩) (r:=.ok (.tup [.int (55296+(((d+65536:Nat):Int)-65536) / 2 ^ 10),.int (56320+((((d+65536:Nat):Int)-65536).toNat &&& 1023:Nat))]) σ) rfl rfl (ob false []) λ H=>(H:_→_→_→_) (qN (λ q=>hc (R8.mp q))) (by decide) (⟨by refine ru e ?_;exact Q7 _,by decide⟩) _ (bB h rfl))
  rw [e] at R
  refine ru (z2w ..) ?_
  exact R
theorem mM (c:Nat):(eh c).length≤2:=by unfold eh;split<;>first | exact U4 1 | exact N8 2
theorem xT {c:Nat}(h:c<1114112):∀ d∈eh c,d<1114112:=by
 unfold eh
 split
 ·exact N7.mpr ⟨h,O1 _⟩
 ·exact N7.mpr ⟨by (first | lia | omega),N7.mpr ⟨O0 (S5 Nat.and_le_right _) (by decide),O1 _⟩⟩
theorem F7 {t:List Nat}(h:∀ c∈t,c<1114112):∀ d∈ES t,d<1114112:=λ d hd=>(W7.mp hd).elim λ c w=>xT (h c w.1) d w.2
theorem CJ (t:List Nat):(ES t).length≤2*t.length:=by
 induction t with
 | nil=>exact N8 0
 | cons a r ih =>
  refine ru N5 (ru (z2c ..) (ru (W9 ..) ?_))
  exact R7 ih (mM a)
theorem zk {n:Nat}{x:PV}{σ:aa}(h:free σ)(t:List Nat):∀ d:List Nat,d.length+2*t.length≤ax→cE (St (n+1) wO) (b3 true [2]) [2] (t.map fM) [some x,some (.loc σ.length),none] (σ++[.lst (d.map ag)]) (.ok (.next [some x,some (.loc σ.length),none]) (σ++[.lst ((d++ES t).map ag)])):=by
 induction t with
 | nil=>exact λ d Z9=>ri ((O3 d).symm) rfl
 | cons c t ih =>
  intro d hd
  have hs:=mM c
  have hd:d.length+(2*t.length+2)≤ax:=hd
  have i:=ih (d++eh c) (by refine ru N5 ?_;(first | lia | omega))
  rw [N6,P6 (l₁:=d) (l₂:=eh c)] at i
  exact aF rfl (be (.l (d.map ag) []::(ov (.tup ((eh c).map ag)) (.r .none (σ++[aN.lst (d.map ag++(eh c).map ag)])::[]))) λ H=>(H:_→_→_→_) bb ((vn (n:=n) (c:=c) (br (σ:=σ) (vs:=d.map ag) h (ay λ Z9=>rfl)))) (ue (by refine ru (N3 ..) (ru (N3 ..) ?_);(first | lia | omega)))) i
theorem Ca {n:Nat}{t:List Nat}{σ:aa}(h:free σ)(hl:t.length<1000000):ar (n+2) 1 [.str t] σ (.ok (.lst ((ES t).map ag)) σ) :=
 (al rfl rfl (.n [some (.str t),some (.loc σ.length),none] (σ++[aN.lst ((ES t).map ag)])::[]) λ H=>(H:_→_) ((zk (n:=n) (x:=.str t) h t [] (N1 (P0 (R9 _)) (N1 (U3 2 (T3 hl)) (by decide))))) _ (vQ h (ay λ Z9=>rfl)))
theorem eA {α:Type}{T:PV→List PV→Prop}{g r:α→PV}(l:List α)(h:∀ a∈l,T (g a) [r a]):lI T (l.map g) (l.map r):=by
 induction l with
 | nil=>rfl
 | cons a l ih=>exact ⟨_,_,h a N2,ih λ b m=>h b (N9 _ m),rfl⟩
theorem n8 {n:Nat}{t:List Nat}{σ:aa}(h:free σ)(hl:t.length<1000000)(hc:∀ c∈t,c<1114112):ar (n+1) 2 [.lst (t.map ag)] σ (.ok (.str t) σ):=by
 have hz:t.length≤ax:=T3 (P8 hl (by decide))
 have J:=cq (σ:=σ) (x:=PV.lst (t.map fM)) (sep:=[]) (l:=t.map λ c=>[c]) (by show some (t.map fM)=_;refine ru T0 ?_;rfl) (P4 _) (by refine ru (im ..) ?_;exact hz)
 rw [im] at J
 exact (al rfl rfl (.l (t.map fM) []::(ov (.str t) [])) λ H=>(H:_→_→_→_) ((eA (T:=e7 (ΓS n) (.fn .chr (.v 1)) .nl true 1 [false] [some (.lst (t.map ag))] σ) (g:=ag) (r:=fM) t λ c m=>⟨_,rfl,_,rfl,(cG [] λ H=>(H:_→_) (⟨Q7 c,R8.mpr (hc c m)⟩))⟩)) (by refine ru (N3 ..) ?_;exact hz) J _ (bB h rfl))
noncomputable def bn {γ δ ε:Type}(fe:γ→Except ε δ):List γ→Except ε (List δ)
 | []=>.ok []
 | y::r=>match fe y with
  | .error e=>.error e
  | .ok v=>match bn fe r with
   | .error e=>.error e
   | .ok vs=>.ok (v::vs)
theorem kG {γ δ ε:Type}{fe:γ→Except ε δ}{y:γ}{r:List γ}:bn fe (y::r)=(match fe y with
  | .error e=>.error e
  | .ok v=>match bn fe r with
   | .error e=>.error e
   | .ok vs=>.ok (v::vs)):=rfl
end
noncomputable section
noncomputable def iL (c:Nat):Option Nat:=if c=110 then some 10 else if c=114 then some 13 else if c=116 then some 9 else if c=92 then some 92 else if c=34 then some 34 else none
theorem su (c:Nat):bz [c] [[110],[114],[116],[92],[34]] [.str [10],.str [13],.str [9],.str [92],.str [34]]=(iL c).map fM:=by
 have s:∀ {a:Nat} {x:Nat} {y:Option PV} {z:Option Nat},y=z.map fM→(if [c]=[a] then some (fM x) else y)=Option.map fM (if c=a then some x else z):=λ {a x y z} h=>by
  by_cases e:c=a
  ·refine ru (if_pos e) (ru (if_pos (congrArg (λ c=>[c]) e)) ?_);rfl
  ·refine ru (if_neg e) (ru (if_neg λ q=>e (T9 q)) ?_);exact h
 exact s (s (s (s (s rfl))))
theorem wg {c:Nat}{σ:aa}{b:Bool}(h:(iL c).isNone=b):bT .NotIn (.str [c]) Hq σ=some b:=by
 refine (congrArg (λ o=>some (!Option.isSome o)) (su c)).trans ?_
 refine ru Z8 (ri h ?_)
 cases iL c<;>rfl
theorem DY {c e:Nat}{σ:aa}(h:iL c=some e):bp Hq (.str [c]) σ=some (fM e):=(su c).trans (congrArg (Option.map fM) h)
theorem BR {c e:Nat}(h:iL c=some e):e<1114112:=by
 have s:∀ {a x:Nat} {z:Option Nat},x<1114112→(z=some e→e<1114112)→(if c=a then some x else z)=some e→e<1114112:=λ {a x z} h1 h2 h=>by
  by_cases q:c=a
  ·exact ri (Option.some.inj ((if_pos q).symm.trans h)) h1
  ·exact h2 ((if_neg q).symm.trans h)
 unfold iL at h
 refine s ?_ (s ?_ (s ?_ (s ?_ (s ?_ ?_)))) h<;>first | decide | exact λ h=>b2 h
noncomputable def iH:List Nat→List Nat→Except (List Nat) (List Nat×List Nat)
 | out,[]=>.ok (out,[])
 | out,c::r=>if c=34 then .ok (out,c::r) else if c=92 then (match r with
   | []=>.error out
   | d::r'=>match iL d with
    | none=>.error out
    | some e=>iH (out++[e]) r') else iH (out++[c]) r
theorem mQ (out:List Nat)(c:Nat)(r:List Nat):iH out (c::r)=if c=34 then .ok (out,c::r) else if c=92 then (match r with
   | []=>.error out
   | d::r'=>match iL d with
    | none=>.error out
    | some e=>iH (out++[e]) r') else iH (out++[c]) r:=by cases r<;>rfl
noncomputable def FW:IE:=.and (.cmp .Lt (.v 3) (.fn .len (.v 0))) (.cmp .NotEq (.idx (.v 0) (.v 3)) (.c (.str [34])))
section
variable {n:Nat} {text:List Nat} {num:Int} {σ:aa}
noncomputable def jS (text:List Nat)(num:Int)(l i:Nat):am:=[some (.str text),some (.int num),some (.loc l),some (.int (i:Int)),none]
noncomputable def ou (σ:aa)(out:List Nat):aa:=σ++[.lst (out.map fM)]
noncomputable def zR (text:List Nat)(num:Int)(σ:aa):Except (List Nat) (List Nat×List Nat)→aY cO
 | .ok b=>.ok (.next (jS text num σ.length (text.length-b.2.length))) (ou σ b.1)
 | .error o=>.exc qW num (ou σ o)
theorem E8 {out:List Nat}{c:Nat}(h:out.length<1000):q9 (ou σ out) (.loc σ.length) (fM c)=some (.none,ou σ (out++[c])) :=
 (mD (by refine ru (N3 ..) ?_;exact P8 h (by decide))).trans (by refine ru lY ?_;rfl)
theorem drop1 {α:Type}{l r:List α}{a:α}{i:Nat}(h:l.drop i=a::r):l[i]?=some a∧l.drop (i+1)=r:=⟨by refine ri (z3m) (ru h ?_);rfl,by refine ri z3o (ru h ?_);rfl⟩
theorem Gr (hl:text.length<1000)(k:Nat):∀ rest i out,rest.length<k→text.drop i=rest→i+rest.length=text.length→out.length≤i→Wh n FW s8 [4] (jS text num σ.length i) (ou σ out) (zR text num σ (iH out rest)):=by
 induction k with
 | zero=>exact λ Z9 Z9 Z9 h=>MW h
 | succ k ih =>
  intro rest
  cases rest with
  | nil =>
   intro i out hk hd hi ho
   have e:zR text num σ (iH out [])=.ok (.next (jS text num σ.length i)) (ou σ out):=congrArg (λ i=>aY.ok (cO.next (jS text num σ.length i)) (ou σ out)) hi.symm
   exact ru e (fQ (c:=FW) (cG (aw 1 (ob false [])) λ H=>(H:_→_) (qN (V2.mpr (V5.mpr (P0 hi.symm))))))
  | cons c r =>
   intro i out hk hd hi ho
   have hlt:=(O6.mp ((drop1 hd).1)).1
   have hl1:=EB (σ:=ou σ out) (R8.mpr hlt)
   have g:=eY (σ:=ou σ out) ((drop1 hd).1)
   have ho1:∀ e,(out++[e]).length≤i+1:=λ e=>by refine ru N5 ?_;exact P3 ho
   have ho2:=O0 ho (P8 hlt hl)
   refine ru (mQ ..) ?_
   by_cases h1:c=34
   ·subst h1
    refine ru (if_pos rfl) ?_
    have e:zR text num σ (.ok (out,34::r))=.ok (.next (jS text num σ.length i)) (ou σ out):=congrArg (λ i=>aY.ok (cO.next (jS text num σ.length i)) (ou σ out)) ((congrArg (·-(34::r).length) hi.symm).trans (z2w ..))
    exact ru e (fQ (c:=FW) (cG (aw 1 (ob true (ov (fM 34) (ob false [])))) λ H=>(H:_→_→_→_) hl1 g rfl))
   ·have go:Ev n FW (jS text num σ.length i) (ou σ out) (.ok (.bool true) (ou σ out)):=(cG (aw 1 (ob true (ov (fM c) (ob true [])))) λ H=>(H:_→_→_→_) hl1 g (EZ λ q=>h1 (T9 q)))
    refine ru (if_neg h1) ?_
    by_cases h2:c=92
    ·subst h2
     refine ru (if_pos rfl) ?_
     cases r with
     | nil=>exact ua (c:=FW) go (be (ov (fM 92) (ob true (aw 1 (ob true [])))) λ H=>(H:_→_→_→_) g rfl (KD (V5.mpr (P0 hi.symm)))) trivial
     | cons d r' =>
      have hg2:=(drop1 ((drop1 hd).2)).1
      have hl2:=Lb (σ:=ou σ out) (x:=((i:Int)+1)) (Y7.mpr (R8.mpr (O6.mp hg2).1))
      have g2:=eY (σ:=ou σ out) hg2
      dsimp only
      cases he:iL d with
      | none=>exact ua (c:=FW) go (be (ov (fM 92) (ob true (aw 1 (ob false (ov (fM d) (ob true [])))))) λ H=>(H:_→_→_→_→_→_) g rfl hl2 g2 (wg (congrArg Option.isNone he))) trivial
      | some e=>exact lS (c:=FW) go (be (ov (fM 92) (ob true (aw 1 (ob false (ov (fM d) (ob false (ov (fM d) (ov (fM e) (.l (out.map fM) []::(.r .none (ou σ (out++[e]))::[])))))))))) λ H=>(H:_→_→_→_→_→_→_→_→_→_) g rfl hl2 g2 (wg (congrArg Option.isNone he)) g2 (DY he) bb (E8 ho2)) (ih r' (i+2) (out++[e]) (Y4 (Y1 hk)) (drop1 ((drop1 hd).2)).2 ((S4 i 2 r'.length).trans hi) (T5 (ho1 e)))
    ·refine ru (if_neg h2) ?_
     exact lS (c:=FW) go (be (ov (fM c) (ob false (.l (out.map fM) []::(.r .none (ou σ (out++[c]))::[])))) λ H=>(H:_→_→_→_→_) g (zQ λ q=>h2 (T9 q)) bb (E8 ho2)) (ih r (i+1) (out++[c]) (Y1 hk) ((drop1 hd).2) (by refine ru (S4 ..) ?_;exact hi) (ho1 c))
noncomputable def uK (rest out o r:List Nat):Prop:=r.length≤rest.length∧o.length≤out.length+rest.length∧((∀ c∈rest,c<1114112)→(∀ c∈out,c<1114112)→∀ c∈o,c<1114112)
theorem pf {c e:Nat}{t out o r:List Nat}(he:c<1114112→e<1114112)(i:uK t (out++[e]) o r):uK (c::t) out o r :=
 ⟨T5 i.1,N1 i.2.1 (P0 ((congrArg (·+t.length) N5).trans (S4 _ 1 _))),λ ha hb=>i.2.2 (λ c m=>ha c (.tail _ m)) (Q6.mpr ⟨hb,Z7.mpr (he (ha c (.head _)))⟩)⟩
theorem yC {c:Nat}{t out o r:List Nat}(i:uK t out o r):uK (c::t) out o r:=⟨T5 i.1,T5 i.2.1,λ ha=>i.2.2 λ c m=>ha c (.tail _ m)⟩
theorem xZ (k:Nat):∀ (rest out:List Nat) {o r:List Nat},rest.length<k→iH out rest=.ok (o,r)→uK rest out o r:=by
 induction k with
 | zero=>exact λ Z9 Z9 Z9 Z9 h=>absurd h (X8 _)
 | succ k ih =>
  intro rest out o r
  cases rest with
  | nil=>exact λ Z9 h=>by cases h;exact ⟨N8 _,N8 _,λ Z9 hb=>hb⟩
  | cons c t =>
   refine ru (mQ ..) ?_
   refine f7 (P:=λ x:Except (List Nat) (List Nat×List Nat)=>(c::t).length<k+1→x=.ok (o,r)→uK (c::t) out o r) (λ Z9 Z9 h=>by cases h;exact ⟨N8 _,P1 _ _,λ Z9 hb=>hb⟩) λ Z9=>f7 (P:=λ x:Except (List Nat) (List Nat×List Nat)=>(c::t).length<k+1→x=.ok (o,r)→uK (c::t) out o r) (λ Z9=>?_) λ Z9 hk h=>pf id (ih t _ (Y1 hk) h)
   cases t with
   | nil=>exact λ Z9 h=>nomatch h
   | cons d t =>
    dsimp only
    cases he:iL d with
    | none=>exact λ Z9 h=>nomatch h
    | some e=>exact λ hk h=>yC (pf (λ Z9=>BR he) (ih t _ (Y4 (Y1 hk)) h))
noncomputable def Iv (text:List Nat):Except (List Nat) (List Nat):=if text.length<2∨text.head?≠some 34 then .error FU else match iH [] text.tail with
 | .error _=>.error qW
 | .ok b=>if b.2.length=1 then .ok (ES b.1) else .error FU
theorem lM (h:free σ)(hl:text.length<1000)(hc:∀ c∈text,c<1114112):ar (n+3) 15 [.str text,.int num] σ (cf .str num σ (Iv text)):=by
 unfold Iv
 by_cases h0:text.length<2
 ·refine ru (if_pos (.inl h0)) ?_
  exact (al rfl rfl (aw 1 (ob true [])) λ H=>(H:_→_) (EB (R8.mpr h0)) _ (cu h))
 ·have c0:=qN (σ:=σ) (λ q=>h0 (R8.mp q))
  cases text with
  | nil=>exact absurd (Nat.zero_lt_succ 1) h0
  | cons x t =>
   have g0:bp (.str (x::t)) (.int 0) σ=some (fM x):=eY (i:=0) rfl
   by_cases h1:x=34
   ·subst h1
    refine ru (if_neg λ q=>q.elim h0 λ q=>q rfl) ?_
    have L:=Gr (n:=n+2) (num:=num) (σ:=σ) hl (t.length+1) t 1 [] (U0 _) rfl (W9 1 _) (P4 _)
    dsimp only [List.tail_cons]
    revert L
    cases hs:iH [] t with
    | error o=>exact λ L=>(al rfl rfl (aw 1 (ob false (ov (fM 34) (aw 1 (.x qW num (ou σ o)::[]))))) λ H=>(H:_→_→_→_) c0 g0 L _ (oD h))
    | ok b =>
     intro L
     obtain ⟨o,r⟩:=b
     refine (xZ _ t [] (U0 _) hs).elim λ l1 w1z=>w1z.elim λ l2 l3=>?_
     have l2:o.length<1000:=O0 (N1 l2 (P0 (R9 _))) (Y4 hl)
     have f:=br (σ:=σ) (vs:=o.map fM) h (ay λ Z9=>rfl)
     have J:=cq (σ:=ou σ o) (x:=.loc σ.length) (sep:=[]) (l:=o.map λ c=>[c]) (bk.trans (by refine ru T0 ?_;rfl)) (P4 _) (by refine ru (im ..) ?_;exact N1 (T3 l2) (by decide))
     rw [im] at J
     have l4:((34::t).length:Int)-1=(t.length:Int):=z3a (t.length:Int) 1
     show ar _ _ _ _ (cf .str num σ (if r.length=1 then _ else _))
     by_cases hr:r.length=1
     ·refine ru (if_pos hr) ?_
      exact (al rfl rfl (aw 1 (ob false (ov (fM 34) (aw 1 (.n (jS (34::t) num σ.length ((34::t).length-r.length)) (ou σ o)::(aw 1 (ob false (ov (.str o) (ov (.lst ((ES o).map ag)) (ov (.str (ES o)) [])))))))))) λ H=>(H:_→_→_→_→_→_→_→_) c0 g0 L (My (by refine ru l4 (ru hr ?_);rfl)) J (Ca (n:=n) f (P8 l2 (by decide))) (n8 (n:=n+1) f (O0 (CJ o) (O0 (U3 2 (T3 l2)) (by decide))) (F7 (l3 (λ c m=>hc c (.tail _ m)) (O1 _)))) _ (oy h rfl))
     ·refine ru (if_neg hr) ?_
      exact (al rfl rfl (aw 1 (ob false (ov (fM 34) (aw 1 (.n (jS (34::t) num σ.length ((34::t).length-r.length)) (ou σ o)::(aw 1 (ob true []))))))) λ H=>(H:_→_→_→_→_) c0 g0 L (Mx (by refine ru l4 (ru (rfl:(34::t).length-r.length=t.length+1-r.length) ?_);exact λ q=>hr (Nat.add_left_cancel ((Nat.sub_eq_iff_eq_add (T5 l1)).mp (Int.ofNat.inj q))).symm)) _ (oD h))
   ·refine ru (if_pos (.inr λ q=>h1 (Option.some.inj q))) ?_
    exact (al rfl rfl (aw 1 (ob false (ov (fM x) (ob true [])))) λ H=>(H:_→_→_→_) c0 g0 (EZ λ q=>h1 (T9 q)) _ (cu h))
end
end
noncomputable section
theorem dH {n f:Nat}{as:IE}{ρ:am}{σ:aa}{vs:List PV}{r:aY PV}(ha:Ev n as ρ σ (.ok (.tup vs) σ))(C:ar n f vs σ r):Ev n (.call f as) ρ σ r:=xa (.inl ⟨_,σ,ha,vs,rfl,C⟩)
noncomputable abbrev Io (ro:aY cO):Prop:=GD ro (λ Z9 Z9=>False) True
theorem kn {n:Nat}{a b:IS}{ρ:am}{σ:aa}{ro:aY cO}(h:St n a ρ σ ro)(e:Io ro):St n (.sq a b) ρ σ ro:=by
 cases ro with
 | ok o σ'=>cases o with
  | next=>exact e.elim
  | ret v=>exact dD (.inl ⟨_,_,h,rfl⟩)
 | exc c m σ'=>exact dD (.inr ⟨c,m,σ',h,rfl⟩)
theorem gh {n:Nat}{c:IE}{a b q:IS}{ρ:am}{σ:aa}{ro:aY cO}(hc:Ev n c ρ σ (.ok (.bool true) σ))(h:St n a ρ σ ro)(e:Io ro):St n (.sq (.iff c a b) q) ρ σ ro:=kn (ee (.inl ⟨_,σ,hc,.inl ⟨rfl,h⟩⟩)) e
noncomputable def SR (n:Nat)(s:IS)(ρ:am)(σ:aa)(r:aY PV):Prop:=∃ ro,St n s ρ σ ro∧Io ro∧fq false σ.length ro r
set_option tactic.hygienic true in
theorem fy {n:Nat}{c:IE}{a q:IS}{ρ:am}{σ:aa}{r:aY PV}{b:Bool}(hc:Ev n c ρ σ (.ok (.bool b) σ))(ht:b=true→SR n a ρ σ r)(hf:b=false→SR n q ρ σ r):SR n (.sq (.iff c a .sk) q) ρ σ r:=by
 cases b with
 | true=>exact (ht rfl).imp λ ro w=>⟨gh hc w.1 w.2.1,w.2⟩
 | false=>exact (hf rfl).imp λ ro w=>⟨dD (.inl ⟨.next ρ,σ,ee (.inl ⟨_,σ,hc,.inr ⟨rfl,gj⟩⟩),w.1⟩),w.2⟩
theorem mn {n f:Nat}{vs:List PV}{σ:aa}{fd:Fd}{r:aY PV}(hf:lC f=some fd)(hl:vs.length=fd.nargs)(hm:fd.moves=false)(h:SR n fd.body (oL fd vs) σ r):ar (n+1) f vs σ r:=h.elim λ ro w=>qR hf hl w.1 (ru hm w.2.2)
theorem mh {n:Nat}{a b:IE}{ρ:am}{σ:aa}{p q:Bool}(ha:Ev n a ρ σ (.ok (.bool p) σ))(hb:p=true→Ev n b ρ σ (.ok (.bool q) σ))(hq:p=false→q=false):Ev n (.and a b) ρ σ (.ok (.bool q) σ):=BQ (.inl ⟨_,σ,ha,by
 cases p with
 | true=>exact .inl ⟨rfl,hb rfl⟩
 | false=>exact .inr ⟨rfl,ri (hq rfl) rfl⟩⟩)
theorem BN {n:Nat}{a b:IE}{ρ:am}{σ:aa}{p q:Bool}(ha:Ev n a ρ σ (.ok (.bool p) σ))(hb:p=false→Ev n b ρ σ (.ok (.bool q) σ))(hq:p=true→q=true):Ev n (.or a b) ρ σ (.ok (.bool q) σ):=FJ (.inl ⟨_,σ,ha,by
 cases p with
 | true=>exact .inl ⟨rfl,ri (hq rfl) rfl⟩
 | false=>exact .inr ⟨rfl,hb rfl⟩⟩)
theorem ju {n:Nat}{e:IE}{q:IS}{ρ:am}{σ:aa}{α:Type}{f:α→PV}{num:Int}{x:Except (List Nat) α}(h:free σ)(he:Ev n e ρ σ (cf f num σ x))(hn:∀ a,x=.ok a→aS (f a)=true):SR n (.sq (.ret e) q) ρ σ (cf f num σ x):=by
 cases x with
 | ok a=>exact ⟨_,kn (ul (.inl ⟨f a,σ,he,rfl⟩)) trivial,trivial,bB h (hn a rfl)⟩
 | error c=>exact ⟨_,kn (ul (.inr ⟨c,num,σ,he,rfl⟩)) trivial,trivial,cu h⟩
noncomputable def aZ {δ:Type}(σ:aa)(d:δ→PV)(ds:List δ):aa:=σ++[.lst (ds.map d)]
theorem bH {δ:Type}{σ:aa}{d:δ→PV}{ds:List δ}{v:δ}(h:ds.length<ax):q9 (aZ σ d ds) (.loc σ.length) (d v)=some (.none,aZ σ d (ds++[v])):=(mD (by refine ru (N3 ..) ?_;exact h)).trans (by refine ru lY ?_;rfl)
theorem zG {δ:Type}{σ:aa}{d:δ→PV}{ds:List δ}(h:free σ)(hd:∀ v,aS (d v)=true):free (aZ σ d ds):=br h (ay hd)
section
variable {n:Nat} {γ δ:Type} {g:γ→PV} {d:δ→PV} {fe:γ→Except (List Nat×Int) δ} {body:IS} {single:Bool} {t kill:List Nat} {σ:aa}
set_option tactic.hygienic true in
noncomputable def KY (R:am→Prop)(Q:δ→Prop)(σ:aa)(d:δ→PV)(ds:List δ)(ro:aY cO):Except (List Nat×Int) (List δ)→Prop
 | .ok vs=>(∃ ρ',ro=.ok (.next ρ') (aZ σ d (ds++vs))∧R ρ')∧∀ v∈vs,Q v
 | .error e=>∃ o,ro=.exc e.1 e.2 (aZ σ d o)
set_option tactic.hygienic true in
noncomputable def pF (R:am→Prop)(Q:δ→Prop)(kill:List Nat)(σ:aa)(d:δ→PV)(ds:List δ)(ro:aY cO):Except (List Nat×Int) δ→Prop
 | .ok v=>(∃ ρ',ro=.ok (.next ρ') (aZ σ d (ds++[v]))∧R (dg kill ρ'))∧Q v
 | .error e=>ro=.exc e.1 e.2 (aZ σ d ds)
theorem fJ (R:am→Prop)(Q:δ→Prop)(ys:List γ):∀ (ρ:am) (ds:List δ),R ρ→ds.length+ys.length≤ax→(∀ v∈ds,Q v) →
  (∀ y∈ys,∀ ρ,R ρ→∀ ds:List δ,ds.length<ax→(∀ v∈ds,Q v)→∃ ρ' ro,b3 single t (g y) ρ=some ρ'∧St n body ρ' (aZ σ d ds) ro∧pF R Q kill σ d ds ro (fe y))→∃ ro,cE (St n body) (b3 single t) kill (ys.map g) ρ (aZ σ d ds) ro∧KY R Q σ d ds ro (bn fe ys):=by
 induction ys with
 | nil=>exact λ ρ ds hr Z9 Z9 Z9=>⟨_,rfl,⟨ρ,by exact ru (O3 ..) rfl,hr⟩,O1 _⟩
 | cons y ys ih =>
  intro ρ ds hr hz hq hb
  obtain ⟨ρ',ro,ha,hs,ht⟩:=hb y N2 ρ hr ds (O0 (P1 _ _) (hz:ds.length+ys.length+1≤ax)) hq
  refine ru kG ?_
  cases hf:fe y with
  | error e =>
   rw [hf] at ht
   cases (show ro=_ from ht)
   exact ⟨_,iu ha hs trivial,ds,rfl⟩
  | ok v =>
   rw [hf] at ht
   obtain ⟨⟨ρ'',rfl,h2⟩,hv⟩:=ht
   obtain ⟨ro,i1,i2⟩:=ih _ (ds++[v]) h2 (by refine ru N5 ?_;exact ri ((S4 ds.length 1 ys.length).symm) (hz:ds.length+ys.length+1≤ax)) (Q6.mpr ⟨hq,N7.mpr ⟨hv,O1 _⟩⟩) λ z m=>hb z (N9 _ m)
   refine ⟨ro,aF ha hs i1,?_⟩
   revert i2
   cases bn fe ys with
   | error e=>exact id
   | ok vs=>exact λ i2=>⟨i2.1.imp λ ρ z=>⟨z.1.trans (by refine ru (N6 ..) ?_;rfl),z.2⟩,N7.mpr ⟨hv,i2.2⟩⟩
end
noncomputable def CB {α:Type}(num:Int):Except (List Nat) α→Except (List Nat×Int) α
 | .ok a=>.ok a
 | .error c=>.error (c,num)
noncomputable def nP (p:ae)(ws:List (List Nat)):Except (List Nat) (List Nat):=bn (λ w=>bg p (av w)) ws
theorem AB {γ δ:Type}(num:Int)(f:γ→Except (List Nat) δ)(ys:List γ):bn (λ y=>CB num (f y)) ys=CB num (bn f ys):=by
 induction ys with
 | nil=>rfl
 | cons y r ih =>
  refine ru kG (ru (kG (fe:=f)) ?_)
  refine ru ih ?_
  cases f y with
  | error e=>rfl
  | ok v=>cases bn f r<;>rfl
noncomputable def EX (p:ae)(text:List Nat):Except (List Nat) (List Nat):=if !([40].isPrefixOf text)||!(text.getLast?==some 41) then .error xu else
 let inner:=av (ba 1 (text.length-1) text)
 if inner=[] then .ok [] else nP p (aq 44 inner)
theorem zN (c:Nat)(s:List Nat):∀ cur,(iR c cur s).length≤s.length+1:=by
 induction s with
 | nil=>exact λ Z9=>N8 _
 | cons x r ih =>
  intro cur
  refine ru Gi ?_
  split
  ·exact P3 (ih [])
  ·exact T5 (ih _)
section
variable {n:Nat} {p:ae} {text:List Nat} {num:Int} {σ:aa}
theorem HS (h:1≤text.length):dN (.str text) (.int 1) (.int (-1))=some (.str (ba 1 (text.length-1) text)):=by
 show some (PV.str (ba (min 1 text.length) (-1+(text.length:Int)).toNat text))=_
 exact ru (V0 h) (ru (show (-1+(text.length:Int)).toNat=text.length-1 by (first | lia | omega)) rfl)
theorem yJ {x3:PV}(h:free σ)(w:List Nat)(ds:List Nat)(hd:ds.length<ax):∃ ρ' ro,b3 true [5] (.str w) [some (bf p),some (.str text),some (.int num),some x3,some (.loc σ.length),none]=some ρ'∧St (n+2) nL ρ' (aZ σ ag ds) ro∧pF (·=[some (bf p),some (.str text),some (.int num),some x3,some (.loc σ.length),none]) (λ Z9=>True) [5] σ ag ds ro (CB num (bg p (av w))):=by
 have C:=iN (n:=n) (p:=p) (k:=av w) (num:=num) (zG (ds:=ds) (d:=ag) h λ Z9=>rfl)
 revert C
 cases bg p (av w) with
 | ok v=>exact λ C=>⟨_,_,rfl,(be (.l (ds.map ag) []::(ov (ag v) (.r .none (aZ σ ag (ds++[v]))::[]))) λ H=>(H:_→_→_→_) bb C (bH hd)),⟨_,rfl,rfl⟩,trivial⟩
 | error c=>exact λ C=>⟨_,_,rfl,(be (.l (ds.map ag) []::(.x c num (aZ σ ag ds)::[])) λ H=>(H:_→_→_) bb C),rfl⟩
theorem lN (h:free σ)(hl:text.length<1000):ar (n+3) 16 [bf p,.str text,.int num] σ (cf (λ l=>.tup (l.map ag)) num σ (EX p text)):=by
 unfold EX
 cases h1:[40].isPrefixOf text with
 | false=>exact (al rfl rfl (ob false []) λ H=>(H:_→_) (congrArg some ((bG text [40]).trans h1)) _ (cu h))
 | true =>
  cases h2:text.getLast?==some 41 with
  | false=>exact (al rfl rfl (ob true (aw 1 (ob false []))) λ H=>(H:_→_→_) (congrArg some ((bG text [40]).trans h1)) (congrArg some ((jT text 41).trans h2)) _ (cu h))
  | true =>
   have hc:=HS (by cases text with | nil=>exact rh h1 | cons=>exact T6 _:1≤text.length)
   by_cases h3:av (ba 1 (text.length-1) text)=[]
   ·refine ru (if_pos h3) ?_
    exact (al rfl rfl (ob true (aw 1 (ob true (aw 1 (ov (.str (ba 1 (text.length-1) text)) (ob false (ov (.tup []) []))))))) λ H=>(H:_→_→_→_→_→_) (congrArg some ((bG text [40]).trans h1)) (congrArg some ((jT text 41).trans h2)) hc (MO h3) (congrArg (Option.map PV.tup) bk) _ (oy h rfl))
   ·refine ru (if_neg h3) ?_
    have hz:(aq 44 (av (ba 1 (text.length-1) text))).length≤ax:=by refine ru (lu ..) ?_;exact N1 (zN 44 _ []) (N1 (P3 (N1 (mJ (ba 1 (text.length-1) text)) (N1 (List.length_take_le _ _) (N1 (z0a _ _) (z0a _ _)):(ba 1 (text.length-1) text).length≤text.length))) (N1 hl (by decide)))
    obtain ⟨ro,L,B⟩:=fJ (n:=n+2) (g:=PV.str) (d:=ag) (fe:=λ w=>CB num (bg p (av w))) (body:=nL) (single:=true) (t:=[5]) (kill:=[5]) (σ:=σ) (·=[some (bf p),some (.str text),some (.int num),some (.str (av (ba 1 (text.length-1) text))),some (.loc σ.length),none]) (λ Z9=>True) (aq 44 (av (ba 1 (text.length-1) text))) _ [] rfl (by refine ru List.length_nil (ru (R9 ..) ?_);exact hz) (O1 _) λ w Z9 ρ e ds hd Z9=>by refine ru e ?_;exact yJ h w ds hd
    rw [AB] at B
    revert B
    unfold nP
    cases bn (λ w=>bg p (av w)) (aq 44 (av (ba 1 (text.length-1) text))) with
    | ok vs =>
     intro B
     obtain ⟨⟨ρ',rfl,rfl⟩,-⟩:=B
     exact (al rfl rfl (ob true (aw 1 (ob true (aw 1 (ov (.str (ba 1 (text.length-1) text)) (ob true (.n [some (bf p),some (.str text),some (.int num),some (.str (av (ba 1 (text.length-1) text))),some (.loc σ.length),none] (aZ σ ag vs)::(ov (.tup (vs.map ag)) [])))))))) λ H=>(H:_→_→_→_→_→_→_→_) (congrArg some ((bG text [40]).trans h1)) (congrArg some ((jT text 41).trans h2)) hc (EZ h3) hz L (congrArg (Option.map PV.tup) bk) _ (oy h (ay λ Z9=>rfl)))
    | error c =>
     intro B
     obtain ⟨o,rfl⟩:=B
     exact (al rfl rfl (ob true (aw 1 (ob true (aw 1 (ov (.str (ba 1 (text.length-1) text)) (ob true (.x c num (aZ σ ag o)::[]))))))) λ H=>(H:_→_→_→_→_→_→_) (congrArg some ((bG text [40]).trans h1)) (congrArg some ((jT text 41).trans h2)) hc (EZ h3) hz L _ (oD h))
end
noncomputable def eZ (k:List Nat):List (List Nat×PV)→Option PV
 | []=>none
 | (a,v)::r=>if k=a then some v else eZ k r
theorem nr (k:List Nat)(l:List (List Nat×PV)):bz k (l.map (·.1)) (l.map (·.2))=eZ k l:=by
 induction l with
 | nil=>rfl
 | cons q r ih =>
  show (if k=q.1 then some q.2 else bz k (r.map (·.1)) (r.map (·.2)))=if k=q.1 then some q.2 else eZ k r
  exact ru ih rfl
noncomputable def bh (l:List (List Nat×PV))(k:List Nat):Except (List Nat) PV:=if k=[] then .error gz else match eZ k l with
 | some v=>.ok v
 | none=>.error gz
theorem Fh {l:List (List Nat×PV)}{k:List Nat}{b:Bool}{σ:aa}(h:(eZ k l).isSome=b):bT .NotIn (.str k) (dP l) σ=some (!b):=congrArg (λ b=>some (!b)) ((congrArg Option.isSome (nr k l)).trans h)
theorem FF {l:List (List Nat×PV)}{k:List Nat}{v:PV}{σ:aa}(h:eZ k l=some v):bp (dP l) (.str k) σ=some v:=(nr k l).trans h
theorem gY {n:Nat}{l:List (List Nat×PV)}{k:List Nat}{num:Int}{σ:aa}(h:free σ)(hn:∀ v,eZ k l=some v→aS v=true):ar (n+1) 17 [dP l,.str k,.int num] σ (cf id num σ (bh l k)):=by
 unfold bh
 by_cases h0:k=[]
 ·refine ru (if_pos h0) ?_;exact (al rfl rfl (ob true []) λ H=>(H:_→_) (MP h0) _ (cu h))
 ·refine ru (if_neg h0) ?_
  cases hf:eZ k l with
  | none=>exact (al rfl rfl (ob false (ob true [])) λ H=>(H:_→_→_) (zQ h0) (Fh (congrArg Option.isSome hf)) _ (cu h))
  | some v=>exact (al rfl rfl (ob false (ob false (ov v []))) λ H=>(H:_→_→_→_) (zQ h0) (Fh (congrArg Option.isSome hf)) (FF hf) _ (bB h (hn v hf)))
end
noncomputable section
noncomputable def aI (s:Nat):List (List Nat×PV):=if s=7∨s=11 then a7 else if s=8 then dz else fC
theorem hM (s:Nat){k v}(h:eZ k (aI s)=some v):aS v=true:=by
 have key:∀ l:List (List Nat×PV),(l.all λ q=>aS q.2)=true→eZ k l=some v→aS v=true:=by
  intro l
  induction l with
  | nil=>exact λ Z9 h=>b2 h
  | cons q r ih =>
   intro ha h
   by_cases e:k=q.1
   ·exact ri (Option.some.inj ((if_pos e).symm.trans (h:(if k=q.1 then some q.2 else eZ k r)=some v))) (N4.mp ha).1
   ·exact ih (N4.mp ha).2 ((if_neg e).symm.trans (h:(if k=q.1 then some q.2 else eZ k r)=some v))
 refine key _ ?_ h
 unfold aI
 split
 ·rfl
 ·split<;>rfl
theorem eO {s:Nat}{k:List Nat}{v:PV}(h:bh (aI s) k=.ok v):aS v=true:=by
 unfold bh at h
 split at h
 ·exact nomatch h
 ·revert h
  cases hf:eZ k (aI s) with
  | none=>exact λ h=>nomatch h
  | some w=>exact λ h=>ri (Except.ok.inj h) (hM s hf)
theorem f9 {n s:Nat}{σ:aa}(h:free σ):ar (n+1) 19 [.int (s:Int),aH] σ (.ok (dP (aI s)) σ):=by
 unfold aI
 by_cases h1:s=7
 ·subst h1;exact (al rfl rfl [] λ H=>H _ (bB h rfl))
 by_cases h2:s=11
 ·subst h2;exact (al rfl rfl [] λ H=>H _ (bB h rfl))
 refine ru (if_neg λ q=>q.elim h1 h2) ?_
 by_cases h3:s=8
 ·subst h3;exact (al rfl rfl [] λ H=>H _ (bB h rfl))
 refine ru (if_neg h3) ?_
 exact (al rfl rfl (ob false (ob false (ob false []))) λ H=>(H:_→_→_→_) ((λ h=>eI λ q=>h (Int.ofNat.inj q):∀ {k:Nat},s≠k→bT .Eq (.int (s:Int)) (.int (k:Int)) σ=some false) h1) ((λ h=>eI λ q=>h (Int.ofNat.inj q):∀ {k:Nat},s≠k→bT .Eq (.int (s:Int)) (.int (k:Int)) σ=some false) h2) ((λ h=>eI λ q=>h (Int.ofNat.inj q):∀ {k:Nat},s≠k→bT .Eq (.int (s:Int)) (.int (k:Int)) σ=some false) h3) _ (bB h rfl))
noncomputable def dS {α β:Type}(f:α→β):Except (List Nat) α→Except (List Nat) β
 | .ok a=>.ok (f a)
 | .error c=>.error c
theorem jv {α β:Type}{f:β→PV}{g:α→β}{num:Int}{σ:aa}(x:Except (List Nat) α):cf f num σ (dS g x)=cf (λ a=>f (g a)) num σ x:=by cases x<;>rfl
noncomputable def fV (p:ae)(s:Nat)(t:List Nat):Except (List Nat) PV:=match s with
 | 0=>if t=[] then .ok (.int 0) else .error fO
 | 1=>dS .int (dp t (-2147483648) 2147483647)
 | 2=>dS .int (dp t (-9223372036854775808) 9223372036854775807)
 | 3=>dS .int (dp t 0 65534)
 | 4=>dS .int (dp t 0 65534)
 | 5=>dS ag (bg p t)
 | 6=>dS (λ l=>.tup (l.map ag)) (EX p t)
 | 10=>dS .str (Iv t)
 | s=>bh (aI s) (ah [32] (ai t))
theorem cr {m:Nat}(sep:List Nat)(ws:List (List Nat))(h:∀ w∈ws,w.length≤m):(ah sep ws).length≤ws.length*(m+sep.length):=by
 induction ws with
 | nil=>exact P4 _
 | cons a r ih =>
  cases r with
  | nil=>exact N1 (Nat.le_add_right_of_le (h a N2)) (P0 (Nat.one_mul _).symm)
  | cons b r =>
   refine ru N5 (ru N5 (ru (Nat.succ_mul ..) (ru (W9 ..) ?_)))
   exact R7 (ih λ w hw=>h w (N9 _ hw)) (U7 (h a N2) _)
theorem rq (s:List Nat):∀ (o:Option (List Nat)),∀ w∈gH o s,w.length≤(o.getD []).length+s.length:=by
 induction s with
 | nil =>
  intro o w h
  cases o with
  | none=>exact o4 h
  | some v=>exact ri (P7.mp h) (N8 _)
 | cons c r ih =>
  intro o w h
  cases o with
  | none =>
   rw [IH] at h
   split at h
   ·exact N1 (ih none w h) (U4 _)
   ·exact N1 (ih (some [c]) w h) (P0 (W9 1 _ |>.trans (R9 _).symm))
  | some v =>
   rw [IG] at h
   split at h
   ·exact (Q2.mp h).elim (λ e=>ri e (P1 _ _)) λ h=>N1 (ih none w h) (N1 (P0 (R9 _)) (N1 (U4 _) (z1k _ _)))
   ·exact N1 (ih (some (v++[c])) w h) (P0 ((congrArg (·+r.length) (N5 (as:=v) (bs:=[c]))).trans (S4 _ 1 _)))
theorem mB {t:List Nat}(h:t.length≤1000):(ah [32] (ai t)).length≤ax:=by
 exact N1 (cr (m:=t.length) [32] (ai t) λ w hw=>by rw [d0] at hw;exact N1 (rq t none w hw) (P0 (R9 _))) (N1 (Z5 (N1 (d7 t) h) (P3 h)) (by decide))
noncomputable def LP (t:List Nat):Prop:=t.length≤70∧∀ c∈t,c<1114112
theorem Hk {s:Nat}{σ:aa}(h1:s≠1)(h2:s≠2)(h3:s≠3)(h4:s≠4):bT .In (.int (s:Int)) D6 σ=some false:=by
 have n:∀ {k:Nat},s≠k→¬ ((s:Int)=(k:Int)):=λ h q=>h (Int.ofNat.inj q)
 refine congrArg (λ o=>some (Option.isSome o)) (?_:bz (s:Int) [1,2,3,4] _=none)
 exact (if_neg (n h1)).trans ((if_neg (n h2)).trans ((if_neg (n h3)).trans (if_neg (n h4))))
@[elab_as_elim] theorem sg {P:Nat→Prop}{s:Nat}(h:s<12)(h0:P 0)(h1:P 1)(h2:P 2)(h3:P 3)(h4:P 4)(h5:P 5)(h6:P 6)(h7:P 7)(h8:P 8)(h9:P 9)(h10:P 10)(h11:P 11):P s:=by
 have st:∀ {k:Nat},(s<k→P s)→P k→s<k+1→P s:=λ a b h=>(X7.mp h).elim a λ e=>ru e b
 exact st (st (st (st (st (st (st (st (st (st (st (st (λ h=>absurd h (X8 _)) h0) h1) h2) h3) h4) h5) h6) h7) h8) h9) h10) h11 h
theorem qT {n s:Nat}{p:ae}{t:List Nat}{num:Int}{σ:aa}(h:free σ)(hs:s<12)(ht:LP t):ar (n+4) 18 [bf p,.int (s:Int),.str t,aH,.int num] σ (cf id num σ (fV p s t)):=by
 have ht2:t.length<1000:=O0 ht.1 (by decide)
 have nn:∀ {α:Type} {f:α→PV} {x:Except (List Nat) α},(∀ a,aS (f a)=true)→∀ a,x=.ok a→aS (f a)=true:=λ h a Z9=>h a
 have num_:∀ {s lo hi:Int} {c:IE},Ev (n+3) c [some (bf p),some (.int s),some (.str t),some aH,some (.int num),none,none] σ (.ok (.bool true) σ)→bp D6 (.int s) σ=some (.tup [.int lo,.int hi])→∃ ro,(∀ q,St (n+3) (.sq (.iff c (.sq (.asgT [5,6] (.idx (.g 21) (.v 1))) (.sq (.ret (.call 14 (.cs (.v 2) (.cs (.v 5) (.cs (.v 6) (.cs (.v 4) .nl)))))) .sk)) .sk) q) [some (bf p),some (.int s),some (.str t),some aH,some (.int num),none,none] σ ro)∧fq false σ.length ro (cf id num σ (dS .int (dp t lo hi))):=λ {s lo hi c} hc hg=>by
  refine ru (jv ..) ?_
  exact (ju h (dH (as:=.cs (.v 2) (.cs (.v 5) (.cs (.v 6) (.cs (.v 4) .nl)))) (ρ:=[some (bf p),some (.int s),some (.str t),some aH,some (.int num),some (.int lo),some (.int hi)]) (cG [] λ H=>H) ((λ lo hi=>tO (n:=n+2) (s:=t) (lo:=lo) (hi:=hi) (num:=num) h ht.1) lo hi)) (nn λ Z9=>rfl)).imp λ ro w=>⟨λ q=>gh hc (be (ov (.tup [.int lo,.int hi]) (.s ro::[])) λ H=>(H:_→_→_) hg w.1) w.2.1,w.2.2⟩
 have named:s≠0→s≠1→s≠2→s≠3→s≠4→s≠5→s≠6→s≠10→ar (n+4) 18 [bf p,.int (s:Int),.str t,aH,.int num] σ (cf id num σ (bh (aI s) (ah [32] (ai t)))):=λ h0 h1 h2 h3 h4 h5 h6 h10=>by
  have c:∀ {k:Nat},s≠k→bT .Eq (.int (s:Int)) (.int (k:Int)) σ=some false:=λ h=>eI λ q=>h (Int.ofNat.inj q)
  obtain ⟨ro,R,-,B⟩:=ju (q:=.sk) h (dH (cG (n:=n+3) (e:=.cs (.call 19 (.cs (.v 1) (.cs (.v 3) .nl))) (.cs (.m1 .join (.c (.str [32])) (.m0 .split (.v 2))) (.cs (.v 4) .nl))) (ρ:=[some (bf p),some (.int (s:Int)),some (.str t),some aH,some (.int num),none,none]) (ov (dP (aI s)) (ov (.str (ah [32] (ai t))) [])) λ H=>(H:_→_→_→_) (f9 (n:=n+2) h) ((N1 (d7 t) (T3 (P8 ht2 (by decide))):(ai t).length≤ax)) ((cq (σ:=σ) (x:=.lst ((ai t).map .str)) (sep:=[32]) (l:=ai t) rfl (by decide) (mB (T3 ht2))))) (gY (n:=n+2) h λ v hv=>hM s hv)) λ a q=>eO q
  exact (al rfl rfl (ob false (ob false (ob false (ob false (ob false (.s ro::[])))))) λ H=>(H:_→_→_→_→_→_→_) (c h0) (Hk h1 h2 h3 h4) (c h5) (c h6) (c h10) R _ B)
 refine sg (P:=λ s=>(s≠0→s≠1→s≠2→s≠3→s≠4→s≠5→s≠6→s≠10→ar (n+4) 18 [bf p,.int (s:Int),.str t,aH,.int num] σ (cf id num σ (bh (aI s) (ah [32] (ai t)))))→ar (n+4) 18 [bf p,.int (s:Int),.str t,aH,.int num] σ (cf id num σ (fV p s t))) hs ?_ ?_ ?_ ?_ ?_ ?_ ?_ ?_ ?_ ?_ ?_ ?_ named<;>intro named
 ·show ar _ _ _ _ (cf id num σ (if t=[] then _ else _))
  by_cases h0:t=[]
  ·subst h0;exact (al rfl rfl [] λ H=>H _ (bB h rfl))
  ·refine ru (if_neg h0) ?_;exact (al rfl rfl (aw 1 (.k::(ob true []))) λ H=>(H:_→_) (EZ h0) _ (cu h))
 ·exact (num_ (s:=1) (c:=.cmp .In (.v 1) (.g 21)) (cG [] λ H=>H) rfl).elim λ ro w=>(al rfl rfl (aw 1 (.s ro::[])) λ H=>(H:_→_) (w.1 _) _ w.2)
 ·exact (num_ (s:=2) (c:=.cmp .In (.v 1) (.g 21)) (cG [] λ H=>H) rfl).elim λ ro w=>(al rfl rfl (aw 1 (.s ro::[])) λ H=>(H:_→_) (w.1 _) _ w.2)
 ·exact (num_ (s:=3) (c:=.cmp .In (.v 1) (.g 21)) (cG [] λ H=>H) rfl).elim λ ro w=>(al rfl rfl (aw 1 (.s ro::[])) λ H=>(H:_→_) (w.1 _) _ w.2)
 ·exact (num_ (s:=4) (c:=.cmp .In (.v 1) (.g 21)) (cG [] λ H=>H) rfl).elim λ ro w=>(al rfl rfl (aw 1 (.s ro::[])) λ H=>(H:_→_) (w.1 _) _ w.2)
 ·refine ru (jv ..) ?_
  exact (ju (q:=.sk) h (dH (as:=.cs (.v 0) (.cs (.v 2) (.cs (.v 4) .nl))) (ρ:=[some (bf p),some (.int 5),some (.str t),some aH,some (.int num),none,none]) (cG [] λ H=>H) (iN (n:=n+1) h)) (nn λ Z9=>rfl)).elim λ ro w=>(al rfl rfl (aw 2 (.s ro::[])) λ H=>(H:_→_) (gh (cG [] λ H=>H) w.1 w.2.1) _ w.2.2)
 ·refine ru (jv ..) ?_
  exact (ju (q:=.sk) h (dH (as:=.cs (.v 0) (.cs (.v 2) (.cs (.v 4) .nl))) (ρ:=[some (bf p),some (.int 6),some (.str t),some aH,some (.int num),none,none]) (cG [] λ H=>H) (lN (n:=n) h ht2)) (nn λ l=>ay (f:=ag) λ Z9=>rfl)).elim λ ro w=>(al rfl rfl (aw 3 (.s ro::[])) λ H=>(H:_→_) (gh (cG [] λ H=>H) w.1 w.2.1) _ w.2.2)
 ·exact named (by decide) (by decide) (by decide) (by decide) (by decide) (by decide) (by decide) (by decide)
 ·exact named (by decide) (by decide) (by decide) (by decide) (by decide) (by decide) (by decide) (by decide)
 ·exact named (by decide) (by decide) (by decide) (by decide) (by decide) (by decide) (by decide) (by decide)
 ·refine ru (jv ..) ?_
  exact (ju (q:=.sk) h (dH (as:=.cs (.v 2) (.cs (.v 4) .nl)) (ρ:=[some (bf p),some (.int 10),some (.str t),some aH,some (.int num),none,none]) (cG [] λ H=>H) (lM (n:=n) h ht2 ht.2)) (nn λ Z9=>rfl)).elim λ ro w=>(al rfl rfl (aw 4 (.s ro::[])) λ H=>(H:_→_) (gh (cG [] λ H=>H) w.1 w.2.1) _ w.2.2)
 ·exact named (by decide) (by decide) (by decide) (by decide) (by decide) (by decide) (by decide) (by decide)
end
noncomputable section
noncomputable def j0:List Nat:=[102,105,110,97,108,108,121]
noncomputable def qV:List Nat:=[102,97,117,108,116]
noncomputable def gg:List Nat:=[102,105,108,116,101,114]
noncomputable def dm:List Nat:=[99,97,116,99,104]
noncomputable def j6:List Nat:=[116,111]
theorem wX {α:Type}{l:List α}{i:Nat}{d:α}(h:i<l.length):l[i]?=some (l.getD i d):=by (refine ru (O4 h) ?_;rewrite [List.getD];refine ru (O4 h) ?_);rfl
theorem cF {vs:List PV}{i:Nat}{v:PV}{σ:aa}(h:vs[i]?=some v):bp (.lst vs) (.int (i:Int)) σ=some v:=by
 show (t7 i vs.length).bind _=_
 refine ru (xz (O6.mp h).1) ?_;exact h
theorem EJ {i n:Nat}(h:i<n):t7 (-((i:Int)+1)) n=some (n-1-i):=by
 have e:-((i:Int)+1)+(n:Int)=((n-1-i:Nat):Int):=by (first | lia | omega)
 show (if (decide (0≤if -((i:Int)+1)<0 then _ else _)&&_)=true then some _ else none)=_
 refine ru (if_pos (show -((i:Int)+1)<0 by (first | lia | omega))) (ru e ?_)
 exact if_pos (N4.mpr ⟨decide_eq_true (Q7 _),decide_eq_true (by (first | lia | omega))⟩)
section
variable {n i:Nat} {p:ae} {ws:List (List Nat)} {num:Int} {σ:aa}
theorem rn (h:i<ws.length):bp (.lst (ws.map .str)) (.int (i:Int)) σ=some (.str (ws.getD i [])):=cF (by refine ru (Q3) (ru (wX (d:=[]) h) ?_);rfl)
theorem t9 (h:i<ws.length):bp (.lst (ws.map .str)) (.int (-((i:Int)+1))) σ=some (.str (ws.getD (ws.length-1-i) [])):=by
 show (t7 _ (ws.map PV.str).length).bind _=_
 refine ru (N3 ..) (ru (EJ h) ?_)
 show (ws.map PV.str)[ws.length-1-i]?=_
 refine ru (Q3) (ru (wX (d:=[]) (O0 (z0a _ _) (Nat.sub_lt (O0 (P4 _) h) Nat.one_pos))) ?_);rfl
noncomputable def px (p:ae)(ws:List (List Nat)):Except (List Nat) (Nat×PV) :=
 if ws.length=1∧ws.getD 0 []=j0 then .ok (2,.int 0)
 else if ws.length=1∧ws.getD 0 []=qV then .ok (4,.int 0)
 else if ws.length=3∧ws.getD 0 []=gg∧ws.getD 2 []=dm then dS (λ v=>(1,ag v)) (aJ p (ws.getD 1 []))
 else if 1<ws.length∧ws.getD 0 []=dm then dS (λ v=>(0,v)) (bh a7 (ah [32] (ws.drop 1)))
 else .error j1
theorem G8 (ws:List (List Nat)):(jE σ (.lst (ws.map .str))).map (λ n:Nat=>PV.int (n:Int))=some (ag ws.length):=congrArg (λ n:Nat=>some (ag n)) (N3 ..)
noncomputable def BV (p:ae)(ws:List (List Nat))(num:Int):am:=[some (bf p),some (.lst (ws.map .str)),some aH,some (.int num)]
theorem e6 {P Q:Prop}[Decidable P][Decidable Q](h:P ↔ Q):decide P=decide Q:=by
 by_cases q:Q
 ·exact ru (decide_eq_true q) (ru (decide_eq_true (h.mpr q)) rfl)
 ·exact ru (decide_eq_false q) (ru (decide_eq_false λ z=>q (h.mp z)) rfl)
theorem zi (k:Nat):Ev n (.cmp .Eq (.fn .len (.v 1)) (.c (ag k))) (BV p ws num) σ (.ok (.bool (decide (ws.length=k))) σ):=(cG (ov (ag ws.length) (ob (decide (ws.length=k)) [])) λ H=>(H:_→_→_) (G8 ws) (congrArg some (e6 ⟨Int.ofNat.inj,congrArg _⟩)))
theorem Lm (k:Nat):Ev n (.cmp .Gt (.fn .len (.v 1)) (.c (ag k))) (BV p ws num) σ (.ok (.bool (decide (k<ws.length))) σ):=(cG (ov (ag ws.length) (ob (decide (k<ws.length)) [])) λ H=>(H:_→_→_) (G8 ws) (congrArg some (e6 R8)))
theorem zj (k:Nat)(t:List Nat)(h:k<ws.length):Ev n (.cmp .Eq (.idx (.v 1) (.c (ag k))) (.c (.str t))) (BV p ws num) σ (.ok (.bool (decide (ws.getD k []=t))) σ):=(cG (ov (.str (ws.getD k [])) (ob (decide (ws.getD k []=t)) [])) λ H=>(H:_→_→_) (rn h) (congrArg some (e6 ⟨λ q=>cU q,congrArg aG⟩)))
theorem xj {P Q:Prop}[Decidable P][Decidable Q]:decide (P∧Q)=(decide P&&decide Q):=by
 by_cases p:P
 ·refine ru (decide_eq_true p) ?_;exact e6 ⟨And.right,λ q=>⟨p,q⟩⟩
 ·refine ru (decide_eq_false p) ?_;exact decide_eq_false λ q=>p q.1
theorem f8 {a b:IE}{ρ:am}{P Q:Prop}[Decidable P][Decidable Q](ha:Ev n a ρ σ (.ok (.bool (decide P)) σ))(hb:P→Ev n b ρ σ (.ok (.bool (decide Q)) σ)):Ev n (.and a b) ρ σ (.ok (.bool (decide (P∧Q))) σ):=by
 refine ru xj ?_
 exact mh ha (λ q=>by refine ru q ?_;exact hb (of_decide_eq_true q)) λ q=>by refine ru q ?_;rfl
theorem B1 {lo:Nat}{hi:PV}{h:Nat}(hl:lo≤ws.length)(hh:gW ws.length ws.length hi=some h):dN (.lst (ws.map .str)) (.int (lo:Int)) hi=some (.lst ((ba lo h ws).map .str)):=by
 show (some (if (lo:Int)<0 then ((lo:Int)+((ws.map PV.str).length:Int)).toNat else min lo (ws.map PV.str).length)).bind (λ l=>(gW (ws.map PV.str).length (ws.map PV.str).length hi).map λ h=>PV.lst (ba l h (ws.map PV.str)))=_
 refine ru (if_neg (V2.mpr (Q7 _))) (ru (N3 ..) (ru hh (ru (V0 hl) ?_)))
 exact congrArg (λ l=>some (PV.lst l)) (by unfold ba;exact ru z1w (ru z1x rfl))
theorem lQ (h:free σ)(hj:(ah [32] (ws.drop 1)).length≤ax):ar (n+2) 21 [bf p,.lst (ws.map .str),aH,.int num] σ (cf (λ q=>.tup [ag q.1,q.2]) num σ (px p ws)):=by
 refine mn (fd:=⟨4,4,false,Fw⟩) rfl rfl rfl (fy (f8 (zi (p:=p) 1) λ q=>zj 0 j0 (ru q Nat.one_pos)) (λ q=>?_) λ q1=>fy (f8 (zi (p:=p) 1) λ q=>zj 0 qV (ru q Nat.one_pos)) (λ q=>?_) λ q2=>fy (f8 (zi (p:=p) 3) λ q=>f8 (zj 0 gg (by (first | lia | omega))) λ Z9=>zj 2 dm (by (first | lia | omega))) (λ q=>?_) λ q3=>fy (f8 (Lm (p:=p) 1) λ q=>zj 0 dm (P8 Nat.one_pos q)) (λ q=>?_) λ q4=>?_)
 ·unfold px;refine ru (if_pos (of_decide_eq_true q)) ?_;exact ⟨_,(be [] λ H=>H),trivial,bB h rfl⟩
 ·unfold px;refine ru (if_neg (of_decide_eq_false q1)) (ru (if_pos (of_decide_eq_true q)) ?_);exact ⟨_,(be [] λ H=>H),trivial,bB h rfl⟩
 ·unfold px;refine ru (if_neg (of_decide_eq_false q1)) (ru (if_neg (of_decide_eq_false q2)) (ru (if_pos (of_decide_eq_true q)) ?_))
  have C:=eE (n:=n) (p:=p) (k:=ws.getD 1 []) (num:=num) h
  have w:=rn (ws:=ws) (i:=1) (σ:=σ) (by have:=(of_decide_eq_true q).1;(first | lia | omega))
  revert C
  cases aJ p (ws.getD 1 []) with
  | ok v=>exact λ C=>⟨_,(be (ov (.str (ws.getD 1 [])) (ov (ag v) [])) λ H=>(H:_→_→_) w C),trivial,bB h rfl⟩
  | error c=>exact λ C=>⟨_,(be (ov (.str (ws.getD 1 [])) (.x c num σ::[])) λ H=>(H:_→_→_) w C),trivial,cu h⟩
 ·unfold px;refine ru (if_neg (of_decide_eq_false q1)) (ru (if_neg (of_decide_eq_false q2)) (ru (if_neg (of_decide_eq_false q3)) (ru (if_pos (of_decide_eq_true q)) ?_)))
  have C:=gY (n:=n) (l:=a7) (k:=ah [32] (ws.drop 1)) (num:=num) h λ v hv=>hM 7 hv
  have w:dN (.lst (ws.map .str)) (.int 1) .none=some (.lst ((ws.drop 1).map .str)):=(B1 (lo:=1) (hi:=.none) (h:=ws.length) (T3 ((of_decide_eq_true q).1)) rfl).trans (by unfold ba;exact ru (Y2 (by rw [V4];exact N8 _)) rfl)
  revert C
  cases hf:bh a7 (ah [32] (ws.drop 1)) with
  | ok v=>exact λ C=>⟨_,(be (aw 1 (ov (.lst ((ws.drop 1).map .str)) (ov (.str (ah [32] (ws.drop 1))) (ov v [])))) λ H=>(H:_→_→_→_) w ((cq (σ:=σ) (x:=.lst ((ws.drop 1).map .str)) (sep:=[32]) (l:=ws.drop 1) rfl (by decide) hj)) C),trivial,bB h (N4.mpr ⟨eO (s:=7) hf,rfl⟩)⟩
  | error c=>exact λ C=>⟨_,(be (aw 1 (ov (.lst ((ws.drop 1).map .str)) (ov (.str (ah [32] (ws.drop 1))) (.x c num σ::[])))) λ H=>(H:_→_→_→_) w ((cq (σ:=σ) (x:=.lst ((ws.drop 1).map .str)) (sep:=[32]) (l:=ws.drop 1) rfl (by decide) hj)) C),trivial,cu h⟩
 ·unfold px;refine ru (if_neg (of_decide_eq_false q1)) (ru (if_neg (of_decide_eq_false q2)) (ru (if_neg (of_decide_eq_false q3)) (ru (if_neg (of_decide_eq_false q4)) ?_)));exact ⟨_,(be [] λ H=>H),trivial,cu h⟩
end
end
noncomputable section
noncomputable def zd (p:ae)(ws:List (List Nat)):Except (List Nat) PV :=
 if ws.length<7∨ws.getD 1 []≠[116,111]∨ws.getD (ws.length-2) []≠[116,111] then .error j1 else
 match aJ p (ws.getD 0 []) with
 | .error c=>.error c
 | .ok t0=>match aJ p (ws.getD 2 []) with
  | .error c=>.error c
  | .ok t1=>match aJ p (ws.getD (ws.length-3) []) with
   | .error c=>.error c
   | .ok h0=>match aJ p (ws.getD (ws.length-1) []) with
    | .error c=>.error c
    | .ok h1=>match px p (ba 3 (ws.length-3) ws) with
     | .error c=>.error c
     | .ok q=>.ok (.tup [ag q.1,ag t0,ag t1,ag h0,ag h1,q.2])
theorem qg {α β:Type}{f:α→β}{x:Except (List Nat) α}{b:β}(h:dS f x=.ok b):∃ a,x=.ok a∧f a=b:=by
 cases x with
 | error c=>exact nomatch h
 | ok a=>exact ⟨a,rfl,Except.ok.inj h⟩
theorem pw {p:ae}{ws:List (List Nat)}{q:Nat×PV}(h:px p ws=.ok q):aS q.2=true:=by
 unfold px at h
 split at h
 ·cases h;rfl
 ·split at h
  ·cases h;rfl
  ·split at h
   ·obtain ⟨a,_,e⟩:=qg h;refine ri e ?_;rfl
   ·split at h
    ·obtain ⟨a,e1,e⟩:=qg h;refine ri e ?_;exact eO (s:=7) e1
    ·exact nomatch h
section
variable {n:Nat} {p:ae} {ws:List (List Nat)} {num:Int} {σ:aa}
noncomputable def M9 (p:ae)(ws:List (List Nat))(num:Int)(a b c d:Option PV):am:=[some (bf p),some (.lst (ws.map .str)),some aH,some (.int num),a,b,c,d,none,none]
theorem oP {v:PV}{a b c d e:Nat}(h:aS v=true):aS (.tup [ag a,ag b,ag c,ag d,ag e,v])=true:=N4.mpr ⟨h,rfl⟩
theorem jH {α:Type}{i:Nat}{ix:IE}{k:List Nat}{q:IS}{ρ:am}{f:Nat→Except (List Nat) α}{F:α→PV}(h:free σ)(hw:Ev (n+2) (.cs (.v 0) (.cs ix (.cs (.v 3) .nl))) ρ σ (.ok (.tup [bf p,.str k,.int num]) σ))(hr:∀ v,aJ p k=.ok v→SR (n+2) q (ρ.set i (some (ag v))) σ (cf F num σ (f v))):SR (n+2) (.sq (.asg i (.call 12 (.cs (.v 0) (.cs ix (.cs (.v 3) .nl))))) q) ρ σ (cf F num σ (match aJ p k with | .error c=>.error c | .ok v=>f v)):=by
 have E:=dH hw (eE (n:=n+1) (p:=p) (k:=k) (num:=num) h)
 revert E hr
 cases aJ p k with
 | ok v=>exact λ hr E=>(hr v rfl).imp λ ro w=>⟨dD (.inl ⟨_,σ,um rfl (.inl ⟨_,σ,E,rfl⟩),w.1⟩),w.2⟩
 | error c=>exact λ hr E=>⟨_,kn (um rfl (.inr ⟨c,num,σ,E,rfl⟩)) trivial,trivial,cu h⟩
theorem F6 {ρ:am}{ix:IE}{k:List Nat}{t:List Nat}(h:Ev n ix ρ σ (.ok (.str k) σ)):Ev n (.cmp .NotEq ix (.c (.str t))) ρ σ (.ok (.bool (decide (k≠t))) σ):=gS (.inl ⟨_,σ,h,.inl ⟨_,σ,dI,_,dl (by
 by_cases e:k=t
 ·refine ru (decide_eq_false λ z=>z e) ?_;exact MO e
 ·refine ru (decide_eq_true e) ?_;exact EZ e),rfl⟩⟩)
theorem HP {P Q:Prop}[Decidable P][Decidable Q]:decide (P∨Q)=(decide P||decide Q):=by
 by_cases p:P
 ·refine ru (decide_eq_true p) ?_;exact decide_eq_true (.inl p)
 ·refine ru (decide_eq_false p) ?_;exact e6 ⟨λ q=>q.elim (λ z=>absurd z p) id,.inr⟩
theorem u6 {a b:IE}{ρ:am}{P Q:Prop}[Decidable P][Decidable Q](ha:Ev n a ρ σ (.ok (.bool (decide P)) σ))(hb:¬P→Ev n b ρ σ (.ok (.bool (decide Q)) σ)):Ev n (.or a b) ρ σ (.ok (.bool (decide (P∨Q))) σ):=by
 refine ru HP ?_
 exact BN ha (λ q=>by refine ru q ?_;exact hb (of_decide_eq_false q)) λ q=>by refine ru q ?_;rfl
theorem lO (h:free σ)(hl:ws.length≤1000)(hw:∀ w∈ws,w.length≤1000):ar (n+3) 20 [bf p,.lst (ws.map .str),aH,.int num] σ (cf id num σ (zd p ws)):=by
 have hjl:(ah [32] ((ba 3 (ws.length-3) ws).drop 1)).length≤ax:=by
  exact N1 (cr _ _ (λ w hm=>hw w (X3 (X2 (X3 hm))):∀ w∈(ba 3 (ws.length-3) ws).drop 1,w.length≤1000)) (N1 (W4 1001 (N1 (by refine ru V4 ?_;exact z0a _ _) (N1 (z2j _ _) (N1 (by refine ru V4 ?_;exact z0a _ _) hl)):((ba 3 (ws.length-3) ws).drop 1).length≤1000)) (by decide))
 have C:=lQ (n:=n) (p:=p) (num:=num) h hjl
 refine mn (fd:=⟨4,10,false,Fx⟩) rfl rfl rfl (fy (u6 (P:=ws.length<7) (cG (ov (ag ws.length) (ob (decide (ws.length<7)) [])) λ H=>(H:_→_→_) (G8 ws) (congrArg some (e6 R8))) λ q=>u6 (F6 (cG (ov (.str (ws.getD 1 [])) []) λ H=>(H:_→_) (rn (i:=1) (by (first | lia | omega))))) λ Z9=>F6 (k:=ws.getD (ws.length-2) []) (cG (ov (.str (ws.getD (ws.length-1-1) [])) []) λ H=>(H:_→_) (t9 (i:=1) (by (first | lia | omega))))) (λ q=>?_) λ q=>?_)
 ·unfold zd;refine ru (if_pos (of_decide_eq_true q)) ?_;exact ⟨_,(be [] λ H=>H),trivial,cu h⟩
 ·unfold zd
  refine ru (if_neg (of_decide_eq_false q)) ?_
  have h7:7≤ws.length:=W5.mp λ z=>of_decide_eq_false q (.inl z)
  refine jH (k:=ws.getD 0 []) h (cG (ov (.str (ws.getD 0 [])) []) λ H=>(H:_→_) (rn (i:=0) (by (first | lia | omega)))) λ t0 Z9=>jH (k:=ws.getD 2 []) h (cG (ov (.str (ws.getD 2 [])) []) λ H=>(H:_→_) (rn (i:=2) (by (first | lia | omega)))) λ t1 Z9=>jH (k:=ws.getD (ws.length-3) []) h (cG (ov (.str (ws.getD (ws.length-1-2) [])) []) λ H=>(H:_→_) (t9 (i:=2) (by (first | lia | omega)))) λ h0 Z9=>jH (k:=ws.getD (ws.length-1) []) h (cG (ov (.str (ws.getD (ws.length-1-0) [])) []) λ H=>(H:_→_) (t9 (i:=0) (by (first | lia | omega)))) λ h1 Z9=>?_
  have hc:dN (.lst (ws.map .str)) (.int 3) (.int (-3))=some (.lst ((ba 3 (ws.length-3) ws).map .str)):=B1 (lo:=3) (by (first | lia | omega)) (by
   show some (if ((-3:Int))<0 then (-3+(ws.length:Int)).toNat else _)=_
   exact ru (if_pos (by decide)) (ru (show (-3+(ws.length:Int)).toNat=ws.length-3 by (first | lia | omega)) rfl))
  revert C
  cases hq:px p (ba 3 (ws.length-3) ws) with
  | ok q=>exact λ C=>⟨_,(be (ov (.lst ((ba 3 (ws.length-3) ws).map .str)) (ov (.tup [ag q.1,q.2]) [])) λ H=>(H:_→_→_) hc C),trivial,bB h (oP (pw hq))⟩
  | error c=>exact λ C=>⟨_,(be (ov (.lst ((ba 3 (ws.length-3) ws).map .str)) (.x c num σ::[])) λ H=>(H:_→_→_) hc C),trivial,cu h⟩
theorem qo {α:Type}{k:List Nat}{f:Nat→Except (List Nat) α}{v:α}(h:(match aJ p k with | .error c=>Except.error c | .ok v=>f v)=.ok v):∃ t,f t=.ok v:=by
 revert h
 cases aJ p k with
 | error c=>exact λ h=>nomatch h
 | ok t=>exact λ h=>⟨t,h⟩
theorem x5 {v:PV}(h:zd p ws=.ok v):aS v=true:=by
 unfold zd at h
 split at h
 ·exact nomatch h
 ·obtain ⟨_,h⟩:=qo h
  obtain ⟨_,h⟩:=qo h
  obtain ⟨_,h⟩:=qo h
  obtain ⟨_,h⟩:=qo h
  revert h
  cases hq:px p (ba 3 (ws.length-3) ws) with
  | error c=>exact λ h=>nomatch h
  | ok q=>exact λ h=>ri (Except.ok.inj h) (oP (pw hq))
end
end
noncomputable section
noncomputable def mL:List Int:=match D7 with | .dctI ks _=>ks | _=>[]
noncomputable def lJ:List PV:=match D7 with | .dctI _ vs=>vs | _=>[]
noncomputable def af (op:Nat):Nat:=match bz (op:Int) mL lJ with | some (.int s)=>s.toNat | _=>99
noncomputable def Lz (v:Option PV):Bool:=match v with | some (.int s)=>decide (0≤s)&&decide (s<12) | _=>false
theorem bP {op:Nat}{w:List Nat}(h:(w,op)∈bV):bz (op:Int) mL lJ=some (.int (af op:Int))∧af op<12:=by
 have:=O2.mp (show (bV.all λ q=>Lz (bz (q.2:Int) mL lJ))=true by kernel_rfl) _ h
 unfold af
 revert this
 generalize bz (op:Int) mL lJ=v
 cases v with
 | none=>exact λ q=>rh q
 | some v=>cases v with
  | int s =>
   intro q
   have e:=T4 (of_decide_eq_true (N4.mp q).1)
   have:=of_decide_eq_true (N4.mp q).2
   exact ⟨congrArg (λ i=>some (PV.int i)) e.symm,show s.toNat<12 by (first | lia | omega)⟩
  | _=>exact λ (q:false=true)=>rh q
noncomputable def ez (q:Nat×PV):PV:=.tup [ag q.1,q.2]
noncomputable def iD (p:ae)(q:Nat×Nat×List Nat):Except (List Nat×Int) (Nat×PV):=CB q.1 (dS (λ v=>(q.2.1,v)) (fV p (af q.2.1) q.2.2))
noncomputable def jX (p:ae)(q:Nat×List (List Nat)):Except (List Nat×Int) PV:=CB q.1 (zd p q.2)
noncomputable def lR (text:List Nat):Except (List Nat×Int) (List (Nat×PV)×List PV):=match bc {} 0 (aq 10 text) with
 | .error e=>.error (e.1,(e.2.1:Int))
 | .ok p=>match bn (iD p) p.rows with
  | .error e=>.error e
  | .ok code=>match bn (jX p) p.cls with
   | .error e=>.error e
   | .ok cl=>.ok (code,cl)
theorem ur {p:ae}{s:Nat}{t:List Nat}{v:PV}(h:fV p s t=.ok v):aS v=true:=by
 unfold fV at h
 split at h
 ·split at h
  ·cases h;rfl
  ·exact nomatch h
 all_goals first
  | exact eO h
  | (obtain ⟨a,_,e⟩:=qg h;refine ri e ?_;first | rfl | exact ay (f:=ag) λ Z9=>rfl)
noncomputable def okP (p:ae):Prop:=p.rows.length≤1000∧p.cls.length≤1000∧(∀ q∈p.rows,(∃ w,(w,q.2.1)∈bV)∧LP q.2.2)∧∀ q∈p.cls,q.2.length≤1000∧∀ w∈q.2,w.length≤1000
noncomputable def H9 (r:List (Nat×PV)×List PV):PV:=.tup [.lst (r.1.map ez),.lst r.2]
theorem kX {l:List (Nat×PV)}(h:∀ v∈l,aS v.2=true):noLocs (l.map ez)=true:=by
 (refine ru nc ?_;rewrite [O2])
 exact Q5.mpr λ v m=>N4.mpr ⟨h v m,rfl⟩
theorem wW {l:List PV}(h:∀ v∈l,aS v=true):noLocs (l.map id)=true:=by (refine ru (Y6 ..) (ru nc ?_);rewrite [O2]);exact h
section
variable {n:Nat} {text:List Nat} {p:ae} {σ:aa}
noncomputable def jR (text:List Nat)(p:ae)(l:Nat)(a b c d e:Option PV):am:=[some (.str text),some aH,some (bf p),some (.loc l),a,b,c,d,e]
theorem zU (h:free σ)(q:Nat×Nat×List Nat)(hq:(∃ w,(w,q.2.1)∈bV)∧LP q.2.2)(ds:List (Nat×PV))(hd:ds.length<ax)(hn:∀ v∈ds,aS v.2=true):∃ ρ' ro,b3 false [4,5,6] (ow q) (jR text p σ.length none none none none none)=some ρ'∧St (n+4) nK ρ' (aZ σ ez ds) ro∧pF (·=jR text p σ.length none none none none none) (λ v=>aS v.2=true) [4,5,6] σ ez ds ro (iD p q):=by
 refine hq.elim λ w1z hok=>w1z.elim λ w hw=>?_
 have C:=qT (n:=n) (p:=p) (num:=(q.1:Int)) (br (σ:=σ) (vs:=ds.map ez) h (kX hn)) (bP hw).2 hok
 unfold iD
 revert C
 cases hr:fV p (af q.2.1) q.2.2 with
 | ok v=>exact λ C=>⟨_,_,rfl,(be (.l (ds.map ez) []::(ov (ag (af q.2.1)) (ov v (.r .none (aZ σ ez (ds++[(q.2.1,v)]))::[])))) λ H=>(H:_→_→_→_→_) bb ((bP hw).1) C (bH (v:=(q.2.1,v)) hd)),⟨_,rfl,rfl⟩,ur hr⟩
 | error c=>exact λ C=>⟨_,_,rfl,(be (.l (ds.map ez) []::(ov (ag (af q.2.1)) (.x c (q.1:Int) (aZ σ ez ds)::[]))) λ H=>(H:_→_→_→_) bb ((bP hw).1) C),rfl⟩
theorem B6 {l:Nat}(h:free σ)(q:Nat×List (List Nat))(hq:q.2.length≤1000∧∀ w∈q.2,w.length≤1000)(x:Option PV)(ds:List PV)(hd:ds.length<ax)(hn:∀ v∈ds,aS v=true):∃ ρ' ro,b3 false [4,8] (oF q) (jR text p l x none none (some (.loc σ.length)) none)=some ρ'∧St (n+4) nJ ρ' (aZ σ id ds) ro∧pF (λ ρ=>∃ x,ρ=jR text p l x none none (some (.loc σ.length)) none) (λ v=>aS v=true) [8] σ id ds ro (jX p q):=by
 have C:=lO (n:=n+1) (p:=p) (num:=(q.1:Int)) (br (σ:=σ) (vs:=ds.map id) h (wW hn)) hq.1 hq.2
 unfold jX
 revert C
 cases hr:zd p q.2 with
 | ok v=>exact λ C=>⟨_,_,rfl,(be (.l (ds.map id) []::(ov v (.r .none (aZ σ id (ds++[v]))::[]))) λ H=>(H:_→_→_→_) bb C (bH (d:=id) hd)),⟨_,rfl,_,rfl⟩,x5 hr⟩
 | error c=>exact λ C=>⟨_,_,rfl,(be (.l (ds.map id) []::(.x c (q.1:Int) (aZ σ id ds)::[])) λ H=>(H:_→_→_) bb C),rfl⟩
noncomputable def KM (σ:aa):Except (List Nat×Int) (List (Nat×PV)×List PV)→aY PV
 | .ok r=>.ok (H9 r) σ
 | .error e=>.exc e.1 e.2 σ
theorem LZ {α β:Type}{f:α→Option β}{a b:α}{x y:β}(h1:f a=some x)(h2:f b=some y):i3 f [a,b]=some [x,y]:=by
 show (f a).bind _=_
 refine ru h1 ?_
 show ((f b).bind _).map _=_
 refine ru h2 ?_;rfl
theorem oK (h:free σ)(hl:(aq 10 text).length≤900)(hc:∀ l∈aq 10 text,l.length<1000)(hp:∀ p,bc {} 0 (aq 10 text)=.ok p→okP p):ar (n+5) 22 [.str text,aH] σ (KM σ (lR text)):=by
 have C:=n9 (n:=n) (text:=text) h hl hc
 unfold lR
 revert C hp
 cases bc {} 0 (aq 10 text) with
 | error e=>exact λ Z9 C=>(al rfl rfl (.x e.1 (e.2.1:Int) σ::[]) λ H=>(H:_→_) C _ (cu h))
 | ok p =>
  intro hp C
  have z:∀ {k:Nat},k≤1000→0+k≤ax:=λ h=>N1 (P0 (R9 _)) (N1 h (by decide))
  obtain ⟨ro,L,B⟩:=fJ (n:=n+4) (g:=ow) (d:=ez) (fe:=iD p) (body:=nK) (single:=false) (t:=[4,5,6]) (kill:=[4,5,6]) (σ:=σ) (·=jR text p σ.length none none none none none) (λ v=>aS v.2=true) p.rows _ [] rfl (z (hp p rfl).1) (O1 _) λ q m ρ e ds hd hn=>by refine ru e ?_;exact zU h q ((hp p rfl).2.2.1 q m) ds hd hn
  revert B
  dsimp only
  cases bn (iD p) p.rows with
  | error e =>
   intro B
   obtain ⟨o,rfl⟩:=B
   exact (al rfl rfl (ov (bf p) (aw 1 (.x e.1 e.2 (aZ σ ez o)::[]))) λ H=>(H:_→_→_) C L _ (oD h))
  | ok code =>
   intro B
   obtain ⟨⟨ρ',rfl,rfl⟩,hn⟩:=B
   have f1:free (aZ σ ez code):=br h (kX hn)
   obtain ⟨ro,L2,B⟩:=fJ (n:=n+4) (g:=oF) (d:=id) (fe:=jX p) (body:=nJ) (single:=false) (t:=[4,8]) (kill:=[8]) (σ:=aZ σ ez code) (λ ρ=>∃ x,ρ=jR text p σ.length x none none (some (.loc (aZ σ ez code).length)) none) (λ v=>aS v=true) p.cls _ [] ⟨none,rfl⟩ (z (hp p rfl).2.1) (O1 _) λ q m ρ e ds hd hn=>by obtain ⟨x,rfl⟩:=e;exact B6 f1 q ((hp p rfl).2.2.2 q m) x ds hd hn
   have as:∀ o:List PV,aZ (aZ σ ez code) id o=σ++[aN.lst (code.map ez),aN.lst (o.map id)]:=λ o=>N6 ..
   revert B
   dsimp only
   cases bn (jX p) p.cls with
   | error e =>
    intro B
    obtain ⟨o,rfl⟩:=B
    exact (al rfl rfl (ov (bf p) (aw 1 (.n (jR text p σ.length none none none none none) (aZ σ ez code)::(aw 1 (.x e.1 e.2 (aZ (aZ σ ez code) id o)::[]))))) λ H=>(H:_→_→_→_) C L L2 _ (by refine ru (as ..) ?_;exact oD h))
   | ok cl =>
    intro B
    obtain ⟨⟨ρ',rfl,x,rfl⟩,hn2⟩:=B
    refine (al rfl rfl (ov (bf p) (aw 1 (.n (jR text p σ.length none none none none none) (aZ σ ez code)::(aw 1 (.n (jR text p σ.length x none none (some (.loc (aZ σ ez code).length)) none) (aZ (aZ σ ez code) id cl)::[]))))) λ H=>(H:_→_→_→_) C L L2 _ ?_)
    refine ru (as ..) (ru (N5:(aZ σ ez code).length=σ.length+1) ?_)
    exact ⟨_,l9 h (congrArg (Option.map PV.tup) (LZ (nR (i:=0) (o:=.lst (code.map ez)) rfl (kX hn)) (nR (i:=1) (o:=.lst (cl.map id)) rfl (wW hn2)))),by refine ru (Y6 ..) ?_;rfl⟩
end
end
noncomputable section
structure lm where
 op:Int
 n:PV
 gs:List Int
noncomputable def NI (v:Option PV):Bool:=match v with | some (.int s)=>decide (s=5) | _=>false
noncomputable def H2 (op:Int):Bool:=NI (bz op mL lJ)
noncomputable def cA (i:lm):PV:=.tup [.int i.op,i.n]
noncomputable def lm.ok (i:lm):Prop:=aS i.n=true∧(if i.op=69 then i.n=.tup (i.gs.map .int) else if H2 i.op then ∃ g,i.n=.int g∧i.gs=[g] else i.gs=[])
theorem AQ {K:Type}[DecidableEq K]{k:K}{v:PV}(ks:List K):∀ {vs:List PV},bz k ks vs=some v→v∈vs:=by
 induction ks with
 | nil=>exact λ {vs} h=>by cases vs<;>exact b2 h
 | cons a ks ih =>
  intro vs h
  cases vs with
  | nil=>exact b2 h
  | cons w vs =>
   by_cases e:k=a
   ·exact ri (Option.some.inj ((if_pos e).symm.trans (h:(if k=a then some w else bz k ks vs)=some v))) N2
   ·exact N9 _ (ih ((if_neg e).symm.trans (h:(if k=a then some w else bz k ks vs)=some v)))
theorem zL:∀ v∈lJ,(pi v).isSome=true:=O2.mp (by kernel_rfl)
theorem oJ {n:Nat}{op:Int}{σ:aa}(h:free σ):ar (n+1) 5 [.int op] σ (.ok (.bool (H2 op)) σ):=by
 refine (al rfl rfl (ov ((bz op mL lJ).getD (.int (-1))) (ob (H2 op) [])) λ H=>(H:_→_→_) rfl ?_ _ (bB h rfl))
 unfold H2
 cases hl:bz op mL lJ with
 | none=>rfl
 | some v =>
  have m:=zL v (AQ _ hl)
  cases v with
  | int s=>rfl
  | _=>exact rh m
theorem qQ {n:Nat}{i:lm}{σ:aa}(h:free σ)(hi:i.ok):ar (n+2) 6 [cA i] σ (.ok (.tup (i.gs.map .int)) σ):=by
 obtain ⟨op,v,gs⟩:=i
 obtain ⟨h1,h2⟩:=hi
 dsimp only at h1 h2 ⊢
 have C:=oJ (n:=n) (op:=op) h
 have h2:if op=69 then v=.tup (gs.map .int) else if H2 op then ∃ g,v=.int g∧gs=[g] else gs=[]:=h2
 by_cases q:op=69
 ·rw [if_pos q] at h2
  subst q;subst h2
  exact (al rfl rfl [] λ H=>H _ (bB h h1))
 ·rw [if_neg q] at h2
  revert h2 C
  cases H2 op with
  | true =>
   intro C h2
   obtain ⟨g,rfl,rfl⟩:=h2
   exact (al rfl rfl (aw 1 (ob false (aw 1 (ov (.bool true) [])))) λ H=>(H:_→_→_) (eI q) C _ (bB h rfl))
  | false =>
   intro C h2
   cases (show gs=[] from h2)
   exact (al rfl rfl (aw 1 (ob false (aw 1 (ov (.bool false) [])))) λ H=>(H:_→_→_) (eI q) C _ (bB h rfl))
structure Cl where
 s:Int
 t0:Int
 t1:Int
 h0:Int
 h1:Int
 e:Int
noncomputable def cS (c:Cl):PV:=.tup [.int c.s,.int c.t0,.int c.t1,.int c.h0,.int c.h1,.int c.e]
noncomputable def aA (c:Cl):List Int:=if c.s=1 then [c.t0,c.t1,c.h0,c.h1,c.e] else [c.t0,c.t1,c.h0,c.h1]
theorem vu {n:Nat}{c:Cl}{σ:aa}(h:free σ):ar (n+1) 3 [cS c] σ (.ok (.tup ((aA c).map .int)) σ):=by
 unfold aA
 by_cases q:c.s=1
 ·refine ru (if_pos q) ?_;exact (al rfl rfl (aw 1 (ob true [])) λ H=>(H:_→_) (qO q) _ (bB h rfl))
 ·refine ru (if_neg q) ?_;exact (al rfl rfl (aw 1 (ob false [])) λ H=>(H:_→_) (eI q) _ (bB h rfl))
noncomputable def bi {β γ ε:Type}(st:β→γ→Except ε β):β→List γ→Except ε β
 | b,[]=>.ok b
 | b,y::r=>match st b y with
  | .ok b'=>bi st b' r
  | .error e=>.error e
theorem l6 {β γ ε:Type}{st:β→γ→Except ε β}{b:β}{y:γ}{r:List γ}:bi st b (y::r)=(match st b y with
  | .ok b'=>bi st b' r
  | .error e=>.error e):=rfl
section
variable {n:Nat} {β γ:Type} {g:γ→PV} {body:IS} {single:Bool} {t kill:List Nat}
set_option tactic.hygienic true in
noncomputable def tZ (R:am→Prop)(S:β→aa)(P:β→Prop)(ro:aY cO):Except (List Nat×Int) β→Prop
 | .ok b=>P b∧∃ ρ',ro=.ok (.next ρ') (S b)∧R ρ'
 | .error e=>∃ b,ro=.exc e.1 e.2 (S b)
theorem jP (R:am→Prop)(S:β→aa)(P:β→Prop)(stp:β→γ→Except (List Nat×Int) β)(ys:List γ):∀ (b:β) (ρ:am),R ρ→P b →
  (∀ y∈ys,∀ b ρ,R ρ→P b→∃ ρ' ro,b3 single t (g y) ρ=some ρ'∧St n body ρ' (S b) ro∧tZ (λ ρ=>R (dg kill ρ)) S P ro (stp b y))→∃ ro,cE (St n body) (b3 single t) kill (ys.map g) ρ (S b) ro∧tZ R S P ro (bi stp b ys):=by
 induction ys with
 | nil=>exact λ b ρ hr hp Z9=>⟨_,rfl,hp,ρ,rfl,hr⟩
 | cons y ys ih =>
  intro b ρ hr hp h
  obtain ⟨ρ',ro,ha,hs,ht⟩:=h y N2 b ρ hr hp
  refine ru l6 ?_
  cases hf:stp b y with
  | error e =>
   rw [hf] at ht
   obtain ⟨b',rfl⟩:=ht
   exact ⟨_,iu ha hs trivial,b',rfl⟩
  | ok b' =>
   rw [hf] at ht
   obtain ⟨p',ρ'',rfl,r'⟩:=ht
   exact (ih b' _ r' p' λ z m=>h z (N9 _ m)).imp λ ro w=>⟨aF ha hs w.1,w.2⟩
end
section
variable {σ τ:aa} {A:PV} {vs:List PV}
theorem bL (h:bw σ A=some vs):bw (σ++τ) A=some vs:=by
 cases A with
 | lst l=>exact h
 | loc l =>
  obtain ⟨o,e,h⟩:=O5.mp h
  exact (congrArg (Option.bind · eR) ((S3 (O6.mp e).1).trans e)).trans h
 | _=>exact b2 h
theorem jL {i:Nat}{v:PV}(h:bw σ A=some vs)(hi:vs[i]?=some v):bp A (.int (i:Int)) σ=some v:=by
 cases A with
 | lst l=>exact cF (ru (Option.some.inj h) hi)
 | loc l =>
  obtain ⟨o,e,h⟩:=O5.mp h
  cases o with
  | lst ws =>
   cases Option.some.inj h
   show (σ[l]?).bind _=_
   refine ru e ?_
   exact cF (σ:=σ) hi
  | _=>exact b2 h
 | _=>exact b2 h
theorem fD (h:bw σ A=some vs):(jE σ A).map (λ n:Nat=>PV.int (n:Int))=some (ag vs.length):=by
 cases A with
 | lst l=>cases Option.some.inj h;rfl
 | loc l =>
  obtain ⟨o,e,h⟩:=O5.mp h
  cases o with
  | lst ws =>
   cases Option.some.inj h
   show Option.map _ ((σ[l]?).map _)=_
   refine ru e ?_;rfl
  | _=>exact b2 h
 | _=>exact b2 h
end
end
noncomputable section
noncomputable def dZ (k:Int):List Int→List Int
 | []=>[k]
 | a::r=>if k=a then a::r else a::dZ k r
theorem vH {k a:Int}{r:List Int}:dZ k (a::r)=if k=a then a::r else a::dZ k r:=rfl
set_option tactic.hygienic true in
theorem jz {k x:Int}{l:List Int}:x∈dZ k l ↔ x=k∨x∈l:=by
 induction l with
 | nil=>exact P7.trans (Iff.symm (or_iff_left nofun))
 | cons a r ih =>
  refine ru vH ?_
  split
  ·rename_i h;subst h;exact ⟨.inr,λ q=>q.elim (λ e=>ri e N2) id⟩
  ·rw [Q2,Q2,ih,or_left_comm]
set_option tactic.hygienic true in
theorem uy {k:Int}{l:List Int}(h:l.Nodup):(dZ k l).Nodup:=by
 induction l with
 | nil=>exact V3 _ _
 | cons a r ih =>
  refine ru vH ?_
  split
  ·exact h
  ·rename_i hk
   have h:=Q9.mp h
   exact Q9.mpr ⟨λ m=>(jz.mp m).elim (λ e=>hk e.symm) h.1,ih h.2⟩
theorem rV {k:Int}{x:PV}{l:List Int}:ku k x l (l.map λ Z9=>x)=(dZ k l,(dZ k l).map λ Z9=>x):=by
 induction l with
 | nil=>rfl
 | cons a r ih =>
  show (if k=a then (a::r,x::r.map λ Z9=>x) else (a::(ku k x r (r.map λ Z9=>x)).1,x::(ku k x r (r.map λ Z9=>x)).2))=_
  refine ru vH ?_
  refine ru ih ?_
  split<;>rfl
noncomputable def iI (size:Nat)(ks:List Int):Prop:=ks.Nodup∧∀ x∈ks,0≤x∧x≤(size:Int)
theorem fX {size:Nat}{ks:List Int}(h:iI size ks):ks.length≤size+1:=by
 have:=h.1.length_le_of_subset (l₂:=(List.range (size+1)).map λ i:Nat=>(i:Int)) λ x m=>S0.mpr ⟨x.toNat,R4.mpr (by have:=h.2 x m;(first | lia | omega)),T4 (h.2 x m).1⟩
 rwa [N3,Q4] at this
theorem ic {size:Nat}{ks:List Int}{k:Int}(h:iI size ks)(hk:0≤k∧k≤(size:Int)):iI size (dZ k ks):=⟨uy h.1,λ x hx=>(jz.mp hx).elim (λ e=>ru e hk) (h.2 x)⟩
noncomputable def cM (size:Nat)(i:Nat)(ks:List Int)(g:Int):Except (List Nat×Int) (List Int):=if g<0∨g ≥ (size:Int) then .error (mr,(i:Int)) else .ok (dZ g ks)
noncomputable def dW (size:Nat)(i:Nat)(ks:List Int)(g:Int):Except (List Nat×Int) (List Int):=if g<0∨g > (size:Int) then .error (j1,(i:Int)) else .ok (dZ g ks)
noncomputable def gP (code:List lm)(i:Nat):List Int:=match code[i]? with | some c=>c.gs | none=>[]
noncomputable def jU (cl:List Cl)(i:Nat):List Int:=match cl[i]? with | some c=>aA c | none=>[]
noncomputable def cK (code:List lm)(cl:List Cl):Except (List Nat×Int) (List Int):=match bi (λ ks i=>bi (cM code.length i) ks (gP code i)) [] (List.range code.length) with
 | .error e=>.error e
 | .ok ks=>bi (λ ks i=>bi (dW code.length i) ks (jU cl i)) ks (List.range cl.length)
noncomputable def Iy (ks:List Int):aN:=.dctI ks (ks.map λ Z9=>.str [])
noncomputable def gE (σ:aa)(ks:List Int):aa:=σ++[Iy ks]
section
variable {n i:Nat} {A B:PV} {code:List lm} {cl:List Cl} {σ:aa}
theorem rF {ks:List Int}(h:free σ):free (gE σ ks):=gQ h (N4.mpr ⟨ay (f:=λ Z9=>PV.str []) λ Z9=>rfl,rfl⟩)
theorem rN {size:Nat}{ks:List Int}{k:Int}(h:iI size ks)(hz:size≤1000):(eM (.loc σ.length) (.int k) (.str []) (gE σ ks)).map (λ σ'=>(PV.none,σ'))=some (.none,gE σ (dZ k ks)):=by
 show (((σ++[Iy ks])[σ.length]?).bind _).map _=_
 refine ru dq ?_
 refine (congrArg (Option.map _) (if_pos (O0 (N1 (fX h) (P3 hz)) (by decide)))).trans ?_
 refine ru rV ?_
 exact congrArg (λ z=>some (PV.none,z)) ji
noncomputable def cw (A B:PV)(l:Nat)(a b c d e:Option PV):am:=[some A,some B,some (.loc l),a,b,c,d,e]
theorem uV (hA:bw σ A=some (code.map cA))(hz:code.length≤1000)(gs:List Int){ks:List Int}(hk:iI code.length ks):∃ ro,cE (St n s7) (b3 true [4]) [4] (gs.map .int) (cw A B σ.length (some (ag i)) none none none none) (gE σ ks) ro∧tZ (·=cw A B σ.length (some (ag i)) none none none none) (gE σ) (iI code.length) ro (bi (cM code.length i) ks gs) :=
 jP (·=cw A B σ.length (some (ag i)) none none none none) (gE σ) (iI code.length) (cM code.length i) gs ks _ rfl hk λ g m ks ρ e hk=>by
  subst e
  have hl:=fD (bL (τ:=[Iy ks]) hA)
  rw [N3] at hl
  unfold cM
  by_cases q1:g<0
  ·refine ru (if_pos (.inl q1)) ?_;exact ⟨_,_,rfl,(be (ob true []) λ H=>(H:_→_) (EB q1)),ks,rfl⟩
  ·by_cases q2:g ≥ (code.length:Int)
   ·refine ru (if_pos (.inr q2)) ?_;exact ⟨_,_,rfl,(be (ob false (ov (ag code.length) (ob true []))) λ H=>(H:_→_→_→_) (qN q1) hl (KD q2)),ks,rfl⟩
   ·refine ru (if_neg λ q=>q.elim q1 q2) ?_;exact ⟨_,_,rfl,(be (ob false (ov (ag code.length) (ob false (.r .none (gE σ (dZ g ks))::[])))) λ H=>(H:_→_→_→_→_) (qN q1) hl (Lb q2) (rN hk hz)),ic hk ⟨V2.mp q1,U9 (Y7.mp q2)⟩,_,rfl,rfl⟩
theorem vf (hA:bw σ A=some (code.map cA))(hz:code.length≤1000)(gs:List Int){ks:List Int}(hk:iI code.length ks):∃ ro,cE (St n s2) (b3 true [6]) [6] (gs.map .int) (cw A B σ.length none none (some (ag i)) none none) (gE σ ks) ro∧tZ (·=cw A B σ.length none none (some (ag i)) none none) (gE σ) (iI code.length) ro (bi (dW code.length i) ks gs) :=
 jP (·=cw A B σ.length none none (some (ag i)) none none) (gE σ) (iI code.length) (dW code.length i) gs ks _ rfl hk λ g m ks ρ e hk=>by
  subst e
  have hl:=fD (bL (τ:=[Iy ks]) hA)
  rw [N3] at hl
  unfold dW
  by_cases q1:g<0
  ·refine ru (if_pos (.inl q1)) ?_;exact ⟨_,_,rfl,(be (ob true []) λ H=>(H:_→_) (EB q1)),ks,rfl⟩
  ·by_cases q2:g > (code.length:Int)
   ·refine ru (if_pos (.inr q2)) ?_;exact ⟨_,_,rfl,(be (ob false (ov (ag code.length) (ob true []))) λ H=>(H:_→_→_→_) (qN q1) hl (congrArg some (decide_eq_true q2))),ks,rfl⟩
   ·refine ru (if_neg λ q=>q.elim q1 q2) ?_;exact ⟨_,_,rfl,(be (ob false (ov (ag code.length) (ob false (.r .none (gE σ (dZ g ks))::[])))) λ H=>(H:_→_→_→_→_) (qN q1) hl (congrArg some (decide_eq_false q2)) (rN hk hz)),ic hk ⟨V2.mp q1,V2.mp q2⟩,_,rfl,rfl⟩
theorem inner {β:Type}{n:Nat}{ie:IE}{xs:List PV}{x:PV}{single:Bool}{t:List Nat}{b:IS}{kill:List Nat}{ρ:am}{S:β→aa}{P:β→Prop}{k:β}{ro:aY cO}{R:am→Prop}{e:Except (List Nat×Int) β}{kill2:List Nat}(he:Ev n ie ρ (S k) (.ok x (S k)))(hx:gm x=some xs)(hl:cE (St n b) (b3 single t) kill xs (dg kill ρ) (S k) ro)(h:tZ R S P ro e){R':am→Prop}(hR:∀ ρ,R ρ→R' (dg kill2 ρ)):∃ ro,St n (.sq (.forr single t ie b kill) .sk) ρ (S k) ro∧tZ (λ ρ=>R' (dg kill2 ρ)) S P ro e:=by
 have go:=vU (n:=n) (single:=single) (t:=t) (it:=ie) (b:=b) (kill:=kill) (.inl ⟨x,_,he,xs,hx,hl⟩)
 cases e with
 | ok b =>
  obtain ⟨p,ρ',rfl,r⟩:=h
  exact ⟨_,dD (.inl ⟨_,_,go,gj⟩),p,ρ',rfl,hR _ r⟩
 | error e =>
  obtain ⟨b,rfl⟩:=h
  exact ⟨_,kn go trivial,b,rfl⟩
theorem GT (h:free σ)(hA:bw σ A=some (code.map cA))(hi:∀ i∈code,i.ok)(hz:code.length≤1000):∃ ro,cE (St (n+2) s3) (b3 true [3]) [3,4] ((List.range code.length).map ag) (cw A B σ.length none none none none none) (gE σ []) ro∧tZ (·=cw A B σ.length none none none none none) (gE σ) (iI code.length) ro (bi (λ ks i=>bi (cM code.length i) ks (gP code i)) [] (List.range code.length)) :=
 jP (·=cw A B σ.length none none none none none) (gE σ) (iI code.length) _ (List.range code.length) [] _ rfl ⟨z0s,O1 _⟩ λ i m ks ρ e hk=>by
  subst e
  have hc:=O4 (R4.mp m)
  generalize code[i]'(R4.mp m)=c at hc
  have e:gP code i=c.gs:=by unfold gP;exact ru hc rfl
  refine ru e ?_
  obtain ⟨ro,L,E⟩:=uV (n:=n+2) (A:=A) (B:=B) (i:=i) hA hz c.gs hk
  obtain ⟨ro',s,E⟩:=inner (kill2:=[3,4]) (R':=(·=cw A B σ.length none none none none none)) (dH (as:=.cs (.idx (.v 0) (.v 3)) .nl) (ρ:=cw A B σ.length (some (ag i)) none none none none) (vs:=[cA c]) (cG (ov (cA c) []) λ H=>(H:_→_) ((jL (bL hA) (by refine ru (Q3) (ru hc ?_);rfl):bp A (.int (i:Int)) (gE σ ks)=some (cA c)))) (qQ (n:=n) (rF h) (hi c (Q1 hc)))) rfl L E λ ρ e=>by refine ru e ?_;rfl
  exact ⟨_,ro',rfl,s,E⟩
theorem GS (h:free σ)(hA:bw σ A=some (code.map cA))(hB:bw σ B=some (cl.map cS))(hz:code.length≤1000){ks:List Int}(hk:iI code.length ks):∃ ro,cE (St (n+2) s0) (b3 true [5]) [5,6] ((List.range cl.length).map ag) (cw A B σ.length none none none none none) (gE σ ks) ro∧tZ (·=cw A B σ.length none none none none none) (gE σ) (iI code.length) ro (bi (λ ks i=>bi (dW code.length i) ks (jU cl i)) ks (List.range cl.length)) :=
 jP (·=cw A B σ.length none none none none none) (gE σ) (iI code.length) _ (List.range cl.length) ks _ rfl hk λ i m ks ρ e hk=>by
  subst e
  have hc:=O4 (R4.mp m)
  generalize cl[i]'(R4.mp m)=c at hc
  have e:jU cl i=aA c:=by unfold jU;exact ru hc rfl
  refine ru e ?_
  obtain ⟨ro,L,E⟩:=vf (n:=n+2) (A:=A) (B:=B) (i:=i) hA hz (aA c) hk
  obtain ⟨ro',s,E⟩:=inner (kill2:=[5,6]) (R':=(·=cw A B σ.length none none none none none)) (dH (as:=.cs (.idx (.v 1) (.v 5)) .nl) (ρ:=cw A B σ.length none none (some (ag i)) none none) (vs:=[cS c]) (cG (ov (cS c) []) λ H=>(H:_→_) ((jL (bL hB) (by refine ru (Q3) (ru hc ?_);rfl):bp B (.int (i:Int)) (gE σ ks)=some (cS c)))) (vu (n:=n+1) (rF h))) rfl L E λ ρ e=>by refine ru e ?_;rfl
  exact ⟨_,ro',rfl,s,E⟩
noncomputable def Lk (k:Nat):List Nat:=76::aL (k:Int)
theorem et:∀ k:Nat,k<64→(aL (k:Int)).length≤3:=by decide +kernel
noncomputable def kP (m:Nat):List PV:=(List.range m).map λ k=>.str (Lk k)
noncomputable def jI (ks:List Int):PV:=.dctI (aW ks) (kP ks.length)
theorem sA (m:Nat):kP (m+1)=kP m++[.str (Lk m)]:=by unfold kP;refine ru Z1 (ru P6 ?_);rfl
theorem oZ {k:Int}{x:PV}{ks:List Int}:∀ {vs:List PV},ks.length=vs.length→k∉ks→ku k x ks vs=(ks++[k],vs++[x]):=by
 induction ks with
 | nil=>exact λ {vs} h _=>by cases vs<;>first | rfl | exact Ix h
 | cons a r ih =>
  intro vs h hk
  cases vs with
  | nil=>exact Iw h
  | cons v q=>exact (if_neg λ e=>hk (Q2.mpr (.inl e))).trans (by refine ru (ih (Nat.succ.inj h) λ m=>hk (N9 _ m)) ?_;rfl)
theorem d4 {k:Nat}(h:k<1000000):m8 (k:Int)=true:=decide_eq_true (P8 h (by decide))
noncomputable def zc (σ:aa)(ks d:List Int):aa:=gE σ ks++[.dctI d (kP d.length)]
theorem yE {ks:List Int}(hn:(aW ks).Nodup)(hl:(aW ks).length<64)(rest:List Int):∀ (d:List Int) (x:Option PV),d++rest=aW ks→∃ x',cE (St n sZ) (b3 true [3]) [] (rest.map .int) (cw A B σ.length x none none none (some (.loc (gE σ ks).length))) (zc σ ks d) (.ok (.next (cw A B σ.length x' none none none (some (.loc (gE σ ks).length)))) (zc σ ks (aW ks))):=by
 induction rest with
 | nil=>exact λ d x e=>⟨x,by refine ri e (ru (O3 ..) ?_);rfl⟩
 | cons y rest ih =>
  intro d x e
  have hd:d.length<64:=O0 (by refine ri e (ru N5 ?_);exact P1 _ _) hl
  refine (ih (d++[y]) (some (.int y)) (by refine ru (N6 ..) ?_;exact e)).elim λ x' i=>?_
  have e1:(jE (zc σ ks d) (.loc (gE σ ks).length)).map (λ n:Nat=>PV.int (n:Int))=some (ag d.length):=by
   show Option.map _ (((gE σ ks++[aN.dctI d (kP d.length)])[(gE σ ks).length]?).map _)=_
   refine ru dq ?_;rfl
  have e2:(eM (.loc (gE σ ks).length) (.int y) (.str (Lk d.length)) (zc σ ks d)).map (λ σ'=>(PV.none,σ'))=some (.none,zc σ ks (d++[y])):=by
   show (((gE σ ks++[aN.dctI d (kP d.length)])[(gE σ ks).length]?).bind _).map _=_
   refine ru dq ?_
   refine (congrArg (Option.map _) (if_pos (P8 hd (by decide)))).trans ?_
   refine ru (oZ (by unfold kP;rw [N3,Q4]) (λ m=>(Q0.mp (ru e hn)).2.2 y m y N2 rfl:y∉d)) ?_
   refine congrArg (λ z=>some (PV.none,z)) (ji.trans ?_)
   unfold zc
   refine ru N5 ?_
   exact congrArg (λ l=>gE σ ks++[aN.dctI (d++[y]) l]) (sA d.length).symm
  exact ⟨x',aF rfl (be (ov (ag d.length) (.r .none (zc σ ks (d++[y]))::[])) λ H=>(H:_→_→_→_→_) e1 (d4 (P8 hd (by decide))) (N1 (S5 (et _ hd) 1) (by decide)) e2) i⟩
noncomputable def Az (σ:aa):Except (List Nat×Int) (List Int)→aY PV
 | .ok ks=>.ok (jI ks) σ
 | .error e=>.exc e.1 e.2 σ
theorem vr (h:free σ)(hA:bw σ A=some (code.map cA))(hB:bw σ B=some (cl.map cS))(hi:∀ i∈code,i.ok)(hz:code.length≤60)(hc:cl.length≤1000):ar (n+3) 23 [A,B] σ (Az σ (cK code cl)):=by
 have z:=N1 hz (show 60≤1000 by decide)
 have rg:∀ {k:Nat},k≤1000→(0:Int)≤(k:Int)∧(k:Int)<2 ^ 40:=λ h=>⟨Q7 _,R8.mpr (O0 h (by decide:1000<2 ^ 40))⟩
 have lA:=λ τ=>fD (bL (τ:=τ) hA)
 have lB:=λ τ=>fD (bL (τ:=τ) hB)
 rw [N3] at lA lB
 obtain ⟨ro,L1,E1⟩:=GT (n:=n) (B:=B) h hA hi z
 unfold cK
 revert E1
 cases bi (λ ks i=>bi (cM code.length i) ks (gP code i)) [] (List.range code.length) with
 | error e =>
  intro E1
  obtain ⟨b,rfl⟩:=E1
  exact (al rfl rfl (ov (ag code.length) (.x e.1 e.2 (gE σ b)::[])) λ H=>(H:_→_→_→_) (lA _) (rg z) L1 _ (oD h))
 | ok ks =>
  intro E1
  obtain ⟨hk,ρ',rfl,rfl⟩:=E1
  obtain ⟨ro,L2,E2⟩:=GS (n:=n) h hA hB z hk
  show ar _ _ _ _ (Az σ (bi _ ks _))
  revert E2
  cases bi (λ ks i=>bi (dW code.length i) ks (jU cl i)) ks (List.range cl.length) with
  | error e =>
   intro E2
   obtain ⟨b,rfl⟩:=E2
   exact (al rfl rfl (ov (ag code.length) (.n (cw A B σ.length none none none none none) (gE σ ks)::(ov (ag cl.length) (.x e.1 e.2 (gE σ b)::[])))) λ H=>(H:_→_→_→_→_→_→_) (lA _) (rg z) L1 (lB _) (rg hc) L2 _ (oD h))
  | ok k2 =>
   intro E2
   obtain ⟨hk2,ρ',rfl,rfl⟩:=E2
   have l2:=O0 (N1 (fX hk2) (P3 hz)) (show 61<64 by decide)
   have sl:(aW k2).length=k2.length:=cd.length_eq
   refine (yE (n:=n+2) (A:=A) (B:=B) (σ:=σ) (ks:=k2) (cd.nodup_iff.mpr hk2.1) (ri sl.symm l2) (aW k2) [] none rfl).elim λ x' L3=>?_
   have so:oS (zc σ k2 []) (.loc σ.length)=some (.lst ((aW k2).map .int)):=by
    show ((zc σ k2 [])[σ.length]?).bind _=_
    refine ru (show (zc σ k2 [])[σ.length]?=some (Iy k2) from (congrArg (·[σ.length]?) (N6 ..)).trans (fp 0)) ?_
    exact if_pos l2
   refine (al rfl rfl (ov (ag code.length) (.n (cw A B σ.length none none none none none) (gE σ ks)::(ov (ag cl.length) (.n (cw A B σ.length none none none none none) (gE σ k2)::(ov (.lst ((aW k2).map .int)) (.n (cw A B σ.length x' none none none (some (.loc (gE σ k2).length))) (zc σ k2 (aW k2))::[])))))) λ H=>(H:_→_→_→_→_→_→_→_→_) (lA _) (rg z) L1 (lB _) (rg hc) L2 so L3 _ ?_)
   refine ru (show zc σ k2 (aW k2)=σ++[Iy k2,.dctI (aW k2) (kP (aW k2).length)] from N6 ..) (ru (show (gE σ k2).length=σ.length+1 from N5) (ru sl ?_))
   exact ⟨_,l8 h (i:=1) (o:=.dctI (aW k2) (kP k2.length)) rfl (ay (f:=λ k=>PV.str (Lk k)) λ Z9=>rfl),rfl⟩
end
end
noncomputable section
theorem AA {γ δ ε:Type}(f:γ→δ)(ys:List γ):bn (ε:=ε) (λ y=>.ok (f y)) ys=.ok (ys.map f):=by
 induction ys with
 | nil=>rfl
 | cons y r ih=>refine ru kG ?_;refine ru ih ?_;rfl
set_option tactic.hygienic true in
theorem l5 {n:Nat}{γ δ:Type}{g:γ→PV}{d:δ→PV}{body:IS}{single:Bool}{t kill:List Nat}{σ:aa}(R:am→Prop)(f:γ→δ)(ys:List γ){ρ:am}{ds:List δ}(hr:R ρ)(hz:ds.length+ys.length≤ax)
  (hb:∀ y∈ys,∀ ρ,R ρ→∀ ds:List δ,ds.length<ax→∃ ρ' ρ'',b3 single t (g y) ρ=some ρ'∧St n body ρ' (aZ σ d ds) (.ok (.next ρ'') (aZ σ d (ds++[f y])))∧R (dg kill ρ'')):∃ ρ',R ρ'∧cE (St n body) (b3 single t) kill (ys.map g) ρ (aZ σ d ds) (.ok (.next ρ') (aZ σ d (ds++ys.map f))):=by
 obtain ⟨ro,L,E⟩:=fJ (g:=g) (fe:=λ y=>.ok (f y)) R (λ Z9=>True) ys ρ ds hr hz (λ Z9 Z9=>trivial) λ y m ρ hr ds hd Z9=>(hb y m ρ hr ds hd).elim λ ρ' w=>w.elim λ ρ'' w=>⟨ρ',_,w.1,w.2.1,⟨ρ'',rfl,w.2.2⟩,trivial⟩
 rw [AA] at E
 obtain ⟨⟨ρ',rfl,r⟩,-⟩:=E
 exact ⟨ρ',r,L⟩
noncomputable def xb (a b:PV):Bool:=PyData.eqv (pd a) (pd b)
noncomputable def eX (k:List Nat):Bool:=decide (ah [32] (ai k)=k)&&decide (k≠[])
noncomputable def aT:List (List Nat×PV)→PV→Option (List Nat)
 | [],_=>none
 | (k,v)::r,w=>if xb v w&&eX k then some k else aT r w
theorem k8 {k:List Nat}{v:PV}{l:List (List Nat×PV)}(hn:(l.map (·.1)).Nodup)(h:(k,v)∈l):eZ k l=some v:=by
 induction l with
 | nil=>exact o4 h
 | cons q r ih =>
  rcases Q2.mp h with e | m
  ·subst e;exact if_pos rfl
  ·exact (if_neg λ e:k=q.1=>(Q9.mp hn).1 (S0.mpr ⟨(k,v),m,e⟩)).trans (ih (Q9.mp hn).2 m)
theorem FM {a b:PV}(h1:shal 8 a=true)(h2:shal 8 b=true):BS a b=some (xb a b):=if_pos (N4.mpr ⟨h1,h2⟩)
section
variable {n:Nat} {σ:aa}
set_option tactic.hygienic true in
noncomputable def Jk (ρ:am)(σ:aa):Option (List Nat)→aY cO
 | some k=>.ok (.ret (.str k)) σ
 | none=>.ok (.next ρ) σ
noncomputable def xf (l:List (List Nat×PV))(w:PV)(num:Int)(x:Option PV):am:=[some (dP l),some w,some (.int num),x]
theorem yo {l:List (List Nat×PV)}{w:PV}{num:Int}(hn:(l.map (·.1)).Nodup)(hw:shal 8 w=true)(r:List (List Nat×PV))(hr:∀ q∈r,q∈l∧shal 8 q.2=true∧q.1.length≤70):cE (St n sY) (b3 true [3]) [3] (r.map λ q=>.str q.1) (xf l w num none) σ (Jk (xf l w num none) σ (aT r w)):=by
 induction r with
 | nil=>rfl
 | cons q r ih =>
  obtain ⟨k,v⟩:=q
  have hz:k.length≤1000:=N1 (hr _ N2).2.2 (by decide)
  have cond:Ev n (.and (.cmp .Eq (.idx (.v 0) (.v 3)) (.v 1)) (.and (.cmp .Eq (.m1 .join (.c (.str [32])) (.m0 .split (.v 3))) (.v 3)) (.cmp .NotEq (.v 3) (.c (.str []))))) (xf l w num (some (.str k))) σ (.ok (.bool (xb v w&&eX k)) σ) :=
   mh (cG (ov v (ob (xb v w) [])) λ H=>(H:_→_→_) ((FF (σ:=σ) (k8 hn (hr _ N2).1))) (FM (hr _ N2).2.1 hw)) (λ q=>by
    refine ru q ?_
    exact mh (cG (ov (.str (ah [32] (ai k))) (ob (decide (ah [32] (ai k)=k)) [])) λ H=>(H:_→_→_→_) (N1 (d7 k) (N1 hz (by decide))) ((cq (σ:=σ) (x:=.lst ((ai k).map .str)) (sep:=[32]) (l:=ai k) rfl (by decide) (mB hz))) (congrArg some (e6 ⟨λ q=>cU q,congrArg aG⟩))) (λ q=>by unfold eX;refine ru q ?_;exact F6 (dG rfl)) λ q=>by unfold eX;refine ru q ?_;rfl) λ q=>by refine ru q ?_;rfl
  refine ru (show aT ((k,v)::_) w=if xb v w&&eX k then some k else aT _ w from rfl) ?_
  revert cond
  cases xb v w&&eX k with
  | true=>exact λ cond=>iu rfl (gh cond (be [] λ H=>H) trivial) trivial
  | false=>exact λ cond=>aF rfl (dD (.inl ⟨_,σ,ee (.inl ⟨_,σ,cond,.inr ⟨rfl,gj⟩⟩),gj⟩)) (ih λ q m=>hr q (N9 _ m))
noncomputable def Jj (num:Int)(σ:aa):Option (List Nat)→aY PV
 | some k=>.ok (.str k) σ
 | none=>.exc gz num σ
theorem lG {l:List (List Nat×PV)}{w:PV}{num:Int}(h:free σ)(hn:(l.map (·.1)).Nodup)(hs:∀ q∈l,shal 8 q.2=true∧q.1.length≤70)(hw:shal 8 w=true):ar (n+1) 24 [dP l,w,.int num] σ (Jj num σ (aT l w)):=by
 have L:=yo (n:=n) (num:=num) (σ:=σ) hn hw l λ q m=>⟨m,hs q m⟩
 rw [show l.map (λ q=>PV.str q.1)=(l.map (·.1)).map PV.str from T0.symm] at L
 revert L
 cases aT l w with
 | some k=>exact λ L=>(al rfl rfl (.r (.str k) σ::[]) λ H=>(H:_→_) L _ (bB h rfl))
 | none=>exact λ L=>(al rfl rfl (.n (xf l w num none) σ::[]) λ H=>(H:_→_) L _ (cu h))
noncomputable def gC (c:Nat):List Nat:=if c=10 then [92,110] else if c=13 then [92,114] else if c=9 then [92,116] else if c=92 then [92,92] else if c=34 then [92,34] else [c]
noncomputable def qt (t:List Nat):List Nat:=[34]++t.flatMap gC++[34]
theorem tt (c:Nat):(bz [c] [[10],[13],[9],[92],[34]] [.str [92,110],.str [92,114],.str [92,116],.str [92,92],.str [92,34]]).getD (.str [c])=.str (gC c):=by
 have s:∀ {a:Nat} {x:List Nat} {y:Option PV} {z:List Nat},y.getD (.str [c])=.str z→(if [c]=[a] then some (PV.str x) else y).getD (.str [c])=.str (if c=a then x else z):=λ {a x y z} h=>by
  by_cases e:c=a
  ·refine ru (if_pos e) (ru (if_pos (congrArg (λ c=>[c]) e)) ?_);rfl
  ·refine ru (if_neg e) (ru (if_neg λ q=>e (T9 q)) ?_);exact h
 exact s (s (s (s (s rfl))))
theorem yS (c:Nat):(bz [c] [[10],[9],[13],[34],[92]] [.str [92,110],.str [92,116],.str [92,114],.str [92,34],.str [92,92]]).getD (.str [c])=.str (gC c):=by
 refine ri (tt c) ?_
 simp only [bz,(λ a=>propext ⟨T9,congrArg λ c=>[c]⟩:∀ a:Nat,([c]=[a])=(c=a))]
 (repeat' split)<;>first | rfl | (subst_vars;contradiction)
theorem tu (c:Nat):(gC c).length≤2:=by unfold gC;(repeat' split)<;>first | exact N8 2 | exact U4 1
theorem tn (t:List Nat):(t.flatMap gC).length≤2*t.length:=by
 induction t with
 | nil=>exact N8 0
 | cons a r ih =>
  refine ru N5 (ru (z2c ..) (ru (W9 ..) ?_))
  exact R7 ih (tu a)
theorem aU {x y:List Nat}{a b:Nat}(hx:x.length≤a)(hy:y.length≤b):(x++y).length≤a+b:=by refine ru N5 ?_;exact R7 hx hy
theorem gd {x y:List Nat}{a b:Nat}(hx:x.length≤a)(hy:y.length≤b)(h:Nat.ble (a+b) 16000000=true):x.length+y.length≤ax:=N1 (R7 hx hy) (P9 h)
theorem l7 {t:List Nat}(h:t.length≤1000):(t.flatMap gC).length≤2000:=N1 (tn t) (U3 2 h)
theorem lg {t:List Nat}(h:free σ)(hl:t.length≤1000):ar (n+1) 25 [.str t] σ (.ok (.str (qt t)) σ):=by
 have f:=l7 hl
 obtain ⟨_,rfl,L⟩:=l5 (n:=n) (g:=fM) (d:=PV.str) (body:=sX) (single:=true) (t:=[2]) (kill:=[2]) (σ:=σ) (·=[some (.str t),some (.loc σ.length),none]) gC t (ds:=[]) rfl (N1 (P0 (R9 _)) (N1 hl (by decide))) λ c Z9 ρ e ds hd=>by
  subst e
  exact ⟨_,_,rfl,(be (.l (ds.map .str) []::(ov (.str (gC c)) (.r .none (aZ σ PV.str (ds++[gC c]))::[]))) λ H=>(H:_→_→_→_) bb (congrArg some (tt c)) (bH (d:=PV.str) hd)),rfl⟩
 have J:=cq (σ:=aZ σ PV.str (t.map gC)) (x:=.loc σ.length) (sep:=[]) (l:=t.map gC) bk (P4 _) (by refine ru (kW ..) ?_;exact N1 f (by decide))
 rw [kW] at J
 exact (al rfl rfl (.n [some (.str t),some (.loc σ.length),none] (aZ σ PV.str (t.map gC))::(ov (.str (t.flatMap gC)) [])) λ H=>(H:_→_→_→_→_) L J (gd (N8 1) f rfl) (gd (aU (x:=[34]) (N8 1) f) (N8 1) rfl) _ (oy h rfl))
theorem yD {x:PV}(t:List Nat):∀ d:List Nat,d.length+2*t.length≤ax→cE (St n sU) (b3 true [2]) [2] (t.map fM) [some x,some (.str d),none] σ (.ok (.next [some x,some (.str (d++t.flatMap gC)),none]) σ):=by
 induction t with
 | nil=>exact λ d Z9=>ri ((O3 d).symm) rfl
 | cons c t ih =>
  intro d hd
  have hd:d.length+(2*t.length+2)≤ax:=hd
  have hs:=tu c
  have i:=ih (d++gC c) (by refine ru N5 ?_;(first | lia | omega))
  rw [N6] at i
  exact aF rfl (be (ov (.str (gC c)) []) λ H=>(H:_→_→_) (congrArg some (yS c)) (by (first | lia | omega))) i
theorem og {t:List Nat}(h:free σ)(hl:t.length≤1000):ar (n+1) 31 [.str t] σ (.ok (.str (qt t)) σ) :=
 have f:=l7 hl
 (al rfl rfl (.n [some (.str t),some (.str ([34]++t.flatMap gC)),none] σ::[]) λ H=>(H:_→_→_) ((yD (n:=n) (σ:=σ) (x:=.str t) t [34] (N1 (S5 (U3 2 hl) 1) (by decide)))) (gd (aU (x:=[34]) (N8 1) f) (N8 1) rfl) _ (bB h rfl))
end
end
noncomputable section
noncomputable def bE (ks:List Int)(x:Int):List Nat:=match bz x (aW ks) (kP ks.length) with | some (.str s)=>s | _=>[]
theorem yA {x:Int}{ks:List Int}:∀ {vs:List PV},ks.length=vs.length→x∈ks→∃ v∈vs,bz x ks vs=some v:=by
 induction ks with
 | nil=>exact λ Z9 h=>o4 h
 | cons a r ih =>
  intro vs h hm
  cases vs with
  | nil=>exact Iw h
  | cons v q =>
   by_cases hx:x=a
   ·exact ⟨v,N2,if_pos hx⟩
   ·exact (ih (Nat.succ.inj h) ((Q2.mp hm).elim (λ e=>absurd e hx) id)).imp λ u w=>⟨N9 _ w.1,(if_neg hx).trans w.2⟩
theorem yB {x:Int}{ks:List Int}:∀ {vs:List PV},x∉ks→bz x ks vs=none:=by
 induction ks with
 | nil=>exact λ {vs} _=>by cases vs<;>rfl
 | cons a r ih =>
  intro vs h
  cases vs with
  | nil=>rfl
  | cons v q=>exact (if_neg λ e=>h (Q2.mpr (.inl e))).trans (ih λ m=>h (N9 _ m))
section
variable {n:Nat} {ks:List Int} {x:Int} {σ:aa}
theorem sE (h:x∈ks):∃ v∈kP ks.length,bz x (aW ks) (kP ks.length)=some v:=yA (by unfold kP;exact ru cd.length_eq (ru (N3 ..) (ru Q4 rfl))) (cd.mem_iff.mpr h)
theorem aV (h:x∈ks)(hl:ks.length<64):bz x (aW ks) (kP ks.length)=some (.str (bE ks x))∧(bE ks x).length≤4:=by
 obtain ⟨v,hv,e⟩:=sE h
 unfold bE
 refine ru e ?_
 obtain ⟨k,hk,rfl⟩:=S0.mp hv
 exact ⟨rfl,P3 (et k (P8 (R4.mp hk) hl))⟩
theorem jM (h:x∈ks)(hl:ks.length<64):bp (jI ks) (.int x) σ=some (.str (bE ks x)):=(aV h hl).1
theorem i4:bT .In (.int x) (jI ks) σ=some (decide (x∈ks)):=by
 refine congrArg some (?_:(bz x (aW ks) (kP ks.length)).isSome=_)
 by_cases h:x∈ks
 ·obtain ⟨v,_,e⟩:=sE h
  refine ru e (ru (decide_eq_true h) ?_);rfl
 ·refine ru (yB λ m=>h (cd.mem_iff.mp m)) (ru (decide_eq_false h) ?_);rfl
noncomputable def lL (s:Nat)(v:PV)(ks:List Int):Prop:=match s with
 | 0=>∃ i,v=.int i
 | 1=>∃ i,v=.int i∧m8 i=true∧(aL i).length≤100
 | 2=>∃ i,v=.int i∧m8 i=true∧(aL i).length≤100
 | 3=>∃ i,v=.int i∧m8 i=true∧(aL i).length≤100
 | 4=>∃ i,v=.int i∧m8 i=true∧(aL i).length≤100
 | 5=>∃ i,v=.int i∧i∈ks
 | 6=>∃ gs:List Int,v=.tup (gs.map .int)∧gs.length≤20∧∀ g∈gs,g∈ks
 | 10=>∃ t,v=.str t∧t.length≤100
 | _=>shal 8 v=true
noncomputable def mw (lo hi:Int)(v:PV):Except (List Nat) (List Nat):=match v with
 | .int i=>if i<lo∨i > hi then .error fO else .ok ([32]++aL i)
 | _=>.error []
noncomputable def L7 (ks:List Int):PV→List Nat
 | .int g=>bE ks g
 | _=>[]
noncomputable def gG (s:Nat)(v:PV)(ks:List Int):Except (List Nat) (List Nat):=match s with
 | 0=>(match v with | .int i=>if i=0 then .ok [] else .error fO | _=>.error [])
 | 1=>mw (-2147483648) 2147483647 v
 | 2=>mw (-9223372036854775808) 9223372036854775807 v
 | 3=>mw 0 65534 v
 | 4=>mw 0 65534 v
 | 5=>(match v with | .int i=>.ok ([32]++bE ks i) | _=>.error [])
 | 6=>(match v with | .tup vs=>.ok ([32,40]++ah [44,32] (vs.map (L7 ks))++[41]) | _=>.error [])
 | 10=>(match v with | .str t=>.ok ([32]++qt t) | _=>.error [])
 | s=>(match aT (aI s) v with | some k=>.ok ([32]++k) | none=>.error gz)
theorem pP (s:Nat):((aI s).map (·.1)).Nodup:=by
 unfold aI
 split
 ·decide
 ·split<;>decide
theorem cz (s:Nat)(q)(m:q∈aI s):shal 8 q.2=true∧q.1.length≤70:=by
 have key:∀ {l:List (List Nat×PV)},q∈l→(l.all λ q=>shal 8 q.2&&decide (q.1.length≤70))=true→shal 8 q.2=true∧q.1.length≤70:=λ m h=>(N4.mp (O2.mp h q m)).imp id of_decide_eq_true
 unfold aI at m
 split at m
 ·exact key m rfl
 ·split at m
  ·exact key m rfl
  ·exact key m rfl
theorem di {k:List Nat}{v:PV}{l:List (List Nat×PV)}(h:aT l v=some k)(ha:∀ q∈l,q.1.length≤70):k.length≤70:=by
 induction l with
 | nil=>exact b2 h
 | cons q r ih =>
  cases e:xb q.2 v&&eX q.1 with
  | true=>exact ri (Option.some.inj ((if_pos e).symm.trans (h:(if xb q.2 v&&eX q.1 then some q.1 else aT r v)=some k))) (ha q N2)
  | false=>exact ih ((if_neg (z0d.mp e)).symm.trans (h:(if xb q.2 v&&eX q.1 then some q.1 else aT r v)=some k)) λ q m=>ha q (N9 _ m)
noncomputable def xe (s:Int)(v:PV)(ks:List Int)(num:Int)(a b c:Option PV):am:=[some (.int s),some v,some aH,some (jI ks),some (.int num),a,b,c,none]
noncomputable def NJ:IS:=match Fv with
 | .sq _ (.sq (.iff _ a _) _)=>a
 | _=>.sk
theorem pJ {s lo hi i num:Int}{c:IE}{q:IS}(h:free σ)(hc:Ev (n+1) c (xe s (.int i) ks num none none none) σ (.ok (.bool true) σ))(hg:bp D6 (.int s) σ=some (.tup [.int lo,.int hi]))(h1:m8 i=true)(h2:(aL i).length≤100):SR (n+1) (.sq (.iff c NJ .sk) q) (xe s (.int i) ks num none none none) σ (cf .str num σ (mw lo hi (.int i))):=by
 show SR _ _ _ _ (cf .str num σ (if i<lo∨i > hi then .error fO else .ok ([32]++aL i)))
 by_cases q1:i<lo
 ·refine ru (if_pos (.inl q1)) ?_;exact ⟨_,gh hc (be (ov (.tup [.int lo,.int hi]) (ob true [])) λ H=>(H:_→_→_) hg (EB q1)) trivial,trivial,cu h⟩
 ·by_cases q2:i > hi
  ·refine ru (if_pos (.inr q2)) ?_;exact ⟨_,gh hc (be (ov (.tup [.int lo,.int hi]) (ob false (ob true []))) λ H=>(H:_→_→_→_) hg (qN q1) (congrArg some (decide_eq_true q2))) trivial,trivial,cu h⟩
  ·refine ru (if_neg λ q=>q.elim q1 q2) ?_;exact ⟨_,gh hc (be (ov (.tup [.int lo,.int hi]) (ob false (ob false []))) λ H=>(H:_→_→_→_→_→_) hg (qN q1) (congrArg some (decide_eq_false q2)) h1 (gd (x:=[32]) (N8 1) h2 rfl)) trivial,trivial,bB h rfl⟩
theorem qP {s:Nat}{v:PV}{num:Int}(h:free σ)(hs:s<12)(hl:ks.length<64)(hv:lL s v ks):ar (n+2) 26 [.int (s:Int),v,aH,jI ks,.int num] σ (cf .str num σ (gG s v ks)):=by
 have named:s≠0→s≠1→s≠2→s≠3→s≠4→s≠5→s≠6→s≠10→shal 8 v=true→ar (n+2) 26 [.int (s:Int),v,aH,jI ks,.int num] σ (cf .str num σ (match aT (aI s) v with | some k=>.ok ([32]++k) | none=>.error gz)):=λ h0 h1 h2 h3 h4 h5 h6 h10 hv=>by
  have c:∀ {k:Nat},s≠k→bT .Eq (.int (s:Int)) (.int (k:Int)) σ=some false:=λ h=>eI λ q=>h (Int.ofNat.inj q)
  have C:=lG (n:=n) (l:=aI s) (num:=num) h (pP s) (cz s) hv
  revert C
  cases hk:aT (aI s) v with
  | some k=>exact λ C=>(al rfl rfl (ob false (ob false (ob false (ob false (ob false (ov (dP (aI s)) (ov (.str k) []))))))) λ H=>(H:_→_→_→_→_→_→_→_→_) (c h0) (Hk h1 h2 h3 h4) (c h5) (c h6) (c h10) ((f9 (n:=n) (s:=s) h)) C (gd (x:=[32]) (N8 1) (di hk λ q m=>(cz s q m).2) rfl) _ (bB h rfl))
  | none=>exact λ C=>(al rfl rfl (ob false (ob false (ob false (ob false (ob false (ov (dP (aI s)) (.x gz num σ::[]))))))) λ H=>(H:_→_→_→_→_→_→_→_) (c h0) (Hk h1 h2 h3 h4) (c h5) (c h6) (c h10) ((f9 (n:=n) (s:=s) h)) C _ (cu h))
 refine sg (P:=λ s=>lL s v ks→(s≠0→s≠1→s≠2→s≠3→s≠4→s≠5→s≠6→s≠10→shal 8 v=true→ar (n+2) 26 [.int (s:Int),v,aH,jI ks,.int num] σ (cf .str num σ (match aT (aI s) v with | some k=>.ok ([32]++k) | none=>.error gz)))→ar (n+2) 26 [.int (s:Int),v,aH,jI ks,.int num] σ (cf .str num σ (gG s v ks))) hs ?_ ?_ ?_ ?_ ?_ ?_ ?_ ?_ ?_ ?_ ?_ ?_ hv named<;>clear named hv<;>intro hv named
 ·obtain ⟨i,rfl⟩:=hv
  show ar _ _ _ _ (cf .str num σ (if i=0 then _ else _))
  by_cases q:i=0
  ·refine ru (if_pos q) ?_;exact (al rfl rfl (aw 1 (.k::(ob false []))) λ H=>(H:_→_) (My q) _ (bB h rfl))
  ·refine ru (if_neg q) ?_;exact (al rfl rfl (aw 1 (.k::(ob true []))) λ H=>(H:_→_) (Mx q) _ (cu h))
 ·obtain ⟨i,rfl,h1,h2⟩:=hv
  exact (pJ (s:=1) (c:=.cmp .In (.v 0) (.g 21)) h (cG [] λ H=>H) rfl h1 h2).elim λ ro w=>(al rfl rfl (aw 1 (.s ro::[])) λ H=>(H:_→_) w.1 _ w.2.2)
 ·obtain ⟨i,rfl,h1,h2⟩:=hv
  exact (pJ (s:=2) (c:=.cmp .In (.v 0) (.g 21)) h (cG [] λ H=>H) rfl h1 h2).elim λ ro w=>(al rfl rfl (aw 1 (.s ro::[])) λ H=>(H:_→_) w.1 _ w.2.2)
 ·obtain ⟨i,rfl,h1,h2⟩:=hv
  exact (pJ (s:=3) (c:=.cmp .In (.v 0) (.g 21)) h (cG [] λ H=>H) rfl h1 h2).elim λ ro w=>(al rfl rfl (aw 1 (.s ro::[])) λ H=>(H:_→_) w.1 _ w.2.2)
 ·obtain ⟨i,rfl,h1,h2⟩:=hv
  exact (pJ (s:=4) (c:=.cmp .In (.v 0) (.g 21)) h (cG [] λ H=>H) rfl h1 h2).elim λ ro w=>(al rfl rfl (aw 1 (.s ro::[])) λ H=>(H:_→_) w.1 _ w.2.2)
 ·obtain ⟨i,rfl,hm⟩:=hv
  exact (al rfl rfl (aw 3 (.k::(ov (.str (bE ks i)) []))) λ H=>(H:_→_→_) (jM hm hl) (gd (x:=[32]) (N8 1) (aV hm hl).2 rfl) _ (bB h rfl))
 ·obtain ⟨gs,rfl,hz,hm⟩:=hv
  obtain ⟨_,rfl,L⟩:=l5 (n:=n+1) (g:=PV.int) (d:=PV.str) (body:=sW) (single:=true) (t:=[8]) (kill:=[8]) (σ:=σ) (·=xe 6 (.tup (gs.map .int)) ks num none none (some (.loc σ.length))) (bE ks) gs (ds:=[]) rfl (N1 (P0 (R9 _)) (N1 hz (by decide))) λ g m ρ e ds hd=>by
   subst e
   exact ⟨_,_,rfl,(be (.l (ds.map .str) []::(ov (.str (bE ks g)) (.r .none (aZ σ PV.str (ds++[bE ks g]))::[]))) λ H=>(H:_→_→_→_) bb (jM (hm g m) hl) (bH (d:=PV.str) hd)),rfl⟩
  have jl:(ah [44,32] (gs.map (bE ks))).length≤120:=N1 (cr (m:=4) [44,32] _ (Q5.mpr λ g m=>(aV (hm g m) hl).2)) (by refine ru (N3 ..) ?_;exact W4 6 hz)
  have e:gG 6 (.tup (gs.map .int)) ks=.ok ([32,40]++ah [44,32] (gs.map (bE ks))++[41]):=congrArg (λ l=>Except.ok ([32,40]++ah [44,32] l++[41])) T0
  refine ru e ?_
  exact (al rfl rfl (aw 4 (.k::(.n (xe 6 (.tup (gs.map .int)) ks num none none (some (.loc σ.length))) (aZ σ PV.str (gs.map (bE ks)))::(ov (.str (ah [44,32] (gs.map (bE ks)))) [])))) λ H=>(H:_→_→_→_→_) L ((cq (σ:=aZ σ PV.str (gs.map (bE ks))) (x:=.loc σ.length) (sep:=[44,32]) (l:=gs.map (bE ks)) bk (by decide) (N1 jl (by decide)))) (gd (x:=[32,40]) (N8 2) jl rfl) (gd (aU (x:=[32,40]) (N8 2) jl) (y:=[41]) (N8 1) rfl) _ (oy h rfl))
 ·exact named (by decide) (by decide) (by decide) (by decide) (by decide) (by decide) (by decide) (by decide) hv
 ·exact named (by decide) (by decide) (by decide) (by decide) (by decide) (by decide) (by decide) (by decide) hv
 ·exact named (by decide) (by decide) (by decide) (by decide) (by decide) (by decide) (by decide) (by decide) hv
 ·obtain ⟨t,rfl,hz⟩:=hv
  exact (al rfl rfl (aw 5 (.k::(ov (.str (qt t)) []))) λ H=>(H:_→_→_) (lg (n:=n) h (N1 hz (show 100≤1000 by decide))) (gd (x:=[32]) (N8 1) (aU (aU (x:=[34]) (N8 1) (l7 (N1 hz (show 100≤1000 by decide)))) (y:=[34]) (N8 1)) rfl) _ (bB h rfl))
 ·exact named (by decide) (by decide) (by decide) (by decide) (by decide) (by decide) (by decide) (by decide) hv
end
end
noncomputable section
noncomputable def gO (ks:List Int)(c:Cl):List Nat:=[46,116,114,121,32]++bE ks c.t0++[32,116,111,32]++bE ks c.t1
noncomputable def iF (ks:List Int)(c:Cl):List Nat:=[32]++bE ks c.h0++[32,116,111,32]++bE ks c.h1
noncomputable def mA (ks:List Int)(c:Cl):Except (List Nat) (List Nat) :=
 if c.s≠0∧c.s≠1∧c.e≠0 then .error j1
 else if c.s=0 then (match aT a7 (.int c.e) with
  | some k=>.ok (gO ks c++[32,99,97,116,99,104,32]++k++iF ks c)
  | none=>.error gz)
 else if c.s=1 then .ok (gO ks c++[32,102,105,108,116,101,114,32]++bE ks c.e++[32,99,97,116,99,104]++iF ks c)
 else if c.s=2 then .ok (gO ks c++[32,102,105,110,97,108,108,121]++iF ks c)
 else if c.s=4 then .ok (gO ks c++[32,102,97,117,108,116]++iF ks c)
 else .error j1
section
variable {n:Nat} {c:Cl} {ks:List Int} {num:Int} {σ:aa} {ρ:am}
theorem Hl {a b:IE}{x y:Int}(ha:Ev n a ρ σ (.ok (.int x) σ))(hb:Ev n b ρ σ (.ok (.int y) σ)):Ev n (.cmp .NotEq a b) ρ σ (.ok (.bool (decide (x≠y))) σ):=gS (.inl ⟨_,σ,ha,.inl ⟨_,σ,hb,_,dl (by
 by_cases e:x=y
 ·refine ru (decide_eq_false λ z=>z e) ?_;exact My e
 ·refine ru (decide_eq_true e) ?_;exact Mx e),rfl⟩⟩)
theorem qz {a b:IE}{x y:Int}(ha:Ev n a ρ σ (.ok (.int x) σ))(hb:Ev n b ρ σ (.ok (.int y) σ)):Ev n (.cmp .Eq a b) ρ σ (.ok (.bool (decide (x=y))) σ):=gS (.inl ⟨_,σ,ha,.inl ⟨_,σ,hb,_,dl rfl,rfl⟩⟩)
noncomputable def FN (c:Cl)(ks:List Int)(num:Int)(a b:Option PV):am:=[some (cS c),some aH,some (jI ks),some (.int num),a,b]
noncomputable def Nt:IS:=match Bm with
 | .sq _ r=>r
 | _=>.sk
noncomputable def LG:IS:=match Nt with
 | .sq _ (.sq _ r)=>r
 | _=>.sk
theorem lh (h:free σ)(hl:ks.length<64)(hm:∀ x∈aA c,x∈ks):ar (n+2) 27 [cS c,aH,jI ks,.int num] σ (cf .str num σ (mA ks c)):=by
 have L:∀ x∈aA c,bp (jI ks) (.int x) σ=some (.str (bE ks x))∧(bE ks x).length≤4:=λ x m=>⟨jM (hm x m) hl,(aV (hm x m) hl).2⟩
 have ed:∀ {x:Int},x∈[c.t0,c.t1,c.h0,c.h1]→x∈aA c:=λ {x} m=>by
  unfold aA
  split
  ·exact O7 (as:=[c.t0,c.t1,c.h0,c.h1]) [c.e] m
  ·exact m
 have l1:=L c.t1 (ed (.tail _ (.head _)))
 have l2:=L c.h0 (ed (.tail _ (.tail _ (.head _))))
 have l3:=L c.h1 (ed (.tail _ (.tail _ (.tail _ (.head _)))))
 have r:=λ (x:List Nat)=>N8 x.length
 have A0:=aU (r [46,116,114,121,32]) (L c.t0 (ed (.head _))).2
 have A:(gO ks c).length≤17:=aU (aU A0 (r [32,116,111,32])) l1.2
 have B:(iF ks c).length≤13:=aU (aU (aU (r [32]) l2.2) (r [32,116,111,32])) l3.2
 have e0:∀ {ρ:am},ρ[0]?=some (some (cS c))→Ev (n+1) (.idx (.v 0) (.c (.int 0))) ρ σ (.ok (.int c.s) σ):=λ e=>i9 (.inl ⟨_,σ,dG (congrArg (Option.bind · id) e),.inl ⟨_,σ,dI,_,i6 rfl,rfl⟩⟩)
 refine mn (fd:=⟨4,6,false,Bm⟩) rfl rfl rfl (fy (f8 (Hl (y:=0) (e0 rfl) (u7 rfl)) λ Z9=>f8 (Hl (y:=1) (e0 rfl) (u7 rfl)) λ Z9=>Hl (y:=0) ((cG [] λ H=>H):Ev (n+1) (.idx (.v 0) (.c (.int 5))) (FN c ks num none none) σ (.ok (.int c.e) σ)) dI) (λ q=>?_) λ q=>?_)
 ·unfold mA;refine ru (if_pos (of_decide_eq_true q)) ?_;exact ⟨_,(be [] λ H=>H),trivial,cu h⟩
 ·unfold mA
  refine ru (if_neg (of_decide_eq_false q)) ?_
  suffices SR (n+1) LG (FN c ks num (some (.str (gO ks c))) (some (.str (iF ks c)))) σ _ from this.imp λ ro w=>⟨(be (aw 1 (ov (.str (bE ks c.t0)) (aw 1 (ov (.str (bE ks c.t1)) (aw 1 (ov (.str (bE ks c.h0)) (aw 1 (ov (.str (bE ks c.h1)) (.s ro::[]))))))))) λ H=>(H:_→_→_→_→_→_→_→_→_→_→_→_) ((L c.t0 (ed (.head _))).1) (gd (r _) (L c.t0 (ed (.head _))).2 rfl) (gd A0 (r _) rfl) l1.1 (gd (aU A0 (r [32,116,111,32])) l1.2 rfl) l2.1 (gd (r _) l2.2 rfl) (gd (aU (r [32]) l2.2) (r _) rfl) l3.1 (gd (aU (aU (r [32]) l2.2) (r [32,116,111,32])) l3.2 rfl) w.1),w.2⟩
  refine fy (qz (y:=0) (e0 rfl) (u7 rfl)) (λ q=>?_) λ q0=>fy (qz (y:=1) (e0 rfl) (u7 rfl)) (λ q=>?_) λ q1=>fy (qz (y:=2) (e0 rfl) (u7 rfl)) (λ q=>?_) λ q2=>fy (qz (y:=4) (e0 rfl) (u7 rfl)) (λ q=>?_) λ q4=>?_
  ·refine ru (if_pos (of_decide_eq_true q)) ?_
   have C:=lG (n:=n) (l:=a7) (w:=.int c.e) (num:=num) h (pP 7) (cz 7) rfl
   revert C
   cases hk:aT a7 (.int c.e) with
   | some k =>
    exact λ C=>⟨_,(be (aw 1 (aw 1 (ov (.str k) []))) λ H=>(H:_→_→_→_→_) (gd A (r _) rfl) C (gd (aU A (r _)) (di hk λ q m=>(cz 7 q m).2) rfl) (gd (aU (aU A (r _)) (di hk λ q m=>(cz 7 q m).2)) B rfl)),trivial,bB h rfl⟩
   | none=>exact λ C=>⟨_,(be (aw 1 (aw 1 (.x gz num σ::[]))) λ H=>(H:_→_→_) (gd A (r _) rfl) C),trivial,cu h⟩
  ·refine ru (if_neg (of_decide_eq_false q0)) (ru (if_pos (of_decide_eq_true q)) ?_)
   have l4:=L c.e (by unfold aA;refine ru (if_pos (of_decide_eq_true q)) ?_;exact .tail _ (.tail _ (.tail _ (.tail _ (.head _)))))
   exact ⟨_,(be (aw 1 (ov (.str (bE ks c.e)) [])) λ H=>(H:_→_→_→_→_→_) (gd A (r _) rfl) l4.1 (gd (aU A (r _)) l4.2 rfl) (gd (aU (aU A (r _)) l4.2) (r _) rfl) (gd (aU (aU (aU A (r _)) l4.2) (r _)) B rfl)),trivial,bB h rfl⟩
  ·refine ru (if_neg (of_decide_eq_false q0)) (ru (if_neg (of_decide_eq_false q1)) (ru (if_pos (of_decide_eq_true q)) ?_));exact ⟨_,(be [] λ H=>(H:_→_→_) (gd A (r _) rfl) (gd (aU A (r _)) B rfl)),trivial,bB h rfl⟩
  ·refine ru (if_neg (of_decide_eq_false q0)) (ru (if_neg (of_decide_eq_false q1)) (ru (if_neg (of_decide_eq_false q2)) (ru (if_pos (of_decide_eq_true q)) ?_)));exact ⟨_,(be [] λ H=>(H:_→_→_) (gd A (r _) rfl) (gd (aU A (r _)) B rfl)),trivial,bB h rfl⟩
  ·refine ru (if_neg (of_decide_eq_false q0)) (ru (if_neg (of_decide_eq_false q1)) (ru (if_neg (of_decide_eq_false q2)) (ru (if_neg (of_decide_eq_false q4)) ?_)));exact ⟨_,(be [] λ H=>H),trivial,cu h⟩
end
end
noncomputable section
theorem iz {γ ε:Type}{st:List Int→γ→Except ε (List Int)}{N:γ→List Int}(hst:∀ b y b',st b y=.ok b'→b ⊆ b'∧N y ⊆ b')(ys:List γ):∀ {b b':List Int},bi st b ys=.ok b'→b ⊆ b'∧∀ y∈ys,N y ⊆ b':=by
 induction ys with
 | nil=>exact λ h=>by cases h;exact ⟨λ Z9 m=>m,O1 _⟩
 | cons y r ih =>
  intro b b' h
  rw [l6] at h
  cases hs:st b y with
  | error e=>rw [hs] at h;exact nomatch h
  | ok b1 =>
   rw [hs] at h
   have i:=ih h
   exact ⟨λ x m=>i.1 ((hst _ _ _ hs).1 m),N7.mpr ⟨λ x m=>i.1 ((hst _ _ _ hs).2 m),i.2⟩⟩
theorem mu {k:Int}{l:List Int}:l ⊆ dZ k l∧[k] ⊆ dZ k l:=⟨λ x m=>jz.mpr (.inr m),λ x m=>jz.mpr (.inl (P7.mp m))⟩
set_option tactic.hygienic true in
theorem nQ {size i:Nat}(b:List Int)(y:Int)(b':List Int)(h:cM size i b y=.ok b'):(b ⊆ b'∧[y] ⊆ b')∧(iI size b→iI size b'):=by
 unfold cM at h
 split at h
 ·exact nomatch h
 ·rename_i q;cases h;exact ⟨mu,λ k=>ic k (by (first | lia | omega))⟩
set_option tactic.hygienic true in
theorem nW {size i:Nat}(b:List Int)(y:Int)(b':List Int)(h:dW size i b y=.ok b'):(b ⊆ b'∧[y] ⊆ b')∧(iI size b→iI size b'):=by
 unfold dW at h
 split at h
 ·exact nomatch h
 ·rename_i q;cases h;exact ⟨mu,λ k=>ic k (by (first | lia | omega))⟩
theorem iA {γ ε:Type}{size:Nat}{st:List Int→γ→Except ε (List Int)}(hst:∀ b y b',st b y=.ok b'→iI size b→iI size b')(ys:List γ):∀ {b b':List Int},bi st b ys=.ok b'→iI size b→iI size b':=by
 induction ys with
 | nil=>exact λ h hk=>by cases h;exact hk
 | cons y r ih =>
  intro b b' h hk
  rw [l6] at h
  cases hs:st b y with
  | error e=>rw [hs] at h;exact nomatch h
  | ok b1=>rw [hs] at h;exact ih h (hst _ _ _ hs hk)
theorem F0 {α:Type}{f:Option α→List Int}{g:α→List Int}{l:List α}{ks:List Int}(hf:∀ a,f (some a)=g a)(h:∀ i∈List.range l.length,f (l[i]?) ⊆ ks):∀ a∈l,g a ⊆ ks:=λ a m=>(V8.mp m).elim λ i e=>by
 have:=h i (R4.mpr (O6.mp e).1)
 rwa [e,hf] at this
theorem yu {code:List lm}{cl:List Cl}{ks:List Int}(h:cK code cl=.ok ks):((∀ c∈code,c.gs ⊆ ks)∧∀ c∈cl,aA c ⊆ ks)∧iI code.length ks:=by
 unfold cK at h
 cases h1:bi (λ ks i=>bi (cM code.length i) ks (gP code i)) [] (List.range code.length) with
 | error e=>rw [h1] at h;exact nomatch h
 | ok k1 =>
  rw [h1] at h
  have b:=iz (N:=jU cl) (λ b y b' hb=>(iz (N:=λ g=>[g]) (λ b y b' h=>(nW b y b' h).1) _ hb).imp id λ v x m=>v x m N2) _ h
  exact ⟨⟨F0 (f:=λ o=>match o with | some c=>c.gs | none=>[]) (λ Z9=>rfl) λ i m x hx=>b.1 ((iz (N:=gP code) (λ b y b' hb=>(iz (N:=λ g=>[g]) (λ b y b' h=>(nQ b y b' h).1) _ hb).imp id λ v x m=>v x m N2) _ h1).2 i m hx),F0 (f:=λ o=>match o with | some c=>aA c | none=>[]) (λ Z9=>rfl) λ i m x hx=>b.2 i m hx⟩,
   iA (λ b y b' hb=>iA (λ b y b' h=>(nW b y b' h).2) _ hb) _ h (iA (λ b y b' hb=>iA (λ b y b' h=>(nQ b y b' h).2) _ hb) _ h1 ⟨z0s,O1 _⟩)⟩
noncomputable def ye (op:Int):List Nat:=match bz op (bV.map Aj) (bV.map λ q=>.str q.1) with | some (.str s)=>s | _=>[]
noncomputable def yH (ks:List Int)(i:Nat)(c:lm):Except (List Nat×Int) (List Nat) :=
 if (bz c.op mL lJ).isSome then (match gG (af c.op.toNat) c.n ks with
  | .error e=>.error (e,(i:Int))
  | .ok w=>.ok (if (i:Int)∈ks then (bE ks i++[58,32])++(ye c.op++w) else ye c.op++w))
 else .error (Mz,(i:Int))
noncomputable def fH (ks:List Int)(code:List lm)(i:Nat):Except (List Nat×Int) (List Nat):=match code[i]? with | some c=>yH ks i c | none=>.ok []
noncomputable def k9 (ks:List Int)(cl:List Cl)(i:Nat):Except (List Nat×Int) (List Nat):=match cl[i]? with | some c=>CB (i:Int) (mA ks c) | none=>.ok []
noncomputable def dY (ks:List Int)(n:Nat):List (List Nat):=if (n:Int)∈ks then [bE ks n++[58]] else []
noncomputable def qJ (code:List lm)(cl:List Cl):Except (List Nat×Int) (List Nat):=match cK code cl with
 | .error e=>.error e
 | .ok ks=>match bn (fH ks code) (List.range code.length) with
  | .error e=>.error e
  | .ok ls=>match bn (k9 ks cl) (List.range cl.length) with
   | .error e=>.error e
   | .ok cs=>.ok (ah [10] (ls++dY ks code.length++cs))
noncomputable def m6 (c:lm):Prop:=(∃ w o,(w,o)∈bV∧c.op=((o:Nat):Int)∧lL (af o) c.n c.gs)∨bz c.op mL lJ=none
theorem yk {s:Nat}{v:PV}{gs ks:List Int}(h:lL s v gs)(hs:gs ⊆ ks):lL s v ks:=by
 unfold lL at h ⊢
 split at h
 all_goals first
  | exact h
  | exact h.imp λ i w=>⟨w.1,hs w.2⟩
  | exact h.imp λ g w=>⟨w.1,w.2.1,λ x m=>hs (w.2.2 x m)⟩
theorem fW:∀ q∈bV,q.1.length≤20:=by decide +kernel
section
variable {n i:Nat} {A B:PV} {code:List lm} {cl:List Cl} {ks:List Int} {σ:aa}
theorem hG {lo hi:Int}{i:Int}{w:List Nat}(hl:(aL i).length≤100)(h:mw lo hi (.int i)=.ok w):w.length≤3000:=by
 have h:(if i<lo∨i > hi then Except.error fO else .ok ([32]++aL i))=.ok w:=h
 split at h
 ·exact nomatch h
 ·exact ri (Except.ok.inj h) (N1 (aU (x:=[32]) (N8 1) hl) (by decide))
theorem gF {s:Nat}{v:PV}{w:List Nat}(hs:s<12)(hl:ks.length<64)(hv:lL s v ks)(h:gG s v ks=.ok w):w.length≤3000:=by
 have named:(match aT (aI s) v with | some k=>(.ok ([32]++k):Except (List Nat) (List Nat)) | none=>.error gz)=.ok w→w.length≤3000:=by
  cases hk:aT (aI s) v with
  | none=>exact λ h=>nomatch h
  | some k=>exact λ h=>ri (Except.ok.inj h) (N1 (aU (x:=[32]) (N8 1) (di hk λ q m=>(cz s q m).2)) (by decide))
 revert hv h named
 refine sg (P:=λ s=>lL s v ks→gG s v ks=.ok w→((match aT (aI s) v with | some k=>(.ok ([32]++k):Except (List Nat) (List Nat)) | none=>.error gz)=.ok w→w.length≤3000)→w.length≤3000) hs ?_ ?_ ?_ ?_ ?_ ?_ ?_ ?_ ?_ ?_ ?_ ?_<;>intro hv h named
 ·obtain ⟨i,rfl⟩:=hv
  have h:(if i=0 then Except.ok [] else .error fO)=Except.ok w:=h
  split at h
  ·exact ri (Except.ok.inj h) (P4 _)
  ·exact nomatch h
 ·obtain ⟨i,rfl,_,b⟩:=hv;exact hG b h
 ·obtain ⟨i,rfl,_,b⟩:=hv;exact hG b h
 ·obtain ⟨i,rfl,_,b⟩:=hv;exact hG b h
 ·obtain ⟨i,rfl,_,b⟩:=hv;exact hG b h
 ·obtain ⟨i,rfl,hm⟩:=hv
  exact ri (Except.ok.inj h) (N1 (aU (x:=[32]) (N8 1) (aV hm hl).2) (by decide))
 ·obtain ⟨gs,rfl,a,hm⟩:=hv
  exact ri (Except.ok.inj h) (N1 (aU (aU (x:=[32,40]) (N8 2) (cr (m:=4) [44,32] _ (Q5.mpr (Q5.mpr λ g m=>(aV (hm g m) hl).2)))) (y:=[41]) (N8 1)) (by refine ru (N3 ..) (ru (N3 ..) ?_);exact N1 (U7 (S5 (W4 6 a) 2) 1) (by decide)))
 ·exact named h
 ·exact named h
 ·exact named h
 ·obtain ⟨t,rfl,a⟩:=hv
  exact ri (Except.ok.inj h) (N1 (aU (x:=[32]) (N8 1) (aU (aU (x:=[34]) (N8 1) (l7 (N1 a (by decide)))) (y:=[34]) (N8 1))) (by decide))
 ·exact named h
set_option tactic.hygienic true in
theorem zg {c:Cl}{w:List Nat}(hl:ks.length<64)(hm:aA c ⊆ ks)(h:mA ks c=.ok w):w.length≤3000:=by
 have L:∀ x∈aA c,(bE ks x).length≤4:=λ x m=>(aV (hm m) hl).2
 have ed:∀ {x:Int},x∈[c.t0,c.t1,c.h0,c.h1]→x∈aA c:=λ {x} m=>by
  unfold aA
  split
  ·exact O7 (as:=[c.t0,c.t1,c.h0,c.h1]) [c.e] m
  ·exact m
 have r:=λ (x:List Nat)=>N8 x.length
 have A:(gO ks c).length≤17:=aU (aU (aU (r [46,116,114,121,32]) (L c.t0 (ed (.head _)))) (r [32,116,111,32])) (L c.t1 (ed (.tail _ (.head _))))
 have B:(iF ks c).length≤13:=aU (aU (aU (r [32]) (L c.h0 (ed (.tail _ (.tail _ (.head _)))))) (r [32,116,111,32])) (L c.h1 (ed (.tail _ (.tail _ (.tail _ (.head _))))))
 unfold mA at h
 split at h
 ·exact nomatch h
 ·split at h
  ·revert h
   cases hk:aT a7 (.int c.e) with
   | none=>exact λ h=>nomatch h
   | some k=>exact λ h=>ri (Except.ok.inj h) (N1 (aU (aU (aU A (r _)) (di hk λ q m=>(cz 7 q m).2)) B) (by decide))
  ·split at h
   ·rename_i q1
    exact ri (Except.ok.inj h) (N1 (aU (aU (aU (aU A (r _)) (L c.e (by unfold aA;refine ru (if_pos q1) ?_;exact .tail _ (.tail _ (.tail _ (.tail _ (.head _))))))) (r _)) B) (by decide))
   ·split at h
    ·exact ri (Except.ok.inj h) (N1 (aU (aU A (r _)) B) (by decide))
    ·split at h
     ·exact ri (Except.ok.inj h) (N1 (aU (aU A (r _)) B) (by decide))
     ·exact nomatch h
theorem jy {w:List Nat}{o:Nat}(h:(w,o)∈bV):bz (o:Int) (bV.map Aj) (bV.map λ q=>.str q.1)=some (.str w)∧ye (o:Int)=w:=by
 exact ⟨(mX _ h),by unfold ye;exact ru (show bz (o:Int) (bV.map Aj) (bV.map λ q=>.str q.1)=some (.str w) from (mX _ h)) rfl⟩
end
end
noncomputable section
section
variable {n i:Nat} {A B:PV} {code:List lm} {cl:List Cl} {ks:List Int} {σ:aa}
noncomputable def iM (A B:PV)(ks:List Int)(l:Nat)(a b c d e:Option PV):am:=[some A,some B,some aH,some (jI ks),some (.loc l),a,b,c,d,e]
noncomputable abbrev rM (w:List Nat):Prop:=w.length≤4000
theorem Br (h:free σ)(hA:bw σ A=some (code.map cA))(hl:ks.length<64)(hok:∀ c∈code,m6 c)(hgs:∀ c∈code,c.gs ⊆ ks)(hi:i<code.length)(ds:List (List Nat))(hd:ds.length<ax):∃ ρ' ro,b3 true [5] (ag i) (iM A B ks σ.length none none none none none)=some ρ'∧St (n+3) nH ρ' (aZ σ PV.str ds) ro∧pF (·=iM A B ks σ.length none none none none none) rM [5,6,7,8] σ PV.str ds ro (fH ks code i):=by
 have hc:=O4 hi
 have hm:=U5 hi
 revert hc hm
 generalize code[i]=c
 intro hc hm
 have hg:bp A (.int (i:Int)) (aZ σ PV.str ds)=some (cA c):=jL (bL hA) (by refine ru (Q3) (ru hc ?_);rfl)
 have gs:=hgs c hm
 have ok:=hok c hm
 have e:fH ks code i=yH ks i c:=by unfold fH;exact ru hc rfl
 refine ru e ?_
 unfold yH
 obtain ⟨op,v,g⟩:=c
 rcases ok with ⟨w,o,ho,rfl,hop⟩ | hno
 ·have hop:=yk hop gs
  have C:=qP (n:=n+1) (num:=(i:Int)) (br (σ:=σ) (vs:=ds.map .str) h (b6 ds)) (bP ho).2 hl hop
  have nin:bT .NotIn (.int (o:Int)) D7 (aZ σ PV.str ds)=some false:=congrArg (λ o=>some (!Option.isSome o)) (bP ho).1
  have wl:=fW _ ho
  refine ru (if_pos (show (bz (o:Int) mL lJ).isSome=true from congrArg Option.isSome (bP ho).1)) (ru (jy ho).2 (ru (z0c ..) ?_))
  revert C
  cases hw:gG (af o) v ks with
  | error e=>exact λ C=>⟨_,_,rfl,(be (ov (cA ⟨o,v,g⟩) (ob false (ov (.str w) (ov (ag (af o)) (.x e (i:Int) (aZ σ PV.str ds)::[]))))) λ H=>(H:_→_→_→_→_→_) hg nin ((jy ho).1) ((bP ho).1) C),rfl⟩
  | ok u =>
   intro C
   dsimp only
   by_cases q:(i:Int)∈ks
   ·refine ru (if_pos q) ?_
    exact ⟨_,_,rfl,(be (ov (cA ⟨o,v,g⟩) (ob false (ov (.str w) (ov (ag (af o)) (ov (.str u) (ob true (ov (.str (bE ks i)) (.l (ds.map .str) []::(.r .none (aZ σ PV.str (ds++[bE ks i++[58,32]++(w++u)]))::[]))))))))) λ H=>(H:_→_→_→_→_→_→_→_→_→_→_→_→_) hg nin ((jy ho).1) ((bP ho).1) C (gd wl (gF (bP ho).2 hl hop hw) rfl) (i4.trans (congrArg some (decide_eq_true q))) (jM q hl) (gd ((aV q hl).2) (y:=[58,32]) (N8 2) rfl) (gd (aU ((aV q hl).2) (y:=[58,32]) (N8 2)) (aU wl (gF (bP ho).2 hl hop hw)) rfl) bb (bH (d:=PV.str) hd)),⟨_,rfl,rfl⟩,N1 (aU (aU ((aV q hl).2) (y:=[58,32]) (N8 2)) (aU wl (gF (bP ho).2 hl hop hw))) (by decide)⟩
   ·refine ru (if_neg q) ?_
    exact ⟨_,_,rfl,(be (ov (cA ⟨o,v,g⟩) (ob false (ov (.str w) (ov (ag (af o)) (ov (.str u) (ob false (.l (ds.map .str) []::(.r .none (aZ σ PV.str (ds++[w++u]))::[])))))))) λ H=>(H:_→_→_→_→_→_→_→_→_→_) hg nin ((jy ho).1) ((bP ho).1) C (gd wl (gF (bP ho).2 hl hop hw) rfl) (i4.trans (congrArg some (decide_eq_false q))) bb (bH (d:=PV.str) hd)),⟨_,rfl,rfl⟩,N1 (aU wl (gF (bP ho).2 hl hop hw)) (by decide)⟩
 ·refine ru (if_neg (by rw [hno];decide)) ?_
  exact ⟨_,_,rfl,(be (ov (cA ⟨op,v,g⟩) (ob true [])) λ H=>(H:_→_→_) hg (congrArg (λ o=>some (!Option.isSome o)) hno)),rfl⟩
theorem EA (h:free σ)(hB:bw σ B=some (cl.map cS))(hl:ks.length<64)(he:∀ c∈cl,aA c ⊆ ks)(hi:i<cl.length)(ds:List (List Nat))(hd:ds.length<ax):∃ ρ' ro,b3 true [9] (ag i) (iM A B ks σ.length none none none none none)=some ρ'∧St (n+3) nG ρ' (aZ σ PV.str ds) ro∧pF (·=iM A B ks σ.length none none none none none) rM [9] σ PV.str ds ro (k9 ks cl i):=by
 have hc:=O4 hi
 have hm:=U5 hi
 revert hc hm
 generalize cl[i]=c
 intro hc hm
 have hg:bp B (.int (i:Int)) (aZ σ PV.str ds)=some (cS c):=jL (bL hB) (by refine ru (Q3) (ru hc ?_);rfl)
 have C:=lh (n:=n+1) (num:=(i:Int)) (br (σ:=σ) (vs:=ds.map .str) h (b6 ds)) hl (he c hm)
 have e:k9 ks cl i=CB (i:Int) (mA ks c):=by unfold k9;exact ru hc rfl
 refine ru e ?_
 revert C
 cases hw:mA ks c with
 | error e=>exact λ C=>⟨_,_,rfl,(be (.l (ds.map .str) []::(ov (cS c) (.x e (i:Int) (aZ σ PV.str ds)::[]))) λ H=>(H:_→_→_→_) bb hg C),rfl⟩
 | ok w=>exact λ C=>⟨_,_,rfl,(be (.l (ds.map .str) []::(ov (cS c) (ov (.str w) (.r .none (aZ σ PV.str (ds++[w]))::[])))) λ H=>(H:_→_→_→_→_) bb hg C (bH (d:=PV.str) hd)),⟨_,rfl,rfl⟩,N1 (zg hl (he c hm) hw) (by decide)⟩
noncomputable def MR:IS:=match Fu with
 | .sq _ (.sq _ (.sq _ r))=>r
 | _=>.sk
noncomputable def LF:IS:=match MR with
 | .sq _ r=>r
 | _=>.sk
theorem se {γ δ ε:Type}{f:γ→Except ε δ}(ys:List γ):∀ {vs:List δ},bn f ys=.ok vs→vs.length=ys.length:=by
 induction ys with
 | nil=>exact λ h=>by cases h;rfl
 | cons y r ih =>
  intro vs h
  rw [kG] at h
  revert h
  cases f y with
  | error e=>exact λ h=>nomatch h
  | ok v =>
   cases hr:bn f r with
   | error e=>exact λ h=>nomatch h
   | ok us=>exact λ h=>ri (Except.ok.inj h) (congrArg (·+1) (ih hr))
noncomputable def Ep (σ:aa):Except (List Nat×Int) (List Nat)→aY PV
 | .ok t=>.ok (.str t) σ
 | .error e=>.exc e.1 e.2 σ
theorem FQ {ls:List (List Nat)}(h:free σ)(hB:bw σ B=some (cl.map cS))(hl:ks.length<64)(he:∀ c∈cl,aA c ⊆ ks)(hc:cl.length≤60)(hz:ls.length≤61)(hs:∀ w∈ls,rM w):∃ ro,St (n+3) LF (iM A B ks σ.length none none none none none) (aZ σ PV.str ls) ro∧fq false σ.length ro (Ep σ (match bn (k9 ks cl) (List.range cl.length) with | .error e=>.error e | .ok cs=>.ok (ah [10] (ls++cs)))):=by
 have lB:=fD (bL (τ:=[.lst (ls.map .str)]) hB)
 rw [N3] at lB
 have rg:(0:Int)≤(cl.length:Int)∧(cl.length:Int)<2 ^ 40:=⟨Q7 _,R8.mpr (O0 hc (by decide:60<2 ^ 40))⟩
 obtain ⟨ro,L,E⟩:=fJ (n:=n+3) (g:=ag) (d:=PV.str) (fe:=k9 ks cl) (body:=nG) (single:=true) (t:=[9]) (kill:=[9]) (σ:=σ) (·=iM A B ks σ.length none none none none none) rM (List.range cl.length) _ ls rfl (by refine ru Q4 ?_;exact N1 (R7 hz hc) (by decide)) hs λ i m ρ e ds hd Z9=>by refine ru e ?_;exact EA h hB hl he (R4.mp m) ds hd
 revert E
 cases hm:bn (k9 ks cl) (List.range cl.length) with
 | error e =>
  intro E
  obtain ⟨o,rfl⟩:=E
  exact ⟨_,(be (ov (ag cl.length) (.x e.1 e.2 (aZ σ PV.str o)::[])) λ H=>(H:_→_→_→_) lB rg L),oD h⟩
 | ok cs =>
  intro E
  obtain ⟨⟨ρ',rfl,rfl⟩,hn⟩:=E
  exact ⟨_,(be (ov (ag cl.length) (.n (iM A B ks σ.length none none none none none) (aZ σ PV.str (ls++cs))::(ov (.str (ah [10] (ls++cs))) []))) λ H=>(H:_→_→_→_→_) lB rg L ((cq (σ:=aZ σ PV.str (ls++cs)) (x:=.loc σ.length) (sep:=[10]) (l:=ls++cs) bk (by decide) (N1 (cr (m:=4000) [10] _ (Q6.mpr ⟨hs,hn⟩)) (N1 (W4 4001 (by refine ru N5 ?_;exact R7 hz (by refine ru (se _ hm) (ru Q4 ?_);exact hc:cs.length≤60))) (by decide)))))),oy h rfl⟩
theorem fN (h:free σ)(hA:bw σ A=some (code.map cA))(hB:bw σ B=some (cl.map cS))(hi:∀ i∈code,i.ok∧m6 i)(hz:code.length≤60)(hc:cl.length≤60):ar (n+4) 28 [A,B,aH] σ (Ep σ (qJ code cl)):=by
 have C:=vr (n:=n) h hA hB (λ i m=>(hi i m).1) hz (N1 hc (by decide))
 unfold qJ
 cases hm:cK code cl with
 | error e=>rw [hm] at C;exact (al rfl rfl (.x e.1 e.2 σ::[]) λ H=>(H:_→_) C _ (cu h))
 | ok ks =>
  rw [hm] at C
  obtain ⟨⟨m1,m2⟩,hk⟩:=yu hm
  have hl:ks.length<64:=O0 (N1 (fX hk) (P3 hz)) (by decide)
  have lA:=λ τ=>fD (bL (τ:=τ) hA)
  rw [N3] at lA
  have rg:(0:Int)≤(code.length:Int)∧(code.length:Int)<2 ^ 40:=⟨Q7 _,R8.mpr (O0 hz (by decide:60<2 ^ 40))⟩
  obtain ⟨ro,L,E⟩:=fJ (n:=n+3) (g:=ag) (d:=PV.str) (fe:=fH ks code) (body:=nH) (single:=true) (t:=[5]) (kill:=[5,6,7,8]) (σ:=σ) (·=iM A B ks σ.length none none none none none) rM (List.range code.length) _ [] rfl (by refine ru Q4 ?_;exact N1 (P0 (R9 _)) (N1 hz (by decide))) (O1 _) λ i m ρ e ds hd Z9=>by refine ru e ?_;exact Br h hA hl (λ c m=>(hi c m).2) m1 (R4.mp m) ds hd
  show ar _ _ _ _ (Ep σ (match bn (fH ks code) (List.range code.length) with | .error e=>_ | .ok ls=>_))
  revert E
  cases hq:bn (fH ks code) (List.range code.length) with
  | error e =>
   intro E
   obtain ⟨o,rfl⟩:=E
   exact (al rfl rfl (ov (jI ks) (ov (ag code.length) (.x e.1 e.2 (aZ σ PV.str o)::[]))) λ H=>(H:_→_→_→_→_) C (lA _) rg L _ (oD h))
  | ok ls =>
   intro E
   obtain ⟨⟨ρ',rfl,rfl⟩,hn⟩:=E
   have ll:ls.length≤60:=by refine ru (se _ hq) (ru Q4 ?_);exact hz
   have mid:∃ ro,St (n+3) MR (iM A B ks σ.length none none none none none) (aZ σ PV.str ls) ro∧fq false σ.length ro (Ep σ (match bn (k9 ks cl) (List.range cl.length) with | .error e=>.error e | .ok cs=>.ok (ah [10] (ls++dY ks code.length++cs)))):=by
    unfold dY
    by_cases q:(code.length:Int)∈ks
    ·refine ru (if_pos q) ?_
     obtain ⟨ro,R,M⟩:=FQ (n:=n) (A:=A) (ls:=ls++[bE ks code.length++[58]]) h hB hl m2 hc (by refine ru N5 ?_;exact P3 ll) (Q6.mpr ⟨hn,N7.mpr ⟨N1 (aU ((aV q hl).2) (y:=[58]) (N8 1)) (by decide),O1 _⟩⟩)
     exact ⟨ro,(be (ov (ag code.length) (ob true (.k::(.l (ls.map .str) []::(ov (ag code.length) (ov (.str (bE ks code.length)) (.r .none (aZ σ PV.str (ls++[bE ks code.length++[58]]))::(.s ro::[])))))))) λ H=>(H:_→_→_→_→_→_→_→_→_) (lA _) (i4.trans (congrArg some (decide_eq_true q))) bb (lA _) (jM q hl) (gd ((aV q hl).2) (y:=[58]) (N8 1) rfl) (bH (d:=PV.str) (O0 ll (by decide))) R),M⟩
    ·refine ru (if_neg q) (ru (O3 ..) ?_)
     obtain ⟨ro,R,M⟩:=FQ (n:=n) (A:=A) (ls:=ls) h hB hl m2 hc (T5 ll) hn
     exact ⟨ro,(be (ov (ag code.length) (ob false (.s ro::[]))) λ H=>(H:_→_→_→_) (lA _) (i4.trans (congrArg some (decide_eq_false q))) R),M⟩
   obtain ⟨ro,R,M⟩:=mid
   exact (al rfl rfl (ov (jI ks) (ov (ag code.length) (.n (iM A B ks σ.length none none none none none) (aZ σ PV.str ls)::(.s ro::[])))) λ H=>(H:_→_→_→_→_→_) C (lA _) rg L R _ M)
end
end
noncomputable section
structure bo where
 op:Nat
 nm:List Nat
 n:PV
 wd:List Nat
 gs:List Int
noncomputable def a9 (r:bo):PV:=.tup [.int (r.op:Int),.str r.nm,r.n,.str r.wd]
noncomputable def jj:List (List Nat):=match Hp with | .tup vs=>vs.filterMap jp | _=>[]
noncomputable def ew (s:Nat):Int:=if s=1 then -2147483648 else if s=2 then -9223372036854775808 else 0
noncomputable def ey (s:Nat):Int:=if s=1 then 2147483647 else if s=2 then 9223372036854775807 else 65534
noncomputable def eN (pre:List Nat)(i:Int):Prop:=pre=[]∨(pre=[43]∧0≤i)∨(pre=[48,48]∧0≤i)
noncomputable def gp (size:Nat)(v:PV)(wd:List Nat)(gs:List Int):Nat→Prop
 | 0=>v=.int 0∧wd=[]∧gs=[]
 | 5=>∃ g,v=.int g∧gs=[g]∧(0≤g∧g<(size:Int))∧wd=[]
 | 6=>v=.tup (gs.map .int)∧wd=[]∧gs.length≤3∧∀ g∈gs,0≤g∧g<(size:Int)
 | 10=>∃ t,v=.str t∧t∈jj∧wd=[]∧gs=[]
 | s=>gs=[]∧if s≤4 then ∃ i pre,v=.int i∧wd=pre++aL i∧eN pre i∧ew s≤i∧i≤ey s else (wd,v)∈aI s∧aT (aI s) v=some wd
structure aB (size:Nat) (r:bo):Prop where
 mem:(r.nm,r.op)∈bV
 sh:gp size r.n r.wd r.gs (af r.op)
theorem jx {p:List Nat×Nat→Bool}(h:bV.all p=true):∀ q∈bV,p q=true:=O2.mp h
theorem jq:∀ q∈bV,af q.2<12:=λ q m=>P9 (jx (p:=λ q=>Nat.ble (af q.2+1) 12) rfl q m)
theorem IP:∀ q∈bV,decide ((q.2:Int)=69)=decide (af q.2=6):=λ q m=>beq_iff_eq.mp (jx (p:=λ q=>decide ((q.2:Int)=69)==decide (af q.2=6)) (by kernel_rfl) q m)
theorem JA:∀ q∈bV,decide ((56≤(q.2:Int)∧(q.2:Int)<69)∨(q.2:Int)=221)=decide (af q.2=5):=λ q m=>beq_iff_eq.mp (jx (p:=λ q=>decide ((56≤(q.2:Int)∧(q.2:Int)<69)∨(q.2:Int)=221)==decide (af q.2=5)) (by kernel_rfl) q m)
theorem Lp:∀ q∈bV,decide ((q.2:Int)=114)=decide (af q.2=10):=λ q m=>beq_iff_eq.mp (jx (p:=λ q=>decide ((q.2:Int)=114)==decide (af q.2=10)) (by kernel_rfl) q m)
theorem ke:∀ t∈jj,t.length≤20:=λ t m=>P9 (O2.mp (show (jj.all λ t=>Nat.ble t.length 20)=true by kernel_rfl) t m)
noncomputable def o3 (lf:Int→List Nat)(blank:List Nat)(r:bo):List Nat :=
 if af r.op=6 then [40]++ah ([44]++blank) (r.gs.map lf)++[41]
 else if af r.op=5 then lf (r.gs.headD 0)
 else if af r.op=10 then (match r.n with | .str t=>qt t | _=>[])
 else r.wd
section
variable {n:Nat} {ρ:am} {σ:aa}
theorem BM {o o':CmpOp}{a b c:IE}{x y z:PV}{p q:Bool}(ha:Ev n a ρ σ (.ok x σ))(hb:Ev n b ρ σ (.ok y σ))(hc:Ev n c ρ σ (.ok z σ))(h1:bT o x y σ=some p)(h2:bT o' y z σ=some q):Ev n (.cmp2 o o' a b c) ρ σ (.ok (.bool (p&&q)) σ):=w6 (.inl ⟨_,σ,ha,.inl ⟨_,σ,hb,p,dl h1,by
 cases p with
 | true=>exact .inl ⟨rfl,.inl ⟨_,σ,hc,_,dl h2,rfl⟩⟩
 | false=>exact .inr ⟨rfl,rfl⟩⟩⟩)
noncomputable def Mb (i:Nat):IE:=.or (.cmp2 .LtE .Lt (.c (.int 56)) (.v i) (.c (.int 69))) (.cmp .Eq (.v i) (.c (.int 221)))
theorem BO {i:Nat}{x:Int}(hv:cT ρ i=some (.int x)):Ev n (Mb i) ρ σ (.ok (.bool (decide ((56≤x∧x<69)∨x=221))) σ):=u6 (ru (xj (P:=56≤x) (Q:=x<69)) (BM dI (dG hv) dI rfl rfl)) λ Z9=>qz (dG hv) dI
theorem bq {a b:Bool}{e:IE}(q:a=b)(h:Ev n e ρ σ (.ok (.bool a) σ)):Ev n e ρ σ (.ok (.bool b) σ):=ri q h
noncomputable def Nr:IS:=match Bl with
 | .sq _ r=>r
 | _=>.sk
theorem pg {sep:List Nat}{lf:Int→List Nat}{gs:List Int}(hs:sep.length≤3)(hg:gs.length≤3)(hl:∀ g∈gs,(lf g).length≤20):(ah sep (gs.map lf)).length≤69:=N1 (cr (m:=20) sep _ (Q5.mpr hl)) (Z5 ((N3 lf).symm▸hg) (S5 hs 20))
theorem gy {size:Nat}{r:bo}{L:PV}{blank:List Nat}{lf:Int→List Nat}(h:free σ)(hr:aB size r)(hL:∀ g∈r.gs,bp L (.int g) σ=some (.str (lf g))∧(lf g).length≤20)(hb:blank.length≤2):ar (n+2) 33 [a9 r,L,.str blank] σ (.ok (.str (o3 lf blank r)) σ):=by
 obtain ⟨hm,sh⟩:=hr
 obtain ⟨op,nm,v,wd,gs⟩:=r
 dsimp only at hm sh hL
 unfold o3
 dsimp only
 refine mn (fd:=⟨3,7,false,Bl⟩) rfl rfl rfl ?_
 suffices SR (n+1) Nr [some (a9 ⟨op,nm,v,wd,gs⟩),some L,some (.str blank),some (.int op),some (.str nm),some v,some (.str wd)] σ _ from this.imp λ ro w=>⟨(be (.k::(.s ro::[])) λ H=>(H:_→_) w.1),w.2⟩
 refine fy (bq (IP _ hm) (qz (dG rfl) dI)) (λ q=>?_) λ q6=>fy (bq (JA _ hm) (BO (i:=3) rfl)) (λ q=>?_) λ q5=>fy (bq (Lp _ hm) (qz (dG rfl) dI)) (λ q=>?_) λ q10=>?_
 ·refine ru (if_pos (of_decide_eq_true q)) ?_
  rw [of_decide_eq_true q] at sh
  obtain ⟨rfl,-,gl,-⟩:=sh
  have sl:([44]++blank).length≤3:=aU (x:=[44]) (N8 1) hb
  have jl:=pg sl gl λ g m=>(hL g m).2
  have T:=eA (T:=e7 (ΓS (n+1)) (.idx (.v 1) (.v 7)) .nl true 1 [false,true,false,false,false,false,false] [some (a9 ⟨op,nm,.tup (gs.map .int),wd,gs⟩),some L,some (.str blank),some (.int op),some (.str nm),some (.tup (gs.map .int)),some (.str wd)] σ) (g:=PV.int) (r:=λ g=>.str (lf g)) gs λ g m=>⟨_,rfl,_,rfl,(cG (ov (.str (lf g)) []) λ H=>(H:_→_) ((hL g m).1))⟩
  exact ⟨_,(be (.l (gs.map λ g=>PV.str (lf g)) []::(ov (.str (ah ([44]++blank) (gs.map lf))) [])) λ H=>(H:_→_→_→_→_→_→_) (gd (x:=[44]) (N8 1) hb rfl) T (by refine ru (N3 ..) ?_;exact N1 gl (by decide)) ((cq (σ:=σ) (x:=.lst (gs.map λ g=>.str (lf g))) (sep:=[44]++blank) (l:=gs.map lf) (by refine ru T0 ?_;rfl) (N1 sl (by decide)) (N1 jl (by decide)))) (gd (x:=[40]) (N8 1) jl rfl) (gd (aU (x:=[40]) (N8 1) jl) (y:=[41]) (N8 1) rfl)),trivial,bB h rfl⟩
 ·refine ru (if_neg (of_decide_eq_false q6)) (ru (if_pos (of_decide_eq_true q)) ?_)
  rw [of_decide_eq_true q] at sh
  obtain ⟨g,rfl,rfl,-⟩:=sh
  exact ⟨_,(be (ov (.str (lf g)) []) λ H=>(H:_→_) ((hL g (.head _)).1)),trivial,bB h rfl⟩
 ·refine ru (if_neg (of_decide_eq_false q6)) (ru (if_neg (of_decide_eq_false q5)) (ru (if_pos (of_decide_eq_true q)) ?_))
  rw [of_decide_eq_true q] at sh
  obtain ⟨t,rfl,ht,-⟩:=sh
  exact ⟨_,(be (ov (.str (qt t)) []) λ H=>(H:_→_) (og (n:=n) h (N1 (ke t ht) (by decide)))),trivial,bB h rfl⟩
 ·refine ru (if_neg (of_decide_eq_false q6)) (ru (if_neg (of_decide_eq_false q5)) (ru (if_neg (of_decide_eq_false q10)) ?_))
  exact ⟨_,(be [] λ H=>H),trivial,bB h rfl⟩
end
end
noncomputable section
section
variable {n size:Nat} {σ:aa}
noncomputable def dO (l:List (List Nat×PV)):aN:=.dctS (l.map (·.1)) (l.map (·.2))
noncomputable def jQ (a b:Option PV):am:=[some (.inst 0 [[107,105,110,100,115],[102,105,101,108,100,115,95],[109,101,116,104,111,100,115]] [.loc 0,.loc 1,.loc 2]),a,b]
theorem K3 {v:PV}{k:List Nat}{σ':aa}(h:(eM (.loc 0) (.str k) v σ).map (λ σ'=>(PV.none,σ'))=some (.none,σ')):St n sM (jQ (some v) (some (.str k))) σ (.ok (.next (jQ (some v) (some (.str k)))) σ'):=(be (aw 1 (.r .none σ'::[])) λ H=>(H:_→_) h)
theorem LS {v:PV}{k:List Nat}{σ':aa}(h:(eM (.loc 1) (.str k) v σ).map (λ σ'=>(PV.none,σ'))=some (.none,σ')):St n sK (jQ (some v) (some (.str k))) σ (.ok (.next (jQ (some v) (some (.str k)))) σ'):=(be (aw 1 (.r .none σ'::[])) λ H=>(H:_→_) h)
theorem LQ {v:PV}{k:List Nat}{σ':aa}(h:(eM (.loc 2) (.str k) v σ).map (λ σ'=>(PV.none,σ'))=some (.none,σ')):St n sJ (jQ (some v) (some (.str k))) σ (.ok (.next (jQ (some v) (some (.str k)))) σ'):=(be (aw 1 (.r .none σ'::[])) λ H=>(H:_→_) h)
theorem vq:ar (n+1) 37 [] [] (.ok aH []) :=
 (al rfl rfl (aw 1 (.r .none [dO (a7.take 1),.dctI [] [],.dctI [] []]::(.n (jQ none none) [dO (a7.take 5),.dctI [] [],.dctI [] []]::(aw 1 (.r .none [dO (a7.take 6),.dctI [] [],.dctI [] []]::(aw 1 (.r .none [dO a7,.dctI [] [],.dctI [] []]::(.n (jQ (some (.tup [.int 20,.int 65])) (some (.str [102]))) [dO a7,dO dz,.dctI [] []]::(.n (jQ (some (.tup [.int 7,.int 0,.tup []])) (some (.str [110,101,119]))) [dO a7,dO dz,dO fC]::[]))))))))) λ H=>(H:_→_→_→_→_→_→_) (by kernel_rfl) (aF rfl (K3 (σ':=[dO (a7.take 2),.dctI [] [],.dctI [] []]) (by kernel_rfl)) (aF rfl (K3 (σ':=[dO (a7.take 3),.dctI [] [],.dctI [] []]) (by kernel_rfl)) (aF rfl (K3 (σ':=[dO (a7.take 4),.dctI [] [],.dctI [] []]) (by kernel_rfl)) (aF rfl (K3 (σ':=[dO (a7.take 5),.dctI [] [],.dctI [] []]) (by kernel_rfl)) rfl)))) (by kernel_rfl) (by kernel_rfl) (aF rfl (LS (σ':=[dO a7,dO (dz.take 1),.dctI [] []]) (by kernel_rfl)) (aF rfl (LS (σ':=[dO a7,dO (dz.take 2),.dctI [] []]) (by kernel_rfl)) (aF rfl (LS (σ':=[dO a7,dO dz,.dctI [] []]) (by kernel_rfl)) rfl))) (aF rfl (LQ (σ':=[dO a7,dO dz,dO (fC.take 1)]) (by kernel_rfl)) (aF rfl (LQ (σ':=[dO a7,dO dz,dO (fC.take 2)]) (by kernel_rfl)) (aF rfl (LQ (σ':=[dO a7,dO dz,dO fC]) (by kernel_rfl)) rfl))) _ ⟨(aH,[]),by kernel_rfl,rfl⟩)
theorem sx {A:PV}(rows:List bo)(hr:∀ r∈rows,aB size r):∀ (S:aa) (out:List Int),out.length+3*rows.length≤1000→∃ τ,cE (St n sT) (b3 false [2,3,4,5]) [2,3,4,5] (rows.map a9) [some A,some (.loc S.length),none,none,none,none] (aZ S PV.int out) (.ok (.next [some A,some (.loc (S++τ).length),none,none,none,none]) (aZ (S++τ) PV.int (out++rows.flatMap (·.gs)))):=by
 induction rows with
 | nil=>exact λ S out Z9=>⟨[],by show cE _ _ _ _ _ _ (.ok _ (aZ _ _ (out++[])));refine ru (O3 ..) (ru (O3 ..) ?_);rfl⟩
 | cons r rows ih =>
  intro S out hz
  have hz:out.length+(3*rows.length+3)≤1000:=hz
  obtain ⟨hm,sh⟩:=hr r N2
  have ih:=ih λ r m=>hr r (N9 _ m)
  obtain ⟨op,nm,v,wd,gs⟩:=r
  dsimp only at hm sh
  have k6:=bq (IP _ hm) (qz (n:=n) (ρ:=[some A,some (.loc S.length),some (.int op),some (.str nm),some v,some (.str wd)]) (σ:=aZ S PV.int out) (a:=.v 2) (b:=.c (.int 69)) (dG rfl) dI)
  have k5:=bq (JA _ hm) (BO (n:=n) (i:=2) (ρ:=[some A,some (.loc S.length),some (.int op),some (.str nm),some v,some (.str wd)]) (σ:=aZ S PV.int out) rfl)
  have ap:∀ ws:List Int,out++(ws++rows.flatMap (·.gs))=(out++ws)++rows.flatMap (·.gs):=λ ws=>(N6 _ _ _).symm
  have ln:∀ {ws:List Int},ws.length≤3→(out++ws).length+3*rows.length≤1000:=λ {ws} h=>by refine ru N5 ?_;(first | lia | omega)
  by_cases q6:af op=6
  ·rw [q6] at sh
   obtain ⟨rfl,-,gl,-⟩:=sh
   rw [decide_eq_true q6] at k6
   refine (ih (aZ S PV.int out) (out++gs) (ln gl)).elim λ τ L=>?_
   refine ⟨.lst (out.map .int)::τ,aF rfl (dD (.inl ⟨.next [some A,some (.loc (aZ S PV.int out).length),some (.int op),some (.str nm),some (.tup (gs.map .int)),some (.str wd)],aZ (aZ S PV.int out) PV.int (out++gs),ee (.inl ⟨_,_,k6,.inl ⟨rfl,?_⟩⟩),gj⟩)) ?_⟩
   ·unfold aZ
    refine ru P6 ?_
    exact (be (.l (out.map .int) (gs.map .int)::[]) λ H=>(H:_→_→_→_) bk rfl (by refine ru (N3 ..) (ru (N3 ..) ?_);exact N1 (P0 N5.symm) (N1 (P1 _ _) (N1 (ln gl) (by decide)))))
   ·refine ru (ap ..) (ru (show S++aN.lst (out.map .int)::τ=aZ S PV.int out++τ from (N6 S [_] τ).symm) ?_);exact L
  ·rw [decide_eq_false q6] at k6
   by_cases q5:af op=5
   ·rw [q5] at sh
    obtain ⟨g,rfl,rfl,-⟩:=sh
    rw [decide_eq_true q5] at k5
    obtain ⟨τ,L⟩:=ih S (out++[g]) (ln (T5 (U4 1)))
    refine ⟨τ,aF rfl (dD (.inl ⟨_,_,ee (.inl ⟨_,_,k6,.inr ⟨rfl,dD (.inl ⟨_,_,ee (.inl ⟨_,_,k5,.inl ⟨rfl,(be (.l (out.map .int) []::(.r .none (aZ S PV.int (out++[g]))::[])) λ H=>(H:_→_→_) bb (bH (S7 (Q8 (N1 (P1 _ _) hz)) (by decide))))⟩⟩),gj⟩)⟩⟩),gj⟩)) ?_⟩
    refine ru (ap ..) ?_;exact L
   ·have e:gs=[]:=by
     revert sh
     refine sg (P:=λ s=>s≠6→s≠5→gp size v wd gs s→gs=[]) (jq _ hm) ?_ ?_ ?_ ?_ ?_ ?_ ?_ ?_ ?_ ?_ ?_ ?_ q6 q5<;>intro q6 q5 sh<;>first | exact absurd rfl q5 | exact absurd rfl q6 | exact sh.1 | exact sh.2.2 | exact sh.elim λ Z9 h=>h.2.2.2
    subst e
    rw [decide_eq_false q5] at k5
    obtain ⟨τ,L⟩:=ih S out (ri (O3 out) (ln (P4 _)))
    exact ⟨τ,aF rfl (dD (.inl ⟨_,_,ee (.inl ⟨_,_,k6,.inr ⟨rfl,dD (.inl ⟨_,_,ee (.inl ⟨_,_,k5,.inr ⟨rfl,gj⟩⟩),gj⟩)⟩⟩),gj⟩)) L⟩
theorem oI {rows:List bo}(h:free σ)(hr:∀ r∈rows,aB size r)(hz:rows.length≤100):ar (n+1) 32 [.lst (rows.map a9)] σ (.ok (.lst ((rows.flatMap (·.gs)).map .int)) σ):=by
 refine (sx (n:=n) (A:=.lst (rows.map a9)) rows hr σ [] (N1 (P0 (R9 _)) (N1 (U3 3 hz) (by decide)))).elim λ τ L=>?_
 have e:aZ (σ++τ) PV.int (rows.flatMap (·.gs))=σ++(τ++[.lst ((rows.flatMap (·.gs)).map .int)]):=N6 _ _ _
 refine (al rfl rfl (.n [some (.lst (rows.map a9)),some (.loc (σ++τ).length),none,none,none,none] (aZ (σ++τ) PV.int (rows.flatMap λ r:bo=>r.gs))::[]) λ H=>(H:_→_) L _ ⟨(.lst ((rows.flatMap (·.gs)).map .int),σ),?_,rfl⟩)
 refine ru e (ru N5 ?_)
 exact l8 h S9 (ay λ Z9=>rfl)
end
end
noncomputable section
noncomputable def kw (e:Int):List Nat:=(aT a7 (.int e)).getD []
noncomputable def dT:List Int:=[7,41,42,43]
noncomputable def aO (size:Nat)(c:Cl):Prop:=(∀ x∈[c.t0,c.t1,c.h0,c.h1],0≤x∧x≤(size:Int))∧(c.s=0∧c.e∈dT∨c.s=1∧0≤c.e∧c.e≤(size:Int)∨c.s=2∧c.e=0∨c.s=4∧c.e=0)
noncomputable def kF (lf:Int→List Nat)(blank:List Nat)(c:Cl):List Nat :=
 if c.s=0 then [99,97,116,99,104]++blank++kw c.e
 else if c.s=1 then [102,105,108,116,101,114]++blank++lf c.e++[32,99,97,116,99,104]
 else if c.s=2 then [102,105,110,97,108,108,121] else [102,97,117,108,116]
noncomputable def n7 (lf:Int→List Nat)(blank:List Nat)(c:Cl):List Nat :=
 [46,116,114,121]++blank++lf c.t0++[32,116,111,32]++lf c.t1++[32]++kF lf blank c++blank++lf c.h0++[32,116,111]++blank++lf c.h1
theorem G9:∀ e∈dT,(kw e).length≤20:=by decide +kernel
theorem DJ:∀ e∈dT,aT a7 (.int e)=some (kw e):=by decide +kernel
noncomputable def Ma:List (Int×List Nat):=[(7,[105,110,116]),(41,[109,121,32,107,105,110,100]),(42,[97,32,116,111,32,98]),(43,[76,105,115,116,60,105,110,116,62])]
theorem Hb:∀ e∈dT,(Ma.flatMap λ q=>if q.1=e then [q.2] else [])=[kw e]:=by decide +kernel
theorem yW {α:Type}{T:PV→List PV→Prop}{g:α→PV}{r:α→List PV}(l:List α)(h:∀ a∈l,T (g a) (r a)):lI T (l.map g) (l.flatMap r):=by
 induction l with
 | nil=>rfl
 | cons a l ih=>exact ⟨_,_,h a N2,ih λ b m=>h b (N9 _ m),rfl⟩
section
variable {n size:Nat} {c:Cl} {L:PV} {blank:List Nat} {lf:Int→List Nat} {σ:aa}
noncomputable def tx (c:Cl)(L:PV)(blank:List Nat)(m:Option PV):am:=[some (cS c),some L,some (.str blank),some (.int c.s),some (.int c.t0),some (.int c.t1),some (.int c.h0),some (.int c.h1),some (.int c.e),m]
theorem L9 (he:c.e∈dT):lI (e7 (ΓS n) (.v 11) (.cmp .Eq (.v 10) (.v 8)) false 2 [false,false,false,false,false,false,false,false,true,false] (tx c L blank none) σ) (Ma.map λ q=>.tup [.int q.1,.str q.2]) [.str (kw c.e)]:=by
 have T:=yW (T:=e7 (ΓS n) (.v 11) (.cmp .Eq (.v 10) (.v 8)) false 2 [false,false,false,false,false,false,false,false,true,false] (tx c L blank none) σ) (g:=λ q=>.tup [.int q.1,.str q.2]) (r:=λ q=>(if q.1=c.e then [q.2] else []).map .str) Ma λ q m=>by
  refine ⟨[.int q.1,.str q.2],rfl,?_⟩
  have k:=qz (n:=n) (a:=.v 10) (b:=.v 8) (σ:=σ) (ρ:=[none,none,none,none,none,none,none,none,some (.int c.e),none,some (.int q.1),some (.str q.2)]) (dG rfl) (dG rfl)
  by_cases e:q.1=c.e
  ·refine ru (if_pos e) ?_;rw [decide_eq_true e] at k;exact .inl ⟨k,_,rfl,dG rfl⟩
  ·refine ru (if_neg e) ?_;rw [decide_eq_false e] at k;exact .inr ⟨k,rfl⟩
 rwa [← List.map_flatMap,Hb _ he] at T
noncomputable def Nz:IS:=match Bk with
 | .sq _ (.sq s _)=>s
 | _=>.sk
noncomputable def Nq:IS:=match Bk with
 | .sq _ (.sq _ r)=>r
 | _=>.sk
theorem wi (hc:aO size c)(hl:c.s=1→bp L (.int c.e) σ=some (.str (lf c.e))∧(lf c.e).length≤20)(hb:blank.length≤2):St n Nz (tx c L blank none) σ (.ok (.next (tx c L blank (some (.str (kF lf blank c))))) σ)∧(kF lf blank c).length≤60:=by
 have r:=λ (x:List Nat)=>N8 x.length
 unfold kF
 by_cases q0:c.s=0
 ·refine ru (if_pos q0) ?_
  have he:c.e∈dT:=by
   rcases hc.2 with h | h | h | h
   ·exact h.2
   all_goals exact absurd (q0.symm.trans h.1) (by decide)
  have B:=G9 _ he
  exact ⟨(be (ob true (.l [.str (kw c.e)] []::[])) λ H=>(H:_→_→_→_→_→_) (qO q0) (gd (r _) hb rfl) (L9 he) (P9 rfl) (gd (aU (r [99,97,116,99,104]) hb) B rfl)),N1 (aU (aU (r [99,97,116,99,104]) hb) B) (by decide)⟩
 refine ru (if_neg q0) ?_
 by_cases q1:c.s=1
 ·refine ru (if_pos q1) ?_
  have A:=aU (r [102,105,108,116,101,114]) hb
  exact ⟨(be (ob false (ob true (ov (.str (lf c.e)) []))) λ H=>(H:_→_→_→_→_→_→_) (eI q0) (qO q1) (gd (r _) hb rfl) ((hl q1).1) (gd A (hl q1).2 rfl) (gd (aU A (hl q1).2) (r _) rfl)),N1 (aU (aU A (hl q1).2) (r _)) (by decide)⟩
 refine ru (if_neg q1) ?_
 by_cases q2:c.s=2
 ·refine ru (if_pos q2) ?_;exact ⟨(be (ob false (ob false (ob true []))) λ H=>(H:_→_→_→_) (eI q0) (eI q1) (qO q2)),by decide⟩
 ·refine ru (if_neg q2) ?_;exact ⟨(be (ob false (ob false (ob false []))) λ H=>(H:_→_→_→_) (eI q0) (eI q1) (eI q2)),by decide⟩
theorem gX (h:free σ)(hc:aO size c)(hL:∀ g∈aA c,bp L (.int g) σ=some (.str (lf g))∧(lf g).length≤20)(hb:blank.length≤2):ar (n+1) 34 [cS c,L,.str blank] σ (.ok (.str (n7 lf blank c)) σ):=by
 have ed:∀ {x:Int},x∈[c.t0,c.t1,c.h0,c.h1]→x∈aA c:=λ {x} m=>by
  unfold aA
  split
  ·exact O7 (as:=[c.t0,c.t1,c.h0,c.h1]) [c.e] m
  ·exact m
 have l1:=hL c.t1 (ed (.tail _ (.head _)))
 have l2:=hL c.h0 (ed (.tail _ (.tail _ (.head _))))
 obtain ⟨M,ml⟩:=wi (n:=n) hc (λ q=>hL c.e (by unfold aA;refine ru (if_pos q) ?_;exact .tail _ (.tail _ (.tail _ (.tail _ (.head _)))))) hb
 unfold n7
 revert M ml
 generalize kF lf blank c=m
 intro M ml
 have r:=λ (x:List Nat)=>N8 x.length
 have A1:=aU (r [46,116,114,121]) hb
 have A3:=aU (aU A1 (hL c.t0 (ed (.head _))).2) (r [32,116,111,32])
 exact (al rfl rfl (.k::(.s _::[])) λ H=>(H:_→_) (dD (.inl ⟨_,_,M,((be (ov (.str (lf c.t0)) (ov (.str (lf c.t1)) (ov (.str (lf c.h0)) (ov (.str (lf c.h1)) [])))) λ H=>(H:_→_→_→_→_→_→_→_→_→_→_→_→_→_→_→_) (gd (r _) hb rfl) ((hL c.t0 (ed (.head _))).1) (gd A1 (hL c.t0 (ed (.head _))).2 rfl) (gd (aU A1 (hL c.t0 (ed (.head _))).2) (r _) rfl) l1.1 (gd A3 l1.2 rfl) (gd (aU A3 l1.2) (r _) rfl) (gd (aU (aU A3 l1.2) (r [32])) ml rfl) (gd (aU (aU (aU A3 l1.2) (r [32])) ml) hb rfl) l2.1 (gd (aU (aU (aU (aU A3 l1.2) (r [32])) ml) hb) l2.2 rfl) (gd (aU (aU (aU (aU (aU A3 l1.2) (r [32])) ml) hb) l2.2) (r _) rfl) (gd (aU (aU (aU (aU (aU (aU A3 l1.2) (r [32])) ml) hb) l2.2) (r [32,116,111])) hb rfl) ((hL c.h1 (ed (.tail _ (.tail _ (.tail _ (.head _)))))).1) (gd (aU (aU (aU (aU (aU (aU (aU A3 l1.2) (r [32])) ml) hb) l2.2) (r [32,116,111])) hb) (hL c.h1 (ed (.tail _ (.tail _ (.tail _ (.head _)))))).2 rfl)):St n Nq (tx c L blank (some (.str m))) σ _)⟩)) _ (bB h rfl))
end
end
noncomputable section
noncomputable def fR (k:Int):Int:=if k=0 then 0 else if k=1 then 1 else if k=2 then 2 else 4
noncomputable def qr (k:Int):Int:=if k=0 then 7 else if k=1 then 41 else if k=2 then 42 else 43
noncomputable def jZ (q:Int)(size:Nat)(j:Nat):Cl :=
 let w:=q / 3+1003*(j:Int)
 let s:=fR (w % 4)
 ⟨s,w / 16 % ((size:Int)+1),w / 5 % ((size:Int)+1),w / 7 % ((size:Int)+1),w / 11 % ((size:Int)+1),if s=0 then qr (w / 4 % 4) else if s=1 then w / 4 % ((size:Int)+1) else 0⟩
noncomputable def n6 (q:Int)(size:Nat):List Cl:=(List.range (q % 3).toNat).map (jZ q size)
theorem md (x:Int){k:Nat}(h:0<k):0≤x % (k:Int)∧x % (k:Int)<(k:Int):=⟨Int.emod_nonneg x (Int.ofNat_ne_zero.mpr (z0k h)),Int.emod_lt_of_pos x (Y0.mpr h)⟩
theorem mI {P:Int→Prop}(x:Int){k:Nat}(hk:0<k)(h:∀ i:Nat,i<k→P (i:Int)):P (x % (k:Int)):=by
 obtain ⟨h0,h1⟩:=md x hk
 revert h0 h1
 generalize x % (k:Int)=y
 intro h0 h1
 cases y with
 | ofNat i=>exact h i (R8.mp h1)
 | negSucc i=>exact absurd h0 (Y7.mpr (z0x i))
theorem bm {P:Nat→Prop}{k:Nat}(a:∀ i,i<k→P i)(b:P k):∀ i,i<k+1→P i:=λ i h=>(X7.mp h).elim (a i) λ e=>ru e b
theorem kK {P:Nat→Prop}:∀ i,i<0→P i:=λ i h=>absurd h (X8 i)
theorem m4 {P:Int→Prop}(x:Int)(h0:P 0)(h1:P 1)(h2:P 2)(h3:P 3):P (x % 4):=mI x (k:=4) (T6 3) (bm (bm (bm (bm kK h0) h1) h2) h3)
theorem r8 (x:Int)(size:Nat):0≤x % ((size:Int)+1)∧x % ((size:Int)+1)≤(size:Int):=(md x (T6 size)).imp id z2l
theorem vl (q:Int)(size j:Nat):aO size (jZ q size j):=by
 unfold jZ
 generalize q / 3+1003*(j:Int)=w
 refine ⟨N7.mpr ⟨r8 _ _,N7.mpr ⟨r8 _ _,N7.mpr ⟨r8 _ _,N7.mpr ⟨r8 _ _,O1 _⟩⟩⟩⟩,?_⟩
 exact m4 (P:=λ k=>fR k=0∧(if fR k=0 then qr (w / 4 % 4) else if fR k=1 then w / 4 % ((size:Int)+1) else 0)∈dT∨fR k=1∧0≤(if fR k=0 then qr (w / 4 % 4) else if fR k=1 then w / 4 % ((size:Int)+1) else 0)∧(if fR k=0 then qr (w / 4 % 4) else if fR k=1 then w / 4 % ((size:Int)+1) else 0)≤(size:Int)∨fR k=2∧(if fR k=0 then qr (w / 4 % 4) else if fR k=1 then w / 4 % ((size:Int)+1) else 0)=0∨fR k=4∧(if fR k=0 then qr (w / 4 % 4) else if fR k=1 then w / 4 % ((size:Int)+1) else 0)=0) w
  (.inl ⟨rfl,m4 (P:=λ k=>qr k∈dT) (w / 4) (.head _) (.tail _ (.head _)) (.tail _ (.tail _ (.head _))) (.tail _ (.tail _ (.tail _ (.head _))))⟩) (.inr (.inl ⟨rfl,r8 _ _⟩)) (.inr (.inr (.inl ⟨rfl,rfl⟩))) (.inr (.inr (.inr ⟨rfl,rfl⟩)))
section
variable {n size:Nat} {q:Int} {σ:aa}
noncomputable def BU (q:Int)(size l:Nat)(a b c d:Option PV):am:=[some (.int q),some (.int (size:Int)),some (.loc l),a,b,c,d]
theorem kz {k:Nat}(h:k<3):m8 (k:Int)=true:=d4 (P8 h (by decide))
theorem KC {j l:Nat}{w:Int}(hw:w=q / 3+1003*(j:Int))(hz:size≤100):Ev n (.ite (.cmp .Eq (.v 5) (.c (.int 0))) (.idx (.idx (.g 28) (.bin .Mod (.bin .FloorDiv (.v 4) (.c (.int 4))) (.c (.int 4)))) (.c (.int 0))) (.ite (.cmp .Eq (.v 5) (.c (.int 1))) (.bin .Mod (.bin .FloorDiv (.v 4) (.c (.int 4))) (.bin .Add (.v 1) (.c (.int 1)))) (.c (.int 0)))) (BU q size l (some (ag j)) (some (.int w)) (some (.int (fR (w % 4)))) none) σ (.ok (.int (jZ q size j).e) σ):=by
 unfold jZ
 dsimp only
 refine ri hw ?_
 generalize fR (w % 4)=s
 by_cases q0:s=0
 ·refine ru (if_pos q0) ?_
  obtain ⟨x,hx⟩:=m4 (P:=λ k=>∃ x,bp yM (.int k) σ=some (.tup [.int (qr k),x])) (w / 4) ⟨_,rfl⟩ ⟨_,rfl⟩ ⟨_,rfl⟩ ⟨_,rfl⟩
  exact (cG (ob true (ov (.tup [.int (qr (w / 4 % 4)),x]) [])) λ H=>(H:_→_→_→_→_) (qO q0) (by decide) (by decide) hx)
 ·refine ru (if_neg q0) ?_
  by_cases q1:s=1
  ·refine ru (if_pos q1) ?_;exact (cG (ob false (ob true [])) λ H=>(H:_→_→_→_→_) (eI q0) (qO q1) (by decide) (⟨Y0.mpr (T6 size),R8.mpr (O0 (P3 hz) (by decide))⟩))
  ·refine ru (if_neg q1) ?_;exact (cG (ob false (ob false [])) λ H=>(H:_→_→_) (eI q0) (eI q1))
theorem lP (h:free σ)(hz:size≤100):ar (n+1) 30 [.int q,.int (size:Int)] σ (.ok (.lst ((n6 q size).map cS)) σ):=by
 have hn:(q % 3).toNat<3∧0≤q % 3∧q % 3<2 ^ 40:=mI (P:=λ k=>k.toNat<3∧0≤k∧k<2 ^ 40) q (k:=3) (T6 2) (bm (bm (bm kK (by decide)) (by decide)) (by decide))
 have g:(0:Int)<(size:Int)+1∧(size:Int)+1<2000000000000:=⟨Y0.mpr (T6 size),R8.mpr (O0 (P3 hz) (by decide))⟩
 obtain ⟨_,rfl,L⟩:=l5 (n:=n) (g:=ag) (d:=cS) (body:=sV) (single:=true) (t:=[3]) (kill:=[3,4,5,6]) (σ:=σ) (·=BU q size σ.length none none none none) (jZ q size) (List.range (q % 3).toNat) (ds:=[]) rfl (by refine ru Q4 ?_;exact N1 (P0 (R9 _)) (N1 (T3 hn.1) (by decide))) λ j m ρ e ds hd=>by
  subst e
  have hj:=P8 (R4.mp m) hn.1
  refine ⟨_,_,rfl,(be (ov (.int (fR ((q / 3+1003*(j:Int)) % 4))) (.e (.int (jZ q size j).e)::(.l (ds.map cS) []::(.r .none (aZ σ cS (ds++[jZ q size j]))::[])))) λ H=>(H:_→_→_→_→_→_→_→_→_→_→_→_→_→_→_→_→_) (by decide) rfl (kz hj) (by decide) (m4 (P:=λ k=>bp (.tup [.int 0,.int 1,.int 2,.int 4]) (.int k) (aZ σ cS ds)=some (.int (fR k))) _ rfl rfl rfl rfl) (KC rfl hz) bb (by decide) g (by decide) g (by decide) g (by decide) g (bH (d:=cS) (v:=jZ q size j) hd)),rfl⟩
 exact (al rfl rfl (.n (BU q size σ.length none none none none) (aZ σ cS (n6 q size))::[]) λ H=>(H:_→_→_→_) (by decide) hn.2 L _ (vQ h (ay λ Z9=>rfl)))
end
end
noncomputable section
noncomputable def rm (n:Nat):List Nat:=(Nat.toDigits 10 n).map Char.toNat
theorem tF:∀ d:Nat,d<10→(Nat.digitChar d).toNat=48+d:=by decide
theorem HM {n:Nat}(h:n<10):rm n=[48+n]:=by
 unfold rm
 refine ru (Nat.toDigits_of_lt_base h) ?_
 exact congrArg (λ c=>[c]) (tF n h)
theorem HN {n:Nat}(h:10≤n):rm n=rm (n / 10)++[48+n % 10]:=by
 unfold rm
 refine ru (Nat.toDigits_of_base_le (by decide) h) (ru P6 ?_)
 exact congrArg (λ c=>_++[c]) (tF _ (Nat.mod_lt n (by decide)))
theorem d1 (n:Nat):aL (n:Int)=rm n:=by
 unfold aL cQ
 refine ru (PyProof.Rows.signs_ofString ..) ?_
 refine ru z3l ?_;rfl
theorem hO (n:Nat):aL (Int.negSucc n)=45::rm (n+1):=by
 unfold aL cQ
 refine ru (PyProof.Rows.signs_ofString ..) ?_
 show ("-"++Nat.repr (n+1)).toList.map Char.toNat=_
 refine ru String.toList_append (ru P6 (ru z3l ?_));rfl
theorem mi {P:Nat→List Nat→Prop}(h0:∀ n,n<10→P n [48+n])(h1:∀ n d,d<10→0<n→P n (rm n)→P (n*10+d) (rm n++[48+d]))(n:Nat):P n (rm n):=by
 induction n using Nat.strongRecOn with
 | _ n ih =>
  by_cases h:n<10
  ·exact ru (HM h) (h0 n h)
  ·have h:=W5.mp h
   have e:=h1 (n / 10) (n % 10) (Nat.mod_lt n (by decide)) (Nat.div_pos h (by decide):0<n / 10) (ih _ (Nat.div_lt_self (S7 (by decide) h) (by decide)))
   rwa [Nat.mul_comm,Nat.div_add_mod,← HN h] at e
theorem i0:∀ d:Nat,d<10→48+d∈bS:=by decide
theorem yV (y:List Nat)(x:List Nat):∀ a:Int,dJ a (x++y)=match dJ a x with | some b=>dJ b y | none=>none:=by
 induction x with
 | nil=>exact λ a=>rfl
 | cons c r ih =>
  intro a
  show (if c∈bS then dJ _ (r++y) else none)=match (if c∈bS then dJ _ r else none) with | some b=>dJ b y | none=>none
  by_cases h:c∈bS
  ·refine ru (if_pos h) (ru (if_pos h) ?_);exact ih _
  ·exact ru (if_neg h) (ru (if_neg h) rfl)
theorem pu {a:Int}{d:Nat}(h:d<10):dJ a [48+d]=some (a*10+(d:Int)):=(if_pos (i0 d h)).trans (by refine ru (V9 ..) ?_;rfl)
theorem d5 (n:Nat):dJ 0 (rm n)=some (n:Int):=mi (P:=λ n l=>dJ 0 l=some (n:Int)) (λ n h=>(pu h).trans (by exact ru (Int.zero_mul ..) (ru (Int.zero_add ..) rfl))) (λ n d h Z9 e=>by refine ru (yV ..) (ru e ?_);exact pu h) n
theorem qK (n:Nat):∀ c∈rm n,c∈bS:=mi (P:=λ n l=>∀ c∈l,c∈bS) (λ n h=>N7.mpr ⟨i0 n h,O1 _⟩) (λ n d h Z9 e=>Q6.mpr ⟨e,N7.mpr ⟨i0 d h,O1 _⟩⟩) n
theorem xh (n:Nat):∀ k,n<10 ^ (k+1)→(rm n).length≤k+1:=mi (P:=λ n l=>∀ k,n<10 ^ (k+1)→l.length≤k+1) (λ n h k Z9=>P3 (P4 k)) (λ n d h h0 e k hk=>by
 refine ru N5 ?_
 cases k with
 | zero=>exact absurd (O0 (P1 _ d) hk) (W5.mpr (W4 10 h0))
 | succ k=>exact P3 (e k (Nat.lt_of_mul_lt_mul_right (a:=10) (O0 (P1 _ d) hk)))) n
theorem n0 (n:Nat):rm n≠[]:=mi (P:=λ Z9 l=>l≠[]) (λ Z9 Z9=>R5 _ _) (λ Z9 Z9 Z9 Z9 Z9=>U1 _ (R5 _ _)) n
theorem fA {i:Int}(h:i.natAbs<10 ^ 25):(aL i).length≤26:=by
 cases i with
 | ofNat n=>refine ru (show Int.ofNat n=(n:Int) from rfl) (ru (d1 ..) ?_);exact T5 (xh n 24 h)
 | negSucc n=>refine ru (hO ..) ?_;exact P3 (xh (n+1) 24 h)
theorem xY (i:Int):∀ c∈aL i,c=45∨c∈bS:=by
 cases i with
 | ofNat n=>refine ru (show Int.ofNat n=(n:Int) from rfl) (ru (d1 ..) ?_);exact λ c h=>.inr (qK n c h)
 | negSucc n=>refine ru (hO ..) ?_;exact N7.mpr ⟨.inl rfl,λ c h=>.inr (qK _ c h)⟩
theorem m7 {i:Int}(h:i.natAbs<10 ^ 25):m8 i=true:=decide_eq_true (P8 h (by decide))
noncomputable def tv (v:PV):List PV:=match v with | .tup vs=>vs | _=>[]
theorem cb {α:Type}{f:α→PV}{g:PV}{l:List α}(e:g=.tup (l.map f))(x:Int){k:Nat}(hk:0<k)(hl:l.length=k):∃ q∈l,∀ σ,bp g (.int (x % (k:Int))) σ=some (f q):=mI (P:=λ j=>∃ q∈l,∀ σ,bp g (.int j) σ=some (f q)) x hk λ i h=>⟨l[i]'(ri hl.symm h),U5 _,λ σ=>e▸(cF (σ:=σ) (by refine ru (Q3) (ru (O4 (ri hl.symm h)) ?_);rfl):bp (.lst (l.map f)) _ σ=_)⟩
noncomputable def Kn (v:PV):Nat:=match v with | .int i=>i.toNat | _=>0
noncomputable def Km (v:PV):List Nat:=match v with | .str s=>s | _=>[]
noncomputable def KK (v:PV)(i:Nat):PV:=(tv v).getD i .none
noncomputable def Gv (e:PV):List Nat×Nat:=(Km (KK e 1),Kn (KK e 0))
noncomputable def x9 (q:List Nat×Nat):PV:=.tup [.int q.2,.str q.1]
noncomputable def DR (P:Nat→Bool)(q:List Nat×Nat):Bool:=decide (q∈bV)&&P (af q.2)
theorem NH:D5=.tup (((tv D5).map Gv).map x9):=by kernel_rfl
theorem NG:D4=.tup (((tv D4).map Gv).map x9):=by kernel_rfl
theorem NF:D3=.tup (((tv D3).map Gv).map x9):=by kernel_rfl
theorem Nn:((tv D5).map Gv).all (DR (·==0))=true:=by kernel_rfl
theorem Nm:((tv D4).map Gv).all (DR (·==5))=true:=by kernel_rfl
theorem Nl:((tv D3).map Gv).all (DR λ s=>s==3||s==4)=true:=by kernel_rfl
noncomputable def MT (e:PV):(List Nat×Nat)×Nat:=(Gv e,Kn (KK e 2))
noncomputable def I7 (q:(List Nat×Nat)×Nat):PV:=.tup [.int q.1.2,.str q.1.1,.int q.2]
theorem ND:D2=.tup (((tv D2).map MT).map I7):=by kernel_rfl
noncomputable def kg (i:Nat):PV:=if i=0 then yM else if i=1 then D1 else D0
noncomputable def Fg (e:PV):List Nat×PV:=(Km (KK e 1),KK e 0)
noncomputable def Jg (q:List Nat×PV):PV:=.tup [q.2,.str q.1]
noncomputable def LA (i s:Nat):Bool:=if i=0 then s==7||s==11 else if i=1 then s==8 else s==9
noncomputable def JB (q:(List Nat×Nat)×Nat):Bool:=decide (q.1∈bV)&&(decide (q.2<3)&&LA q.2 (af q.1.2))
theorem Nk:((tv D2).map MT).all JB=true:=by kernel_rfl
theorem LV:∀ i:Nat,i<3→kg i=.tup (((tv (kg i)).map Fg).map Jg):=bm (bm (bm kK (by kernel_rfl)) (by kernel_rfl)) (by kernel_rfl)
noncomputable def JC (l:List (List Nat×PV))(q:List Nat×PV):Bool:=aS q.2&&decide (aT l q.2=some q.1)
theorem Je:(tv yM).map Fg=(a7.drop 1).take 4:=by kernel_rfl
theorem LU {i s:Nat}(hi:i<3)(h:LA i s=true):((tv (kg i)).map Fg).all (JC (aI s))=true∧(∀ q∈(tv (kg i)).map Fg,q∈aI s)∧∀ {P:Nat→Prop},P 7→P 8→P 9→P 11→P s:=by
 revert h
 refine bm (P:=λ i=>LA i s=true→((tv (kg i)).map Fg).all (JC (aI s))=true∧(∀ q∈(tv (kg i)).map Fg,q∈aI s)∧∀ {P:Nat→Prop},P 7→P 8→P 9→P 11→P s) (bm (bm kK λ h=>?_) λ h=>?_) (λ h=>?_) i hi
 ·rcases P5.mp h with h | h
  ·cases beq_iff_eq.mp h;exact ⟨by kernel_rfl,λ q m=>X3 (X2 (ri Je m)),λ a Z9 Z9 Z9=>a⟩
  ·cases beq_iff_eq.mp h;exact ⟨by kernel_rfl,λ q m=>X3 (X2 (ri Je m)),λ Z9 Z9 Z9 a=>a⟩
 ·cases beq_iff_eq.mp h;exact ⟨by kernel_rfl,λ q m=>m,λ Z9 a Z9 Z9=>a⟩
 ·cases beq_iff_eq.mp h;exact ⟨by kernel_rfl,λ q m=>m,λ Z9 Z9 a Z9=>a⟩
end
noncomputable section
section
variable {n size:Nat} {v:Int} {σ:aa}
theorem g5 {i:Int}(h0:-9223372036854775808≤i)(h1:i≤9223372036854775807):i.natAbs<10 ^ 25:=by (first | lia | omega)
theorem MD {a b c d:PV}:[a,b].length+[c,d].length≤ax∧[a,b]≠[]∧[c,d]≠[]:=⟨P9 rfl,R5 _ _,R5 _ _⟩
theorem qv {l:List (List Nat×Nat)}{P:Nat→Bool}{q:List Nat×Nat}(h:l.all (DR P)=true)(m:q∈l):q∈bV∧P (af q.2)=true:=(N4.mp (O2.mp h q m)).imp of_decide_eq_true id
theorem eW {s:Nat}{w:List Nat}{o:Nat}{x:PV}{wd:List Nat}{gs:List Int}(hm:(w,o)∈bV)(hs:af o=s)(h:gp size x wd gs s):aB size ⟨o,w,x,wd,gs⟩:=⟨hm,ru hs h⟩
noncomputable def xc (v:Int)(size:Nat)(x:Option PV):am:=[some (.int v),some (.int (size:Int)),some (.int (v % 9)),some (.int (v / 9)),x,none,none,none,none,none,none]
theorem BX:∃ nn:Int,(-2147483648≤nn∧nn≤2147483647)∧Ev n (.ite (.tru (.bin .Mod (.bin .FloorDiv (.v 3) (.c (.int 6))) (.c (.int 2)))) (.idx (.g 32) (.bin .Mod (.v 3) (.c (.int 6)))) (.bin .Sub (.bin .Mod (.bin .FloorDiv (.v 3) (.c (.int 12))) (.c (.int 4294967296))) (.c (.int 2147483648)))) (xc v size none) σ (.ok (.int nn) σ):=by
 cases hb:(v / 9 / 6 % 2 !=0) with
 | true =>
  obtain ⟨e,h,g⟩:=mI (P:=λ k=>∃ e:Int,(-2147483648≤e∧e≤2147483647)∧bp Kk (.int k) σ=some (.int e)) (v / 9) (k:=6) (by decide) (bm (bm (bm (bm (bm (bm kK ⟨-2147483648,by decide,rfl⟩) ⟨-1,by decide,rfl⟩) ⟨0,by decide,rfl⟩) ⟨1,by decide,rfl⟩) ⟨9,by decide,rfl⟩) ⟨2147483647,by decide,rfl⟩)
  exact ⟨e,h,(cG (ob true (ov (.int e) [])) λ H=>(H:_→_→_→_→_→_) (by decide) (by decide) (congrArg some hb) (by decide) g)⟩
 | false =>
  have:=md (v / 9 / 12) (k:=4294967296) (by decide)
  exact ⟨v / 9 / 12 % 4294967296-2147483648,(⟨z2k this.1 2147483648,z2k (z2l (b:=4294967295) this.2) 2147483648⟩:(0:Int)-2147483648≤_∧_≤(4294967295:Int)-2147483648),(cG (ob false []) λ H=>(H:_→_→_→_→_→_) (by decide) (by decide) (congrArg some hb) (by decide) (by decide))⟩
theorem LK {nn:Int}:∃ pre,eN pre nn∧pre.length≤2∧Ev n (.ite (.and (.cmp .GtE (.v 4) (.c (.int 0))) (.cmp .Eq (.bin .Mod (.v 3) (.c (.int 5))) (.c (.int 4)))) (.c (.str [43])) (.c (.str []))) (xc v size (some (.int nn))) σ (.ok (.str pre) σ):=by
 by_cases u0:nn ≥ 0
 ·by_cases u1:v / 9 % 5=4
  ·exact ⟨[43],.inr (.inl ⟨rfl,u0⟩),by decide,(cG (ob true (ob true [])) λ H=>(H:_→_→_→_) (KD u0) (by decide) (qO u1))⟩
  ·exact ⟨[],.inl rfl,by decide,(cG (ob true (ob false [])) λ H=>(H:_→_→_→_) (KD u0) (by decide) (eI u1))⟩
 ·exact ⟨[],.inl rfl,by decide,(cG (ob false []) λ H=>(H:_→_) (Lb u0))⟩
theorem LJ {nn:Int}(h:0≤nn):∃ pre,eN pre nn∧pre.length≤2∧Ev n (.ite (.cmp .Eq (.bin .Mod (.bin .FloorDiv (.v 3) (.c (.int 30))) (.c (.int 3))) (.c (.int 2))) (.c (.str [48,48])) (.c (.str []))) (xc v size (some (.int nn))) σ (.ok (.str pre) σ):=by
 by_cases u1:v / 9 / 30 % 3=2
 ·exact ⟨[48,48],.inr (.inr ⟨rfl,h⟩),by decide,(cG (ob true []) λ H=>(H:_→_→_→_) (by decide) (by decide) (qO u1))⟩
 ·exact ⟨[],.inl rfl,by decide,(cG (ob false []) λ H=>(H:_→_→_→_) (by decide) (by decide) (eI u1))⟩
theorem CZ (h:free σ)(hz:1≤size∧size≤100):∃ r,aB size r∧ar (n+1) 29 [.int v,.int (size:Int)] σ (.ok (a9 r) σ):=by
 have hc:∀ {r:bo},aB size r→aS r.n=true→St n wN (oL ⟨2,11,false,wN⟩ [.int v,.int (size:Int)]) σ (.ok (.ret (a9 r)) σ)→∃ r,aB size r∧ar (n+1) 29 [.int v,.int (size:Int)] σ (.ok (a9 r) σ):=λ {r} hg hn e=>⟨r,hg,qR (fd:=⟨2,11,false,wN⟩) rfl rfl e (bB h (show (aS r.n&&true)=true by refine ru hn ?_;rfl))⟩
 have d9:(0:Int)<9∧(9:Int)<2000000000000:=by decide
 have e9:(0:Int)<9∧(9:Int)<1000000000000:=by decide
 have sz:(0:Int)<size∧(size:Int)<2000000000000:=⟨Y0.mpr hz.1,R8.mpr (O0 hz.2 (by decide))⟩
 by_cases q0:v % 9<2
 ·obtain ⟨q,m,g⟩:=cb NH (v / 9) (k:=77) (by decide) rfl
  obtain ⟨ho,hs⟩:=qv Nn m
  exact hc (r:=⟨q.2,q.1,.int 0,[],[]⟩) (eW ho (beq_iff_eq.mp hs) ⟨rfl,rfl,rfl⟩) rfl (be (ob true (ov (x9 q) [])) λ H=>(H:_→_→_→_→_→_→_) d9 e9 (EB q0) (by decide) (g σ) MD)
 by_cases q2:v % 9=2
 ·obtain ⟨nn,b,E⟩:=BX (n:=n) (v:=v) (size:=size) (σ:=σ)
  obtain ⟨pre,p0,p1,p2⟩:=LK (n:=n) (v:=v) (size:=size) (σ:=σ) (nn:=nn)
  have hb:=g5 (U8 (by decide) b.1) (U8 b.2 (by decide))
  exact hc (r:=⟨32,[108,100,99,46,105,52],.int nn,pre++aL nn,[]⟩) (eW (s:=1) (by decide +kernel) (by kernel_rfl) ⟨rfl,_,_,rfl,rfl,p0,b⟩) rfl (be (ob false (ob true (.e (.int nn)::(.e (.str pre)::[])))) λ H=>(H:_→_→_→_→_→_→_→_→_) d9 e9 (qN q0) (qO q2) E p2 (m7 hb) (gd p1 (fA hb) rfl))
 by_cases q3:v % 9=3
 ·obtain ⟨nn,b,g⟩:=m4 (P:=λ k=>∃ nn:Int,(-9223372036854775808≤nn∧nn≤9223372036854775807)∧bp (.tup [.int (-9223372036854775808),.int 9223372036854775807,.int 0,.int (v / 9 / 4 % 1099511627776)]) (.int k) σ=some (.int nn)) (v / 9) ⟨_,by decide,rfl⟩ ⟨_,by decide,rfl⟩ ⟨0,by decide,rfl⟩ ⟨_,(md (v / 9 / 4) (k:=1099511627776) (by decide)).imp (U8 (by decide)) (λ q=>U8 (U9 q) (by decide)),rfl⟩
  exact hc (r:=⟨33,[108,100,99,46,105,56],.int nn,aL nn,[]⟩) (eW (s:=2) (by decide +kernel) (by kernel_rfl) ⟨rfl,_,[],rfl,rfl,.inl rfl,b⟩) rfl (be (ob false (ob false (ob true (ov (.int nn) [])))) λ H=>(H:_→_→_→_→_→_→_→_→_→_→_→_→_→_) d9 e9 (qN q0) (eI q2) (qO q3) (⟨rfl,by decide⟩) (⟨rfl,by decide⟩) (by decide) (⟨rfl,by decide⟩) (by decide) (by decide) g (m7 (g5 b.1 b.2)))
 by_cases q4:v % 9=4
 ·obtain ⟨nn,b,g⟩:=mI (P:=λ k=>∃ nn:Int,(0≤nn∧nn≤65534)∧bp (.tup [.int 0,.int 1,.int 255,.int 256,.int 65534]) (.int k) σ=some (.int nn)) (v / 9 / 6) (k:=5) (by decide) (bm (bm (bm (bm (bm kK ⟨_,by decide,rfl⟩) ⟨_,by decide,rfl⟩) ⟨_,by decide,rfl⟩) ⟨_,by decide,rfl⟩) ⟨_,by decide,rfl⟩)
  obtain ⟨pre,p0,p1,p2⟩:=LJ (n:=n) (v:=v) (size:=size) (σ:=σ) b.1
  obtain ⟨q,m,gq⟩:=cb NF (v / 9) (k:=6) (by decide) rfl
  obtain ⟨ho,hs⟩:=qv Nl m
  have hb:=g5 (U8 (by decide) b.1) (U8 b.2 (by decide))
  have hg:aB size ⟨q.2,q.1,.int nn,pre++aL nn,[]⟩:=(P5.mp hs).elim (λ e=>eW ho (beq_iff_eq.mp e) ⟨rfl,_,_,rfl,rfl,p0,b⟩) λ e=>eW ho (beq_iff_eq.mp e) ⟨rfl,_,_,rfl,rfl,p0,b⟩
  exact hc hg rfl (be (ob false (ob false (ob false (ob true (ov (.int nn) (ov (x9 q) (.e (.str pre)::[]))))))) λ H=>(H:_→_→_→_→_→_→_→_→_→_→_→_→_→_→_→_) d9 e9 (qN q0) (eI q2) (eI q3) (qO q4) (by decide) (by decide) g (by decide) (gq σ) p2 (m7 hb) (gd p1 (fA hb) rfl) MD)
 by_cases q5:v % 9=5
 ·obtain ⟨q,m,g⟩:=cb NG (v / 9) (k:=14) (by decide) rfl
  obtain ⟨ho,hs⟩:=qv Nm m
  exact hc (r:=⟨q.2,q.1,.int (v / 9 / 14 % size),[],[v / 9 / 14 % size]⟩) (eW ho (beq_iff_eq.mp hs) ⟨_,rfl,rfl,md _ hz.1,rfl⟩) rfl (be (ob false (ob false (ob false (ob false (ob true (ov (x9 q) [])))))) λ H=>(H:_→_→_→_→_→_→_→_→_→_→_→_→_) d9 e9 (qN q0) (eI q2) (eI q3) (eI q4) (qO q5) (by decide) (g σ) (by decide) sz MD)
 by_cases q6:v % 9=6
 ·have hn:(v / 9 % 4).toNat≤3∧0≤v / 9 % 4∧v / 9 % 4<2 ^ 40:=m4 (P:=λ k=>k.toNat≤3∧0≤k∧k<2 ^ 40) (v / 9) (by decide) (by decide) (by decide) (by decide)
  have T:=eA (T:=e7 (ΓS n) (.bin .Mod (.bin .Add (.bin .FloorDiv (.v 3) (.c (.int 4))) (.bin .Mult (.bin .Mult (.c (.int 3)) (.v 11)) (.v 11))) (.v 1)) .nl true 1 [false,true,false,true,false,false,false,false,false,false,false] (xc v size none) σ) (g:=ag) (r:=λ j:Nat=>.int ((v / 9 / 4+3*(j:Int)*(j:Int)) % (size:Int))) (List.range (v / 9 % 4).toNat) λ j m=>by
   have hj:j<3:=S7 (R4.mp m) hn.1
   exact ⟨_,rfl,_,rfl,(cG [] λ H=>(H:_→_→_→_→_→_→_) (by decide) rfl (kz hj) (bm (P:=λ j=>m8 (3*(j:Int))=true) (bm (bm kK rfl) rfl) rfl j hj) (kz hj) sz)⟩
  have e:(((List.range (v / 9 % 4).toNat).map λ j:Nat=>(v / 9 / 4+3*(j:Int)*(j:Int)) % (size:Int)).map PV.int)=(List.range (v / 9 % 4).toNat).map λ j:Nat=>PV.int ((v / 9 / 4+3*(j:Int)*(j:Int)) % (size:Int)):=T0
  rw [← e] at T
  have hl:((List.range (v / 9 % 4).toNat).map λ j:Nat=>(v / 9 / 4+3*(j:Int)*(j:Int)) % (size:Int)).length≤3:=by refine ru (N3 ..) (ru Q4 ?_);exact hn.1
  have hb:∀ g∈(List.range (v / 9 % 4).toNat).map λ j:Nat=>(v / 9 / 4+3*(j:Int)*(j:Int)) % (size:Int),0≤g∧g<(size:Int):=Q5.mpr λ j Z9=>md _ hz.1
  revert T hl hb
  generalize (List.range (v / 9 % 4).toNat).map (λ j:Nat=>(v / 9 / 4+3*(j:Int)*(j:Int)) % (size:Int))=gs
  intro T hl hb
  exact hc (r:=⟨69,[115,119,105,116,99,104],.tup (gs.map .int),[],gs⟩) (eW (s:=6) (by decide +kernel) (by kernel_rfl) ⟨rfl,rfl,hl,hb⟩) (ay λ Z9=>rfl) (be (ob false (ob false (ob false (ob false (ob false (ob true (.l (gs.map .int) []::[]))))))) λ H=>(H:_→_→_→_→_→_→_→_→_→_→_→_→_) d9 e9 (qN q0) (eI q2) (eI q3) (eI q4) (eI q5) (qO q6) (by decide) hn.2 T (by refine ru (N3 ..) ?_;exact N1 hl (by decide)))
 by_cases q7:v % 9=7
 ·obtain ⟨q,m,g⟩:=cb ND (v / 9) (k:=25) (by decide) rfl
  obtain ⟨ho,hs⟩:=N4.mp (O2.mp Nk q m)
  obtain ⟨hi,hs⟩:=N4.mp hs
  have hi:=of_decide_eq_true hi
  obtain ⟨a,sub,cs⟩:=LU hi hs
  obtain ⟨k,hk,hl⟩:∃ k:Nat,(0<k∧k<100)∧((tv (kg q.2)).map Fg).length=k∧(jE σ (kg q.2)).map (λ n:Nat=>PV.int (n:Int))=some (ag k)∧bp (.tup [yM,D1,D0]) (.int (q.2:Int)) σ=some (kg q.2):=bm (P:=λ i=>∃ k:Nat,(0<k∧k<100)∧((tv (kg i)).map Fg).length=k∧(jE σ (kg i)).map (λ n:Nat=>PV.int (n:Int))=some (ag k)∧bp (.tup [yM,D1,D0]) (.int (i:Int)) σ=some (kg i)) (bm (bm kK ⟨4,by decide,rfl,rfl,rfl⟩) ⟨3,by decide,rfl,rfl,rfl⟩) ⟨3,by decide,rfl,rfl,rfl⟩ q.2 hi
  obtain ⟨t,mt,gt⟩:=cb (LV q.2 hi) (v / 9 / 25) hk.1 hl.1
  obtain ⟨hn,hg⟩:=N4.mp (O2.mp a t mt)
  exact hc (r:=⟨q.1.2,q.1.1,t.2,t.1,[]⟩) ⟨of_decide_eq_true ho,cs (P:=λ s=>(t.1,t.2)∈aI s∧aT (aI s) t.2=some t.1→gp size t.2 t.1 [] s) (λ w=>⟨rfl,w⟩) (λ w=>⟨rfl,w⟩) (λ w=>⟨rfl,w⟩) (λ w=>⟨rfl,w⟩) ⟨sub t mt,of_decide_eq_true hg⟩⟩ hn (be (ob false (ob false (ob false (ob false (ob false (ob false (ob true (ov (I7 q) (ov (kg q.2) (ov (ag k) (ov (Jg t) []))))))))))) λ H=>(H:_→_→_→_→_→_→_→_→_→_→_→_→_→_→_→_→_) d9 e9 (qN q0) (eI q2) (eI q3) (eI q4) (eI q5) (eI q6) (qO q7) (by decide) (g σ) hl.2.2 (by decide) hl.2.1 (⟨Y0.mpr hk.1,R8.mpr (P8 hk.2 (by decide))⟩) (gt σ))
 obtain ⟨t,ht,g⟩:=cb (g:=Hp) (f:=.str) (l:=jj) rfl (v / 9) (k:=10) (by decide) rfl
 exact hc (r:=⟨114,[108,100,115,116,114],.str t,[],[]⟩) (eW (s:=10) (by decide +kernel) (by kernel_rfl) ⟨t,rfl,ht,rfl,rfl⟩) rfl (be (ob false (ob false (ob false (ob false (ob false (ob false (ob false (ov (.str t) [])))))))) λ H=>(H:_→_→_→_→_→_→_→_→_→_→_→_) d9 e9 (qN q0) (eI q2) (eI q3) (eI q4) (eI q5) (eI q6) (eI q7) (by decide) (g σ))
end
end
noncomputable section
noncomputable def K4 (ks:List Int):aN:=.dctI ks (ks.map λ Z9=>.int 1)
noncomputable def iQ (σ:aa)(ks:List Int):aa:=σ++[K4 ks]
noncomputable def bY (ks gs:List Int):List Int:=gs.foldl (λ ks g=>dZ g ks) ks
theorem iy (ks a b:List Int):bY ks (a++b)=bY (bY ks a) b:=List.foldl_append
theorem iw {size:Nat}{gs:List Int}:∀ {ks:List Int},iI size ks→(∀ g∈gs,0≤g∧g≤(size:Int))→iI size (bY ks gs):=by
 induction gs with
 | nil=>exact λ h Z9=>h
 | cons g r ih=>exact λ h hg=>ih (ic h (hg g N2)) λ x m=>hg x (N9 _ m)
theorem pk {gs:List Int}:∀ {ks:List Int},ks ⊆ bY ks gs∧gs ⊆ bY ks gs:=by
 induction gs with
 | nil=>exact ⟨λ Z9 m=>m,λ Z9 m=>o4 m⟩
 | cons g r ih=>exact λ {ks}=>⟨λ x m=>ih.1 (mu.1 m),λ x m=>(Q2.mp m).elim (λ e=>ih.1 (mu.2 (ri e N2))) λ m=>(ih (ks:=dZ g ks)).2 m⟩
theorem bu {size:Nat}{c:Cl}(h:aO size c):∀ x∈aA c,0≤x∧x≤(size:Int):=by
 unfold aA
 by_cases q:c.s=1
 ·refine ru (if_pos q) ?_
  refine λ x m=>(R0.mp (show x∈[c.t0,c.t1,c.h0,c.h1]++[c.e] from m)).elim (h.1 x) λ m=>ru (P7.mp m) (?_)
  rcases h.2 with e | e | e | e
  ·exact absurd (q.symm.trans e.1) (by decide)
  ·exact e.2
  ·exact absurd (q.symm.trans e.1) (by decide)
  ·exact absurd (q.symm.trans e.1) (by decide)
 ·refine ru (if_neg q) ?_;exact h.1
theorem DW {size s:Nat}{v:PV}{wd:List Nat}{gs:List Int}(hs:s<12)(h:gp size v wd gs s):gs.length≤3∧∀ g∈gs,0≤g∧g<(size:Int):=by
 have nl:gs=[]→gs.length≤3∧∀ g∈gs,0≤g∧g<(size:Int):=λ e=>ru e (⟨P4 3,O1 _⟩)
 revert h
 refine sg (P:=λ s=>gp size v wd gs s→gs.length≤3∧∀ g∈gs,0≤g∧g<(size:Int)) hs ?_ ?_ ?_ ?_ ?_ ?_ ?_ ?_ ?_ ?_ ?_ ?_<;>intro h
 ·exact nl h.2.2
 ·exact nl h.1
 ·exact nl h.1
 ·exact nl h.1
 ·exact nl h.1
 ·obtain ⟨g,-,rfl,hg,-⟩:=h;exact ⟨T5 (U4 1),N7.mpr ⟨hg,O1 _⟩⟩
 ·exact h.2.2
 ·exact nl h.1
 ·exact nl h.1
 ·exact nl h.1
 ·exact nl (h.elim λ Z9 h=>h.2.2.2)
 ·exact nl h.1
theorem aB.gs {size:Nat}{r:bo}(h:aB size r):r.gs.length≤3∧∀ g∈r.gs,0≤g∧g<(size:Int):=DW (jq _ h.mem) h.sh
section
variable {n size:Nat} {σ:aa} {body:IS} {t kill:List Nat} {ρ:am}
theorem ko {ks:List Int}{k:Int}(h:iI size ks)(hz:size≤1000):(eM (.loc σ.length) (.int k) (.int 1) (iQ σ ks)).map (λ σ'=>(PV.none,σ'))=some (.none,iQ σ (dZ k ks)):=by
 show (((σ++[K4 ks])[σ.length]?).bind _).map _=_
 refine ru dq ?_
 refine (congrArg (Option.map _) (if_pos (O0 (N1 (fX h) (P3 hz)) (by decide)))).trans ?_
 refine ru rV ?_
 exact congrArg (λ z=>some (PV.none,z)) ji
set_option tactic.hygienic true in
theorem rO (hz:size≤1000)(hb:∀ g ks,iI size ks→∃ ρ' ρ'',b3 true t (.int g) ρ=some ρ'∧St n body ρ' (iQ σ ks) (.ok (.next ρ'') (iQ σ (dZ g ks)))∧dg kill ρ''=ρ)(gs:List Int):∀ {ks:List Int},iI size ks→(∀ g∈gs,0≤g∧g≤(size:Int))→cE (St n body) (b3 true t) kill (gs.map .int) ρ (iQ σ ks) (.ok (.next ρ) (iQ σ (bY ks gs))):=by
 induction gs with
 | nil=>exact λ Z9 Z9=>rfl
 | cons g r ih =>
  intro ks hk hg
  refine (hb g ks hk).elim λ ρ' w1z=>w1z.elim λ ρ'' w2z=>w2z.elim λ a w3z=>w3z.elim λ s e=>?_
  exact aF a s (ri e.symm (ih (ic hk (hg g N2)) λ x m=>hg x (N9 _ m)))
noncomputable def gr (A B:PV)(l:Nat)(a b c d e f g h i:Option PV):am:=[some A,some B,some (.loc l),a,b,c,d,e,f,g,h,i]
theorem qM {A B:PV}(hz:size≤1000)(cl:List Cl):∀ {ks:List Int},iI size ks→(∀ c∈cl,aO size c)→cE (St n sO) (b3 true [4]) [4,5] (cl.map cS) (gr A B σ.length none none none none none none none none none) (iQ σ ks) (.ok (.next (gr A B σ.length none none none none none none none none none)) (iQ σ (bY ks (cl.flatMap aA)))):=by
 induction cl with
 | nil=>exact λ Z9 Z9=>rfl
 | cons c r ih =>
  intro ks hk hc
  have L:=rO (n:=n) (σ:=σ) (body:=sP) (t:=[5]) (kill:=[5]) (ρ:=gr A B σ.length none (some (cS c)) none none none none none none none) hz (λ g ks hk=>⟨_,_,rfl,(be (.r .none (iQ σ (dZ g ks))::[]) λ H=>(H:_→_) (ko hk hz)),rfl⟩) [c.t0,c.t1,c.h0,c.h1] hk (hc c N2).1
  have k4:=iw hk (hc c N2).1
  have i:=ih (iw hk (bu (hc c N2))) λ c m=>hc c (N9 _ m)
  rw [← iy] at i
  refine aF rfl (ρ'':=gr A B σ.length none (some (cS c)) none none none none none none none) (σ':=iQ σ (bY ks (aA c))) ?_ i
  unfold aA
  by_cases q:c.s=1
  ·refine ru (if_pos q) ?_
   exact (be (aw 1 (.n (gr A B σ.length none (some (cS c)) none none none none none none none) (iQ σ (bY ks [c.t0,c.t1,c.h0,c.h1]))::(aw 1 (ob true (aw 1 (.r .none (iQ σ (dZ c.e (bY ks [c.t0,c.t1,c.h0,c.h1])))::[])))))) λ H=>(H:_→_→_→_) L (qO q) (ko k4 hz))
  ·refine ru (if_neg q) ?_
   exact (be (aw 1 (.n (gr A B σ.length none (some (cS c)) none none none none none none none) (iQ σ (bY ks [c.t0,c.t1,c.h0,c.h1]))::(aw 1 (ob false [])))) λ H=>(H:_→_→_) L (eI q))
end
end
noncomputable section
noncomputable def Ni (v:PV)(wd:List Nat):List Nat:=match v with | .int i=>aL i | _=>wd
noncomputable def rowS (r:bo):bo:=⟨r.op,r.nm,r.n,if 1≤af r.op∧af r.op≤4 then Ni r.n r.wd else r.wd,r.gs⟩
theorem lX:∀ s,s<5→∀ i:Int,ew s≤i→i≤ey s→i.natAbs<10 ^ 25:=bm (bm (bm (bm (bm kK λ i a b=>g5 (U8 (by decide) a) (U8 b (by decide))) λ i a b=>g5 (U8 (by decide) a) (U8 b (by decide))) λ i a b=>g5 a b) λ i a b=>g5 (U8 (by decide) a) (U8 b (by decide))) λ i a b=>g5 (U8 (by decide) a) (U8 b (by decide))
theorem aB.num {size:Nat}{r:bo}(h:aB size r)(s:1≤af r.op∧af r.op≤4):∃ i pre,r.n=.int i∧r.wd=pre++aL i∧r.gs=[]∧eN pre i∧ew (af r.op)≤i∧i≤ey (af r.op):=by
 obtain ⟨hm,sh⟩:=h
 revert sh
 revert s
 generalize af r.op=k
 rintro ⟨s1,s4⟩
 have key:∀ k,(r.gs=[]∧∃ i pre,r.n=.int i∧r.wd=pre++aL i∧eN pre i∧ew k≤i∧i≤ey k)→∃ i pre,r.n=.int i∧r.wd=pre++aL i∧r.gs=[]∧eN pre i∧ew k≤i∧i≤ey k:=λ k h=>h.2.elim λ i w=>w.elim λ p w=>⟨i,p,w.1,w.2.1,h.1,w.2.2⟩
 exact bm (P:=λ k=>1≤k→gp size r.n r.wd r.gs k→∃ i pre,r.n=.int i∧r.wd=pre++aL i∧r.gs=[]∧eN pre i∧ew k≤i∧i≤ey k) (bm (bm (bm (bm kK λ h=>absurd h (by decide)) λ Z9=>key 1) λ Z9=>key 2) λ Z9=>key 3) (λ Z9=>key 4) k (Q8 s4) s1
theorem rQ {r:bo}{i:Int}(s:1≤af r.op∧af r.op≤4)(e:r.n=.int i):(rowS r).wd=aL i:=(if_pos s).trans (by refine ru e ?_;rfl)
theorem aB.rowS {size:Nat}{r:bo}(h:aB size r):aB size (rowS r):=by
 by_cases s:1≤af r.op∧af r.op≤4
 ·obtain ⟨i,pre,e1,e2,e3,_,e5⟩:=h.num s
  refine ⟨h.mem,?_⟩
  refine ru (rQ s e1) ?_
  show gp size r.n (aL i) r.gs (af r.op)
  refine ru e1 (ru e3 ?_)
  revert e5 s
  generalize af r.op=k
  rintro ⟨s1,s4⟩ e5
  exact bm (P:=λ k=>1≤k→ew k≤i∧i≤ey k→gp size (.int i) (aL i) [] k) (bm (bm (bm (bm kK λ h=>absurd h (by decide)) λ Z9 w=>⟨rfl,i,[],rfl,rfl,.inl rfl,w⟩) λ Z9 w=>⟨rfl,i,[],rfl,rfl,.inl rfl,w⟩) λ Z9 w=>⟨rfl,i,[],rfl,rfl,.inl rfl,w⟩) (λ Z9 w=>⟨rfl,i,[],rfl,rfl,.inl rfl,w⟩) k (Q8 s4) s1 e5
 ·exact ⟨h.mem,by refine ru (show (Mine.rowS r).wd=r.wd from if_neg s) ?_;exact h.sh⟩
noncomputable def bC (blank s:List Nat):List Nat:=if s=[] then [] else blank++s
noncomputable def ly (ks:List Int)(i:Nat):List Nat:=if (i:Int)∈ks then bE ks i++[58,32] else []
noncomputable def d8 (ks:List Int)(i:Nat)(r:bo):List Nat:=ly ks i++r.nm++bC [32] (o3 (bE ks) [32] (rowS r))
theorem F5 {size:Nat}{r:bo}(h:aB size r):r.wd.length≤70:=by
 obtain ⟨hm,sh⟩:=h
 have nl:r.wd=[]→r.wd.length≤70:=λ e=>ru e (P4 70)
 have nm:∀ k,(r.gs=[]∧(r.wd,r.n)∈aI k∧aT (aI k) r.n=some r.wd)→r.wd.length≤70:=λ k h=>di h.2.2 λ q m=>(cz k q m).2
 have nu:∀ k,k<5→(r.gs=[]∧∃ i pre,r.n=.int i∧r.wd=pre++aL i∧eN pre i∧ew k≤i∧i≤ey k)→r.wd.length≤70:=λ k hk h=>by
  obtain ⟨-,i,pre,-,e,hp,a,b⟩:=h
  exact ru e (N1 (aU (hp.elim (λ e=>ru e (P4 2)) λ h=>h.elim (λ e=>ru e.1 (U4 1)) λ e=>ru e.1 (N8 2):pre.length≤2) (fA (lX k hk i a b))) (by decide))
 revert sh
 exact sg (P:=λ s=>gp size r.n r.wd r.gs s→r.wd.length≤70) (jq _ hm) (λ h=>nl h.2.1) (nu 1 (by decide)) (nu 2 (by decide)) (nu 3 (by decide)) (nu 4 (by decide)) (λ h=>nl (h.elim λ Z9 h=>h.2.2.2)) (λ h=>nl h.2.1) (nm 7) (nm 8) (nm 9) (λ h=>nl (h.elim λ Z9 h=>h.2.2.1)) (nm 11)
theorem v9 {size:Nat}{r:bo}{lf:Int→List Nat}{blank:List Nat}(hr:aB size r)(hL:∀ g∈r.gs,(lf g).length≤20)(hb:blank.length≤2):(o3 lf blank r).length≤300:=by
 have sh:=hr.sh
 unfold o3
 by_cases s6:af r.op=6
 ·refine ru (if_pos s6) ?_
  exact N1 (aU (aU (x:=[40]) (N8 1) (pg (aU (x:=[44]) (N8 1) hb) hr.gs.1 hL)) (y:=[41]) (N8 1)) (by decide)
 refine ru (if_neg s6) ?_
 by_cases s5:af r.op=5
 ·refine ru (if_pos s5) ?_
  rw [s5] at sh
  obtain ⟨g,-,e,-⟩:=sh
  rw [e] at hL ⊢
  exact N1 (hL g (.head _)) (by decide)
 refine ru (if_neg s5) ?_
 by_cases s10:af r.op=10
 ·refine ru (if_pos s10) ?_
  rw [s10] at sh
  obtain ⟨t,e,ht,-⟩:=sh
  refine ru e ?_
  exact N1 (aU (aU (x:=[34]) (N8 1) (N1 (tn t) (U3 2 (ke t ht)))) (y:=[34]) (N8 1)) (by decide)
 ·refine ru (if_neg s10) ?_;exact N1 (F5 hr) (by decide)
end
noncomputable section
section
variable {n size i l:Nat} {A B:PV} {rows:List bo} {r:bo} {ks:List Int} {σ τ:aa} {ρ:am}
theorem lZ {a:List Int}{b:List PV}{y:PV}(h:τ[l]?=some (.dctI a b)):bp (.loc l) y τ=bp (.dctI a b) y τ:=congrArg (Option.bind · _) h
theorem uH {a:List Int}{b:List PV}{y:PV}(h:τ[l]?=some (.dctI a b)):bT .In y (.loc l) τ=bT .In y (.dctI a b) τ:=congrArg (Option.bind · _) h
set_option tactic.hygienic true in
theorem nO (h:ks.length<64):(ly ks i).length≤6:=by
 unfold ly
 split
 ·rename_i q;exact aU (aV q h).2 (y:=[58,32]) (N8 2)
 ·exact P4 6
theorem jm {b s:List Nat}{m k:Nat}(hb:b.length≤m)(h:s.length≤k):(bC b s).length≤m+k:=by
 unfold bC
 split
 ·exact P4 _
 ·exact aU hb h
theorem jo (hr:aB size r)(hk:r.gs ⊆ ks)(hks:ks.length<64):(o3 (bE ks) [32] (rowS r)).length≤300∧(d8 ks i r).length≤400:=by
 have o:=v9 (lf:=bE ks) (blank:=[32]) hr.rowS (λ g hg=>N1 (aV (hk hg) hks).2 (by decide)) (by decide)
 exact ⟨o,N1 (aU (aU (nO hks) (fW _ hr.mem)) (jm (b:=[32]) (N8 1) o)) (by decide)⟩
noncomputable def IJ (o:Int):Bool:=(![32,33].contains o)&&!(decide (65033≤o)&&decide (o≤65038))
theorem Lj:∀ q∈bV,IJ (q.2:Int)=!decide (1≤af q.2∧af q.2≤4):=λ q m=>beq_iff_eq.mp (jx (p:=λ q=>IJ (q.2:Int)==!decide (1≤af q.2∧af q.2≤4)) (by kernel_rfl) q m)
noncomputable def MJ:IE:=.and (.cmp .NotIn (.idx (.idx (.v 0) (.v 9)) (.c (.int 0))) (.tup (.cs (.c (.int 32)) (.cs (.c (.int 33)) .nl)))) (.nott (.cmp2 .LtE .LtE (.c (.int 65033)) (.idx (.idx (.v 0) (.v 9)) (.c (.int 0))) (.c (.int 65038))))
theorem F4 (hr:aB size r)(e0:∀ {k v},bp (a9 r) (.int k) τ=some v→Ev n (.idx (.idx (.v 0) (.v 9)) (.c (.int k))) ρ τ (.ok v τ)):Ev n (.ite MJ (.idx (.idx (.v 0) (.v 9)) (.c (.int 3))) (.fn .str (.idx (.idx (.v 0) (.v 9)) (.c (.int 2))))) ρ τ (.ok (.str (rowS r).wd) τ):=by
 have c0:Ev n (.idx (.idx (.v 0) (.v 9)) (.c (.int 0))) ρ τ (.ok (.int r.op) τ):=e0 rfl
 have hc:Ev n MJ ρ τ (.ok (.bool (!decide (1≤af r.op∧af r.op≤4))) τ):=bq (Lj _ hr.mem) (mh (p:=![32,33].contains (r.op:Int)) (q:=IJ r.op) (gS (.inl ⟨_,_,c0,.inl ⟨_,_,(cG (e:=.tup (.cs (.c (.int 32)) (.cs (.c (.int 33)) .nl))) [] λ H=>H),_,dl rfl,rfl⟩⟩)) (λ p=>by
  unfold IJ
  refine ru p ?_
  refine w3 (.inl ⟨_,_,(BM (o:=.LtE) (o':=.LtE) dI c0 dI (rfl:bT _ (.int 65033) _ τ=some (decide (65033≤(r.op:Int)))) (rfl:bT _ _ (.int 65038) τ=some (decide ((r.op:Int)≤65038)))),?_⟩)
  cases (decide (65033≤(r.op:Int))&&decide ((r.op:Int)≤65038)) with
  | true=>exact .inl ⟨rfl,rfl⟩
  | false=>exact .inr ⟨rfl,rfl⟩) λ p=>by unfold IJ;refine ru p ?_;rfl)
 refine dU (.inl ⟨_,_,hc,?_⟩)
 by_cases q:1≤af r.op∧af r.op≤4
 ·obtain ⟨j,pre,e1,-,-,-,a,b⟩:=hr.num q
  refine ru (decide_eq_true q) (ru (rQ q e1) ?_)
  exact .inr ⟨rfl,BP (.inl ⟨_,_,(e0 (congrArg some e1):Ev n (.idx (.idx (.v 0) (.v 9)) (.c (.int 2))) ρ τ (.ok (.int j) τ)),_,zE (m7 (lX _ (Q8 q.2) j a b)),rfl⟩)⟩
 ·refine ru (decide_eq_false q) (ru (show (rowS r).wd=r.wd from if_neg q) ?_)
  exact .inl ⟨rfl,e0 rfl⟩
theorem Hm (h:τ[l]?=some (.dctI (aW ks) (kP ks.length)))(hks:ks.length<64)(h9:cT ρ 9=some (ag i))(h6:cT ρ 6=some (.loc l)):Ev n (.ite (.cmp .In (.v 9) (.v 6)) (.bin .Add (.idx (.v 6) (.v 9)) (.c (.str [58,32]))) (.c (.str []))) ρ τ (.ok (.str (ly ks i)) τ):=by
 unfold ly
 refine dU (.inl ⟨_,_,(gS (.inl ⟨_,_,dG h9,.inl ⟨_,_,dG h6,_,dl ((uH h).trans i4),rfl⟩⟩):Ev n (.cmp .In (.v 9) (.v 6)) ρ τ (.ok (.bool (decide ((i:Int)∈ks))) τ)),?_⟩)
 by_cases q:(i:Int)∈ks
 ·refine ru (decide_eq_true q) (ru (if_pos q) ?_)
  exact .inl ⟨rfl,u8 (.inl ⟨_,_,i9 (.inl ⟨_,_,dG h6,.inl ⟨_,_,dG h9,_,i6 ((lZ h).trans (aV q hks).1),rfl⟩⟩),.inl ⟨_,_,dI,vG (gd (aV q hks).2 (y:=[58,32]) (N8 2) rfl)⟩⟩)⟩
 ·refine ru (decide_eq_false q) (ru (if_neg q) ?_);exact .inr ⟨rfl,dI⟩
theorem zq {k:Nat}{b s:List Nat}{a:IE}(ha:Ev n a ρ τ (.ok (.str b) τ))(hb:b.length≤2)(hs:s.length≤1000)(hk:cT ρ k=some (.str s)):Ev n (.ite (.tru (.v k)) (.bin .Add a (.v k)) (.c (.str []))) ρ τ (.ok (.str (bC b s)) τ):=by
 refine dU (.inl ⟨_,_,(λ e=>qF (.inl ⟨_,_,dG hk,_,pN e,rfl⟩):∀ {b:Bool},zo τ (.str s)=some b→Ev n (.tru (.v k)) ρ τ (.ok (.bool b) τ)) rfl,?_⟩)
 cases s with
 | nil=>exact .inr ⟨rfl,dI⟩
 | cons a s=>exact .inl ⟨rfl,u8 (.inl ⟨_,_,ha,.inl ⟨_,_,dG hk,vG (gd hb hs rfl)⟩⟩)⟩
end
end
noncomputable section
section
variable {n size i l:Nat} {A B:PV} {rows:List bo} {cl:List Cl} {r:bo} {ks:List Int} {σ τ:aa} {ρ:am}
theorem v3 {k:Nat}{x:PV}(hA:cT ρ 0=some (.lst (rows.map a9)))(h9:cT ρ k=some (ag i))(hi:rows[i]?=some r){m:Int}(h:bp (a9 r) (.int m) τ=some x):Ev n (.idx (.idx (.v 0) (.v k)) (.c (.int m))) ρ τ (.ok x τ):=i9 (.inl ⟨_,_,i9 (.inl ⟨_,_,dG hA,.inl ⟨_,_,dG h9,_,i6 (cF (by refine ru (Q3) (ru hi ?_);rfl)),rfl⟩⟩),.inl ⟨_,_,dI,_,i6 h,rfl⟩⟩)
set_option tactic.hygienic true in
theorem rA {L:Nat}(hl:σ[l]?=some (.dctI (aW ks) (kP ks.length)))(hr:aB size r)(hi:rows[i]?=some r)(hk:r.gs ⊆ ks)(hks:ks.length<64)(hf:free σ){ds:List (List Nat)}(hd:ds.length<ax):∃ ρ'',St (n+2) nF (gr (.lst (rows.map a9)) B L none none none (some (.loc l)) none (some (.loc σ.length)) (some (ag i)) none none) (aZ σ PV.str ds) (.ok (.next ρ'') (aZ σ PV.str (ds++[d8 ks i r])))∧dg [9,10,11] ρ''=gr (.lst (rows.map a9)) B L none none none (some (.loc l)) none (some (.loc σ.length)) none none none:=by
 have hl':(aZ σ PV.str ds)[l]?=some (.dctI (aW ks) (kP ks.length)):=(S3 (O6.mp hl).1).trans hl
 have hrow:bp (.lst (rows.map a9)) (.int (i:Int)) (aZ σ PV.str ds)=some (a9 r):=cF (by refine ru (Q3) (ru hi ?_);rfl)
 have C:=gy (n:=n) (L:=.loc l) (blank:=[32]) (lf:=bE ks) (br (vs:=ds.map .str) hf (b6 ds)) hr.rowS (λ g hg=>have b:=aV (hk hg) hks;⟨(lZ hl').trans b.1,N1 b.2 (by decide)⟩) (by decide)
 have ol:=(jo (i:=i) hr hk hks).1
 unfold d8
 revert C ol
 generalize o3 (bE ks) [32] (rowS r)=s
 intro C ol
 refine ⟨gr (.lst (rows.map a9)) B L none none none (some (.loc l)) none (some (.loc σ.length)) (some (ag i)) (some (.str (rowS r).wd)) (some (.str s)),(be (.e (.str (rowS r).wd)::(ov (a9 r) (aw 1 (ov (.str s) (.l (ds.map .str) []::(.e (.str (ly ks i))::(ov (a9 r) (aw 1 (.e (.str (bC [32] s))::(.r .none (aZ σ PV.str (ds++[ly ks i++r.nm++bC [32] s]))::[])))))))))) λ H=>(H:_→_→_→_→_→_→_→_→_→_→_→_) (F4 hr (v3 rfl rfl hi)) hrow (⟨P9 rfl,R5 _ _,R5 _ _⟩) C bb (Hm hl' hks rfl rfl) hrow (gd (nO (i:=i) hks) (fW _ hr.mem) rfl) (zq (b:=[32]) dI (U4 1) (N1 ol (by decide)) rfl) (gd (aU (nO (i:=i) hks) (fW _ hr.mem)) (jm (b:=[32]) (N8 1) ol) rfl) (bH (d:=PV.str) hd)),rfl⟩
noncomputable def fh (rows:List bo)(cl:List Cl):List Int:=bY [] (rows.flatMap (·.gs)++cl.flatMap aA)
noncomputable def a5 (ks:List Int)(rows:List bo)(i:Nat):List Nat:=match rows[i]? with | some r=>d8 ks i r | none=>[]
noncomputable def a0 (ks:List Int)(rows:List bo)(cl:List Cl):List (List Nat):=(List.range rows.length).map (a5 ks rows)++dY ks rows.length++cl.map (n7 (bE ks) [32])
theorem uU (hr:∀ r∈rows,aB size r):∀ g∈rows.flatMap (·.gs),0≤g∧g≤(size:Int):=λ g m=>(W7.mp m).elim λ r w=>((hr r w.1).gs.2 g w.2).imp id U9
theorem HJ (hc:∀ c∈cl,aO size c):∀ g∈cl.flatMap aA,0≤g∧g≤(size:Int):=λ g m=>(W7.mp m).elim λ c w=>bu (hc c w.1) g w.2
theorem p6:iI size []:=⟨z0s,O1 _⟩
theorem nB (hr:∀ r∈rows,aB size r)(hc:∀ c∈cl,aO size c):iI size (fh rows cl):=iw p6 (Q6.mpr ⟨uU hr,HJ hc⟩)
theorem qu (h:r∈rows):r.gs ⊆ fh rows cl:=λ g hg=>pk.2 (O7 _ (W7.mpr ⟨r,h,hg⟩))
theorem wD {c:Cl}(h:c∈cl):aA c ⊆ fh rows cl:=λ g hg=>pk.2 (O8 _ (W7.mpr ⟨c,h,hg⟩))
theorem xt {c:Cl}{lf:Int→List Nat}{blank:List Nat}(hc:aO size c)(hl:∀ g∈aA c,(lf g).length≤20)(hb:blank.length≤2):(n7 lf blank c).length≤400:=by
 have ed:∀ {x:Int},x∈[c.t0,c.t1,c.h0,c.h1]→x∈aA c:=λ {x} m=>by
  unfold aA
  split
  ·exact O7 (as:=[c.t0,c.t1,c.h0,c.h1]) [c.e] m
  ·exact m
 have r:=λ (x:List Nat)=>N8 x.length
 have m:(kF lf blank c).length≤60:=(wi (n:=0) (L:=.dctI [c.e] [.str (lf c.e)]) (σ:=[]) hc (λ q=>⟨if_pos rfl,hl c.e (by unfold aA;refine ru (if_pos q) ?_;exact .tail _ (.tail _ (.tail _ (.tail _ (.head _)))))⟩) hb).2
 exact N1 (aU (aU (aU (aU (aU (aU (aU (aU (aU (aU (aU (r [46,116,114,121]) hb) (hl c.t0 (ed (.head _)))) (r [32,116,111,32])) (hl c.t1 (ed (.tail _ (.head _))))) (r [32])) m) hb) (hl c.h0 (ed (.tail _ (.tail _ (.head _)))))) (r [32,116,111])) hb) (hl c.h1 (ed (.tail _ (.tail _ (.tail _ (.head _))))))) (by decide)
end
end
noncomputable section
section
variable {n size i l:Nat} {A B:PV} {rows:List bo} {cl:List Cl} {ks:List Int} {σ τ:aa}
noncomputable def vX (τ:aa)(d:List Int):aa:=τ++[.dctI d (kP d.length)]
theorem yP {L:Nat}(hn:(aW ks).Nodup)(hl:(aW ks).length<64)(rest:List Int):∀ d:List Int,d++rest=aW ks→cE (St n sN) (b3 true [7]) [7] (rest.map .int) (gr A B L none none none (some (.loc τ.length)) none none none none none) (vX τ d) (.ok (.next (gr A B L none none none (some (.loc τ.length)) none none none none none)) (vX τ (aW ks))):=by
 induction rest with
 | nil=>exact λ d e=>by refine ri e (ru (O3 ..) ?_);rfl
 | cons y rest ih =>
  intro d e
  have hd:d.length<64:=O0 (by refine ri e (ru N5 ?_);exact P1 _ _) hl
  have e1:(jE (vX τ d) (.loc τ.length)).map (λ n:Nat=>PV.int (n:Int))=some (ag d.length):=by
   show Option.map _ (((τ++[aN.dctI d (kP d.length)])[τ.length]?).map _)=_
   refine ru dq ?_;rfl
  have e2:(eM (.loc τ.length) (.int y) (.str (Lk d.length)) (vX τ d)).map (λ σ'=>(PV.none,σ'))=some (.none,vX τ (d++[y])):=by
   show (((τ++[aN.dctI d (kP d.length)])[τ.length]?).bind _).map _=_
   refine ru dq ?_
   refine (congrArg (Option.map _) (if_pos (P8 hd (by decide)))).trans ?_
   refine ru (oZ (by unfold kP;rw [N3,Q4]) (λ m=>(Q0.mp (ru e hn)).2.2 y m y N2 rfl:y∉d)) ?_
   refine congrArg (λ z=>some (PV.none,z)) (ji.trans ?_)
   unfold vX
   refine ru N5 ?_
   exact congrArg (λ l=>τ++[aN.dctI (d++[y]) l]) (sA d.length).symm
  exact aF rfl (be (ov (ag d.length) (.r .none (vX τ (d++[y]))::[])) λ H=>(H:_→_→_→_→_) e1 (d4 (P8 hd (by decide))) (N1 (S5 (et _ hd) 1) (by decide)) e2) (ih (d++[y]) (by refine ru (N6 ..) ?_;exact e))
set_option tactic.hygienic true in
theorem tD (h:ks.length<64):(dY ks size).length≤1∧∀ w∈dY ks size,w.length≤1000:=by
 unfold dY
 split
 ·rename_i q;exact ⟨N8 1,N7.mpr ⟨N1 (aU (aV q h).2 (y:=[58]) (N8 1)) (by decide),O1 _⟩⟩
 ·exact ⟨P4 1,O1 _⟩
theorem ui (hr:∀ r∈rows,aB size r)(hc:∀ c∈cl,aO size c)(hg:∀ r∈rows,r.gs ⊆ ks)(he:∀ c∈cl,aA c ⊆ ks)(hk:ks.length<64):∀ w∈a0 ks rows cl,w.length≤1000 :=
 Q6.mpr ⟨Q6.mpr ⟨Q5.mpr λ i m=>by
  unfold a5
  cases e:rows[i]? with
  | none=>exact P4 _
  | some r =>
   have m:=Q1 e
   exact N1 (jo (hr r m) (hg r m) hk).2 (by decide),(tD hk).2⟩,Q5.mpr λ c m=>N1 (xt (hc c m) (λ g hg=>N1 (aV (he c m hg) hk).2 (by decide)) (by decide)) (by decide)⟩
noncomputable def Cz (rows:List bo)(cl:List Cl)(l:Nat)(d f:Option PV):am:=gr (.lst (rows.map a9)) (.lst (cl.map cS)) l none none none d none f none none none
theorem El {ls:List (List Nat)}{L:Nat}(hl:σ[l]?=some (.dctI (aW ks) (kP ks.length)))(hk:ks.length<64)(hz:ls.length<ax):St n (.iff (.cmp .In (.fn .len (.v 0)) (.v 6)) (.sq (.expr (.m1 .append (.v 8) (.bin .Add (.idx (.v 6) (.fn .len (.v 0))) (.c (.str [58]))))) .sk) .sk) (Cz rows cl L (some (.loc l)) (some (.loc σ.length))) (aZ σ PV.str ls) (.ok (.next (Cz rows cl L (some (.loc l)) (some (.loc σ.length)))) (aZ σ PV.str (ls++dY ks rows.length))):=by
 have hl':(aZ σ PV.str ls)[l]?=some (.dctI (aW ks) (kP ks.length)):=(S3 (O6.mp hl).1).trans hl
 have hn:(jE (aZ σ PV.str ls) (.lst (rows.map a9))).map (λ n:Nat=>PV.int (n:Int))=some (ag rows.length):=congrArg (λ k:Nat=>some (ag k)) (N3 _)
 unfold dY
 by_cases q:(rows.length:Int)∈ks
 ·refine ru (if_pos q) ?_
  have b:=aV q hk
  exact (be (ov (ag rows.length) (ob true (.l (ls.map .str) []::(ov (ag rows.length) (ov (.str (bE ks rows.length)) (.r .none (aZ σ PV.str (ls++[bE ks rows.length++[58]]))::[])))))) λ H=>(H:_→_→_→_→_→_→_→_) hn ((uH hl').trans (i4.trans (congrArg some (decide_eq_true q)))) bb hn ((lZ hl').trans b.1) (gd b.2 (y:=[58]) (N8 1) rfl) (bH (d:=PV.str) hz))
 ·refine ru (if_neg q) (ru (O3 ..) ?_)
  exact (be (ov (ag rows.length) (ob false [])) λ H=>(H:_→_→_) hn ((uH hl').trans (i4.trans (congrArg some (decide_eq_false q)))))
theorem oa (h:free σ)(hr:∀ r∈rows,aB rows.length r)(hc:∀ c∈cl,aO rows.length c)(hz:rows.length≤60)(hcz:cl.length≤60):ar (n+3) 36 [.lst (rows.map a9),.lst (cl.map cS)] σ (.ok (.str (ah [10] (a0 (fh rows cl) rows cl))) σ):=by
 have z:=N1 hz (show 60≤1000 by decide)
 have fm:∀ ks,free (iQ σ ks):=λ ks=>gQ h (N4.mpr ⟨ay (f:=λ Z9=>PV.int 1) λ Z9=>rfl,rfl⟩)
 have hk:=nB hr hc
 have kl:(fh rows cl).length<64:=O0 (N1 (fX hk) (P3 hz)) (show 61<64 by decide)
 have L2:=qM (n:=n+2) (σ:=σ) (A:=.lst (rows.map a9)) (B:=.lst (cl.map cS)) z cl (iw p6 (uU hr)) hc
 rw [← iy] at L2
 have hg:∀ r∈rows,r.gs ⊆ fh rows cl:=λ r m=>qu m
 have he:∀ c∈cl,aA c ⊆ fh rows cl:=λ c m=>wD m
 have sl:=ui (size:=rows.length) hr hc hg he kl
 revert L2 hk kl hg he sl
 unfold fh
 generalize bY [] (rows.flatMap (·.gs)++cl.flatMap aA)=ks
 intro hk kl L2 hg he sl
 have so:oS (vX (iQ σ ks) []) (.loc σ.length)=some (.lst ((aW ks).map .int)):=by
  show ((vX (iQ σ ks) [])[σ.length]?).bind _=_
  refine ru (show (vX (iQ σ ks) [])[σ.length]?=some (K4 ks) from (congrArg (·[σ.length]?) (N6 ..)).trans (fp 0)) ?_
  exact if_pos kl
 have L3:=yP (n:=n+2) (A:=.lst (rows.map a9)) (B:=.lst (cl.map cS)) (L:=σ.length) (τ:=iQ σ ks) (cd.nodup_iff.mpr hk.1) (ri (cd.length_eq:(aW ks).length=ks.length).symm kl) (aW ks) [] rfl
 have hl:(vX (iQ σ ks) (aW ks))[(iQ σ ks).length]?=some (.dctI (aW ks) (kP ks.length)):=ri (cd.length_eq:(aW ks).length=ks.length) dq
 have hS:vX (iQ σ ks) (aW ks)=σ++[K4 ks,.dctI (aW ks) (kP (aW ks).length)]:=N6 ..
 have fS:free (vX (iQ σ ks) (aW ks)):=gQ (fm ks) (N4.mpr ⟨ay (f:=λ k=>PV.str (Lk k)) λ Z9=>rfl,rfl⟩)
 generalize vX (iQ σ ks) (aW ks)=S at L3 hl hS fS
 obtain ⟨_,rfl,L4⟩:=l5 (n:=n+2) (g:=ag) (d:=PV.str) (body:=nF) (single:=true) (t:=[9]) (kill:=[9,10,11]) (σ:=S) (·=Cz rows cl σ.length (some (.loc (iQ σ ks).length)) (some (.loc S.length))) (a5 ks rows) (List.range rows.length) (ds:=[]) rfl (by refine ru Q4 ?_;exact N1 (P0 (R9 _)) (N1 hz (by decide))) λ i m ρ e ds hd=>by
  subst e
  have hi:=O4 (R4.mp m)
  have hm:=U5 (R4.mp m)
  revert hi hm
  generalize rows[i]'(R4.mp m)=r
  intro hi hm
  obtain ⟨ρ'',s,e⟩:=rA (n:=n) (B:=.lst (cl.map cS)) (L:=σ.length) hl (hr r hm) hi (hg r hm) kl fS hd
  exact ⟨_,ρ'',rfl,by unfold a5;refine ru hi ?_;exact s,e⟩
 have ll:([]++(List.range rows.length).map (a5 ks rows)).length≤60:=by refine ru (z1m ..) (ru (N3 ..) (ru Q4 ?_));exact hz
 have T:=eA (T:=e7 (ΓS (n+2)) (.call 34 (.cs (.v 12) (.cs (.v 6) (.cs (.c (.str [32])) .nl)))) .nl true 1 [false,false,false,false,false,false,true,false,false,false,false,false] (Cz rows cl σ.length (some (.loc (iQ σ ks).length)) (some (.loc S.length))) (aZ S PV.str ((List.range rows.length).map (a5 ks rows)++dY ks rows.length))) (g:=cS) (r:=λ c=>.str (n7 (bE ks) [32] c)) cl λ c m=>⟨_,rfl,_,rfl,(cG (ov (.str (n7 (bE ks) [32] c)) []) λ H=>(H:_→_) (gX (n:=n+1) (br fS (b6 _)) (hc c m) (λ g hg=>have b:=aV (he c m hg) kl;⟨(lZ ((S3 (O6.mp hl).1).trans hl)).trans b.1,N1 b.2 (by decide)⟩) (by decide)))⟩
 have e:(cl.map λ c=>PV.str (n7 (bE ks) [32] c))=(cl.map (n7 (bE ks) [32])).map .str:=T0.symm
 have zl:((List.range rows.length).map (a5 ks rows)++dY ks rows.length).length≤61:=by refine ru N5 ?_;exact R7 ll (tD kl).1
 have J:=cq (σ:=aZ (aZ S PV.str ((List.range rows.length).map (a5 ks rows)++dY ks rows.length)) PV.str (a0 ks rows cl)) (x:=.loc (aZ S PV.str ((List.range rows.length).map (a5 ks rows)++dY ks rows.length)).length) (sep:=[10]) (l:=a0 ks rows cl) bk (by decide) (N1 (cr [10] _ sl) (N1 (W4 _ (by unfold a0;refine ru N5 (ru (N3 ..) ?_);exact R7 zl hcz:(a0 ks rows cl).length≤121)) (by decide)))
 rw [e] at T
 have R:St (n+2) (.sq (.ret (.m1 .join (.c (.str [10])) (.addl (.v 8) (.comp (.call 34 (.cs (.v 12) (.cs (.v 6) (.cs (.c (.str [32])) .nl)))) true 1 (.v 1) .nl [false,false,false,false,false,false,true,false,false,false,false,false])))) .sk) (Cz rows cl σ.length (some (.loc (iQ σ ks).length)) (some (.loc S.length))) (aZ S PV.str ((List.range rows.length).map (a5 ks rows)++dY ks rows.length)) (.ok (.ret (.str (ah [10] (a0 ks rows cl)))) (aZ (aZ S PV.str ((List.range rows.length).map (a5 ks rows)++dY ks rows.length)) PV.str (a0 ks rows cl))):=by
  rw [(by unfold a0;refine ri P6 ?_;rfl:aZ (aZ S PV.str ((List.range rows.length).map (a5 ks rows)++dY ks rows.length)) PV.str (a0 ks rows cl)=aZ S PV.str ((List.range rows.length).map (a5 ks rows)++dY ks rows.length)++[.lst (((List.range rows.length).map (a5 ks rows)++dY ks rows.length).map .str++(cl.map (n7 (bE ks) [32])).map .str)])] at J ⊢
  exact (be (.l ((cl.map (n7 (bE ks) [32])).map .str) []::(.l (((List.range rows.length).map (a5 ks rows)++dY ks rows.length).map .str) ((cl.map (n7 (bE ks) [32])).map .str)::(ov (.str (ah [10] (a0 ks rows cl))) []))) λ H=>(H:_→_→_→_→_→_→_) T (by refine ru (N3 ..) (ru (N3 ..) ?_);exact N1 hcz (by decide)) bk rfl (by refine ru (N3 ..) (ru (N3 ..) (ru (N3 ..) ?_));exact N1 (R7 zl hcz) (by decide)) J)
 refine (al rfl rfl (ov (.lst ((rows.flatMap (λ r:bo=>r.gs)).map .int)) (.n (Cz rows cl σ.length none none) (iQ σ (bY [] (rows.flatMap (λ r:bo=>r.gs))))::(.n (Cz rows cl σ.length none none) (iQ σ ks)::(ov (.lst ((aW ks).map .int)) (.n (Cz rows cl σ.length (some (.loc (iQ σ ks).length)) none) S::(ov (ag rows.length) (.n (Cz rows cl σ.length (some (.loc (iQ σ ks).length)) (some (.loc S.length))) (aZ S PV.str ((List.range rows.length).map (a5 ks rows)))::(.s _::[])))))))) λ H=>(H:_→_→_→_→_→_→_→_→_→_) ((oI (n:=n+1) (fm []) hr (N1 hz (by decide)))) ((rO (n:=n+2) (σ:=σ) (body:=sQ) (t:=[3]) (kill:=[3]) (ρ:=Cz rows cl σ.length none none) z (λ g ks hk=>⟨_,_,rfl,(be (.r .none (iQ σ (dZ g ks))::[]) λ H=>(H:_→_) (ko hk z)),rfl⟩) (rows.flatMap (·.gs)) p6 (uU hr))) L2 so L3 ((congrArg (λ k:Nat=>some (ag k)) (N3 _):(jE (aZ S PV.str []) (.lst (rows.map a9))).map (λ n:Nat=>PV.int (n:Int))=some (ag rows.length))) (⟨Q7 _,R8.mpr (O0 hz (by decide:60<2 ^ 40))⟩) L4 (dD (.inl ⟨_,_,(El (n:=n+2) (rows:=rows) (cl:=cl) (L:=σ.length) hl kl (O0 ll (by decide))),R⟩)) _ ?_)
 (rewrite [aZ,aZ];refine ru hS (ru (N6 ..) (ru (N6 ..) ?_)))
 exact oy h rfl
end
end
noncomputable section
noncomputable def kO:List (List Nat):=match Bz with | .tup vs=>vs.filterMap jp | _=>[]
theorem NC:Bz=.tup (kO.map .str):=by kernel_rfl
theorem AV:∀ w∈kO,w.length≤3:=λ w m=>P9 (O2.mp (show (kO.all λ w=>Nat.ble w.length 3)=true by kernel_rfl) w m)
noncomputable def lab (v:Int)(i:Nat):List Nat:=kO.getD ((v+(i:Int)) % 7).toNat []++aL (i:Int)
noncomputable def ao (v:Int):List Nat:=if v % 3=0 then [32] else if v % 3=1 then [32,32] else [9,32]
noncomputable def lf (v:Int)(g:Int):List Nat:=lab v g.toNat
theorem qm (v:Int):(kO.getD (v % 7).toNat []).length≤3∧∀ σ,bp Bz (.int (v % 7)) σ=some (.str (kO.getD (v % 7).toNat [])):=mI (P:=λ k=>(kO.getD k.toNat []).length≤3∧∀ σ,bp Bz (.int k) σ=some (.str (kO.getD k.toNat []))) v (k:=7) (by decide) λ i h=>by
 have e:kO[i]?=some (kO[i]'h):=O4 h
 refine ru (z0c ..) (ru (Z2) (ru e ?_))
 exact ⟨AV _ (U5 h),λ σ=>ri NC (cF (σ:=σ) (by refine ru (Q3) (ru e ?_);rfl):bp (.lst (kO.map .str)) _ σ=_)⟩
theorem fZ {v:Int}{i:Nat}(h:i<64):(lab v i).length≤6:=aU (qm _).1 (et i h)
theorem aX {v:Int}:(ao v).length≤2:=by unfold ao;(repeat' split)<;>first | exact U4 1 | exact N8 2
noncomputable def w9 (v:Int)(i:Nat):Int:=v / 6+5*(i:Int)
noncomputable def KB:List Nat:=[55357,56832]
noncomputable def Eo:List Nat:=[34,128512,34]
noncomputable def nD (r:bo):Bool:=xb r.n (.str KB)
noncomputable def lw (v:Int)(r:bo):List Nat:=if nD r then Eo else o3 (lf v) (ao v) r
noncomputable def rep (b:List Nat)(k:Int):List Nat:=List.flatten (List.replicate k.toNat b)
noncomputable def jK (v:Int)(i:Nat):List Nat:=if w9 v i % 4=0 then [] else if w9 v i % 4=1 then [97,108,115,111]++aL (i:Int)++[58]++ao v++(lab v i++[58]) else lab v i++[58]
noncomputable def iV (v:Int)(i:Nat):List (List Nat):=if w9 v i % 4=0 then [lab v i++[58]] else if w9 v i % 4=1 then [ao v++[47,47,32,114,101,116]] else []
noncomputable def A5 (v:Int)(i:Nat)(r:bo):List Nat:=rep (ao v) (w9 v i % 2)++jK v i++ao v++r.nm++bC (ao v) (lw v r)++rep (ao v) (w9 v i % 3)
noncomputable def oV (v:Int)(i:Nat)(r:bo):List (List Nat):=iV v i++[A5 v i r]
theorem pU {b:List Nat}{x:Int}{k:Nat}(hb:b.length≤2)(h:k<3):(rep b (x % ((k+1:Nat):Int))).length≤6∧0≤x % ((k+1:Nat):Int)∧x % ((k+1:Nat):Int)<100∧(x % ((k+1:Nat):Int)).toNat*b.length≤ax:=mI (P:=λ j=>(rep b j).length≤6∧0≤j∧j<100∧j.toNat*b.length≤ax) x (T6 k) λ i hi=>by
 have hi:i≤3:=N1 (Y5 hi) (T3 h)
 have e:i*b.length≤6:=Z5 hi hb
 refine ru (z0c ..) (ru z2r (ru z2x (ru z2a ?_)))
 exact ⟨e,Q7 i,R8.mpr (O0 hi (by decide)),N1 e (by decide)⟩
theorem aB.shal {size:Nat}{r:bo}(h:aB size r):shal 8 r.n=true:=by
 obtain ⟨hm,sh⟩:=h
 have e:∀ {v},r.n=v→Mine.shal 8 v=true→Mine.shal 8 r.n=true:=λ e h=>ru e h
 have nu:∀ k,(r.gs=[]∧∃ i pre,r.n=.int i∧r.wd=pre++aL i∧eN pre i∧ew k≤i∧i≤ey k)→Mine.shal 8 r.n=true:=λ k h=>h.2.elim λ i h=>h.elim λ p h=>e h.1 rfl
 have nm:∀ k,(r.gs=[]∧(r.wd,r.n)∈aI k∧aT (aI k) r.n=some r.wd)→Mine.shal 8 r.n=true:=λ k h=>(cz k _ h.2.1).1
 revert sh
 exact sg (P:=λ s=>gp size r.n r.wd r.gs s→Mine.shal 8 r.n=true) (jq _ hm) (λ h=>e h.1 rfl) (nu 1) (nu 2) (nu 3) (nu 4) (λ h=>h.elim λ g h=>e h.1 rfl) (λ h=>e h.1 (O2.mpr (Q5.mpr λ Z9 Z9=>rfl))) (nm 7) (nm 8) (nm 9) (λ h=>h.elim λ g h=>e h.1 rfl) (nm 11)
section
variable {n size i:Nat} {v:Int} {B O:PV} {rows:List bo} {r:bo} {σ τ:aa}
noncomputable def nw (v:Int)(size:Nat):PV:=.lst (((List.range (size+1)).map (lab v)).map .str)
theorem nv {g:Nat}(h:g≤size):bp (nw v size) (.int (g:Int)) τ=some (.str (lab v g)):=cF (by refine ru (Q3) (ru (Q3) (ru (z2s (Q8 h)) ?_));rfl)
theorem AU {g:Int}(h:0≤g∧g≤(size:Int))(hz:size<64):bp (nw v size) (.int g) τ=some (.str (lf v g))∧(lf v g).length≤20:=by
 obtain ⟨k,rfl⟩:=z1z h.1
 have hk:=V5.mp h.2
 exact ⟨nv hk,N1 (fZ (O0 hk hz)) (by decide)⟩
noncomputable def gu (rows:List bo)(B O:PV)(v:Int)(size l:Nat)(a b c d:Option PV):am:=[some (.lst (rows.map a9)),some B,some (.int v),a,some (nw v size),some (.str (ao v)),some O,some (.loc l),b,c,d]
noncomputable def Ny:IS:=match fG with
 | .sq _ (.sq _ (.sq s _))=>s
 | _=>.sk
noncomputable def Np:IS:=match fG with
 | .sq _ (.sq _ (.sq _ r))=>r
 | _=>.sk
theorem sf:(0:Int)<4∧(4:Int)<2000000000000:=by decide
theorem Bw (hi:i<60){out:List (List Nat)}(ho:out.length<ax):St n Ny (gu rows B O v size σ.length (some (ag i)) (some (.str (lab v i++[58]))) (some (.int (w9 v i))) none) (aZ σ PV.str out) (.ok (.next (gu rows B O v size σ.length (some (ag i)) (some (.str (jK v i))) (some (.int (w9 v i))) none)) (aZ σ PV.str (out++iV v i)))∧(jK v i).length≤17∧(iV v i).length≤1:=by
 unfold jK iV
 by_cases q0:w9 v i % 4=0
 ·refine ru (if_pos q0) (ru (if_pos q0) ?_)
  exact ⟨(be (ob true (.l (out.map .str) []::(.r .none (aZ σ PV.str (out++[lab v i++[58]]))::[]))) λ H=>(H:_→_→_→_→_) sf (qO q0) bb (bH (d:=PV.str) ho)),P4 _,N8 1⟩
 refine ru (if_neg q0) (ru (if_neg q0) ?_)
 by_cases q1:w9 v i % 4=1
 ·refine ru (if_pos q1) (ru (if_pos q1) ?_)
  have a1:=aU (x:=[97,108,115,111]) (N8 4) (et i (P8 hi (by decide)))
  exact ⟨(be (ob false (ob true (.l (out.map .str) []::(.r .none (aZ σ PV.str (out++[ao v++[47,47,32,114,101,116]]))::[])))) λ H=>(H:_→_→_→_→_→_→_→_→_→_→_→_→_) sf (eI q0) sf (qO q1) bb (gd (aX (v:=v)) (y:=[47,47,32,114,101,116]) (N8 6) rfl) (bH (d:=PV.str) ho) (d4 (P8 hi (by decide))) (gd (x:=[97,108,115,111]) (N8 4) (et i (P8 hi (by decide))) rfl) (gd a1 (y:=[58]) (N8 1) rfl) (gd (aU a1 (y:=[58]) (N8 1)) (aX (v:=v)) rfl) (gd (aU (aU a1 (y:=[58]) (N8 1)) (aX (v:=v))) (aU (y:=[58]) (fZ (P8 hi (by decide))) (N8 1):(lab v i++[58]).length≤7) rfl)),aU (aU (aU a1 (y:=[58]) (N8 1)) (aX (v:=v))) (aU (y:=[58]) (fZ (P8 hi (by decide))) (N8 1):(lab v i++[58]).length≤7),N8 1⟩
 ·refine ru (if_neg q1) (ru (if_neg q1) (ru (O3 ..) ?_))
  exact ⟨(be (ob false (ob false [])) λ H=>(H:_→_→_→_→_) sf (eI q0) sf (eI q1)),N1 (aU (y:=[58]) (fZ (P8 hi (by decide))) (N8 1):(lab v i++[58]).length≤7) (by decide),P4 1⟩
theorem Dj (h:free τ)(hr:aB size r)(hz:size<64)(hi:rows[i]?=some r){a b:Option PV}:Ev (n+2) (.ite (.cmp .Eq (.idx (.idx (.v 0) (.v 3)) (.c (.int 2))) (.c (.str [55357,56832]))) (.c (.str [34,128512,34])) (.call 33 (.cs (.idx (.v 0) (.v 3)) (.cs (.v 4) (.cs (.v 5) .nl))))) (gu rows B O v size σ.length (some (ag i)) a b none) τ (.ok (.str (lw v r)) τ)∧(lw v r).length≤300:=by
 have hL:∀ g∈r.gs,bp (nw v size) (.int g) τ=some (.str (lf v g))∧(lf v g).length≤20:=λ g m=>AU ((hr.gs.2 g m).imp id U9) hz
 have hc:Ev (n+2) (.cmp .Eq (.idx (.idx (.v 0) (.v 3)) (.c (.int 2))) (.c (.str [55357,56832]))) (gu rows B O v size σ.length (some (ag i)) a b none) τ (.ok (.bool (nD r)) τ):=gS (.inl ⟨_,_,v3 rfl rfl hi rfl,.inl ⟨_,_,dI,_,dl (FM hr.shal rfl),rfl⟩⟩)
 unfold lw
 cases q:nD r with
 | true =>
  rw [q] at hc
  exact ⟨dU (.inl ⟨_,_,hc,.inl ⟨rfl,dI⟩⟩),(show Eo.length≤300 by decide)⟩
 | false =>
  rw [q] at hc
  exact ⟨dU (.inl ⟨_,_,hc,.inr ⟨rfl,(cG (ov (a9 r) (ov (.str (o3 (lf v) (ao v) r)) [])) λ H=>(H:_→_→_) (cF (by refine ru (Q3) (ru hi ?_);rfl)) ((gy (n:=n) (blank:=ao v) h hr hL (aX (v:=v)))))⟩⟩),(v9 (lf:=lf v) (blank:=ao v) hr (λ g m=>(hL g m).2) (aX (v:=v)))⟩
set_option tactic.hygienic true in
theorem uF (hf:free σ)(hr:aB size r)(hz:size<60)(hi:rows[i]?=some r)(hn:rows.length=size){out:List (List Nat)}(ho:out.length<10000):∃ ρ'',St (n+2) fG (gu rows B O v size σ.length (some (ag i)) none none none) (aZ σ PV.str out) (.ok (.next ρ'') (aZ σ PV.str (out++oV v i r)))∧dg [3,8,9,10] ρ''=gu rows B O v size σ.length none none none none:=by
 have il:i<size:=ri hn ((O6.mp hi).1)
 refine (Bw (n:=n+2) (B:=B) (O:=O) (v:=v) (size:=size) (rows:=rows) (σ:=σ) (P8 il hz) (P8 ho (by decide))).elim λ HD w1z=>w1z.elim λ h8 p8=>?_
 refine (Dj (n:=n) (B:=B) (O:=O) (v:=v) (σ:=σ) (a:=some (.str (jK v i))) (b:=some (.int (w9 v i))) (br (vs:=(out++iV v i).map .str) hf (b6 (out++iV v i))) hr (P8 hz (by decide)) hi).elim λ E ol=>?_
 have r2:=pU (x:=w9 v i) (k:=1) (aX (v:=v)) (by decide)
 have R:St (n+2) Np (gu rows B O v size σ.length (some (ag i)) (some (.str (jK v i))) (some (.int (w9 v i))) none) (aZ σ PV.str (out++iV v i)) (.ok (.next (gu rows B O v size σ.length (some (ag i)) (some (.str (jK v i))) (some (.int (w9 v i))) (some (.str (lw v r))))) (aZ σ PV.str (out++oV v i r))):=by
  refine ri (N6 ..) ?_
  exact (be (.e (.str (lw v r))::(.l ((out++iV v i).map .str) []::(ov (a9 r) (aw 1 (.e (.str (bC (ao v) (lw v r)))::(.r .none (aZ σ PV.str (out++iV v i++[A5 v i r]))::[])))))) λ H=>(H:_→_→_→_→_→_→_→_→_→_→_→_→_→_→_) E bb (by decide) r2.2 (gd r2.1 h8 rfl) (gd (aU r2.1 h8) (aX (v:=v)) rfl) ((cF (by refine ru (Q3) (ru hi ?_);rfl):bp (.lst (rows.map a9)) (.int (i:Int)) (aZ σ PV.str (out++iV v i))=some (a9 r))) (gd (aU (aU r2.1 h8) (aX (v:=v))) (fW _ hr.mem) rfl) ((zq (n:=n+2) (k:=10) (τ:=aZ σ PV.str (out++iV v i)) (ρ:=gu rows B O v size σ.length (some (ag i)) (some (.str (jK v i))) (some (.int (w9 v i))) (some (.str (lw v r)))) (a:=.v 5) (dG rfl) (aX (v:=v)) (N1 ol (by decide)) rfl)) (gd (aU (aU (aU r2.1 h8) (aX (v:=v))) (fW _ hr.mem)) (jm (aX (v:=v)) ol) rfl) (by decide) ((pU (x:=w9 v i) (k:=2) (aX (v:=v)) (by decide)).2) (gd (aU (aU (aU (aU r2.1 h8) (aX (v:=v))) (fW _ hr.mem)) (jm (aX (v:=v)) ol)) (pU (x:=w9 v i) (k:=2) (aX (v:=v)) (by decide)).1 rfl) (bH (d:=PV.str) (by refine ru N5 ?_;exact S7 (Nat.add_lt_add_of_lt_of_le ho p8) (by decide):(out++iV v i).length<ax)))
 exact ⟨_,(be (ov (.str (lab v i)) (.k::(.s _::[]))) λ H=>(H:_→_→_→_→_→_→_) (nv (T3 il)) (gd (fZ (P8 (P8 il hz) (by decide))) (y:=[58]) (N8 1) rfl) (by decide) rfl (d4 (P8 (P8 il hz) (by decide))) (dD (.inl ⟨_,_,HD,R⟩))),rfl⟩
end
end
noncomputable section
noncomputable def bK (v:Int)(rows:List bo)(i:Nat):List (List Nat):=match rows[i]? with | some r=>oV v i r | none=>[]
noncomputable def cJ (v:Int)(cl:List Cl):List (List Nat):=cl.map λ c=>ao v++n7 (lf v) (ao v) c
noncomputable def j2 (v:Int)(cl:List Cl):List (List Nat):=[[],[47,47,97,58,32,116,101,120,116]]++(if v / 3 % 2=0 then [] else cJ v cl)
noncomputable def az (v:Int)(rows:List bo)(cl:List Cl):List (List Nat) :=
 j2 v cl++(List.range rows.length).flatMap (bK v rows)++[lab v rows.length++[58]]++[[116,104,101,101,110,100,58]]++(if v / 3 % 2=0 then cJ v cl else [])
section
variable {n size i:Nat} {v:Int} {A B O:PV} {rows:List bo} {cl:List Cl} {σ τ:aa}
theorem mS:(bK v rows i).length≤2:=by
 unfold bK
 cases rows[i]? with
 | none=>exact P4 2
 | some r =>
  refine ru N5 ?_
  refine P3 (?_:(iV v i).length≤1)
  unfold iV
  (repeat' split)<;>first | exact N8 1 | exact P4 1
theorem FH (is:List Nat):(is.flatMap (bK v rows)).length≤2*is.length:=by
 induction is with
 | nil=>exact N8 0
 | cons i is ih =>
  refine ru N5 (ru (z2c ..) (ru (W9 ..) ?_))
  exact R7 ih mS
theorem uG (hf:free σ)(hr:∀ r∈rows,aB rows.length r)(hz:rows.length<60)(is:List Nat)(hi:∀ i∈is,i<rows.length):∀ out:List (List Nat),out.length+2*is.length<10000→cE (St (n+2) fG) (b3 true [3]) [3,8,9,10] (is.map ag) (gu rows B O v rows.length σ.length none none none none) (aZ σ PV.str out) (.ok (.next (gu rows B O v rows.length σ.length none none none none)) (aZ σ PV.str (out++is.flatMap (bK v rows)))):=by
 induction is with
 | nil=>exact λ out Z9=>by refine ru List.flatMap_nil (ru (O3 ..) ?_);rfl
 | cons i is ih =>
  intro out ho
  have ho:out.length+(2*is.length+2)<10000:=ho
  have hc:=O4 (hi i N2)
  have hm:=U5 (hi i N2)
  revert hc hm
  generalize rows[i]'(hi i N2)=r
  intro hc hm
  obtain ⟨ρ'',s,e⟩:=uF (n:=n) (B:=B) (O:=O) (v:=v) hf (hr r hm) hz hc rfl (O0 (P1 _ _) ho)
  have k:=ih (λ i m=>hi i (N9 _ m)) (out++bK v rows i) (by have:=mS (v:=v) (rows:=rows) (i:=i);refine ru N5 ?_;(first | lia | omega))
  rw [N6] at k
  refine aF rfl s ?_
  refine ru e (ri (by unfold bK;exact ru hc rfl:bK v rows i=oV v i r) ?_)
  exact k
noncomputable def Kt (v:Int)(rows:List bo)(cl:List Cl)(l:Nat):am:=gu rows (.lst (cl.map cS)) (.lst ((cJ v cl).map .str)) v rows.length l none none none none
theorem d3:(0:Int)<3∧(3:Int)<1000000000000:=by decide
theorem d2:(0:Int)<2∧(2:Int)<2000000000000:=by decide
theorem pY:(cJ v cl).length=cl.length:=N3 _
noncomputable def NB (v:Int)(rows:List bo)(cl:List Cl):am:=[some (.lst (rows.map a9)),some (.lst (cl.map cS)),some (.int v),none,some (nw v rows.length),some (.str (ao v)),some (.lst ((cJ v cl).map .str)),none,none,none,none]
theorem EE (h:free σ)(hcz:cl.length≤60):∃ τ,free (σ++τ)∧St n (.asg 7 (.addl (.lst (.cs (.c (.str [])) (.cs (.c (.str [47,47,97,58,32,116,101,120,116])) .nl))) (.ite (.tru (.bin .Mod (.bin .FloorDiv (.v 2) (.c (.int 3))) (.c (.int 2)))) (.v 6) .nil))) (NB v rows cl) σ (.ok (.next (Kt v rows cl (σ++τ).length)) (aZ (σ++τ) PV.str (j2 v cl))):=by
 unfold j2
 by_cases q:v / 3 % 2=0
 ·refine ⟨[.lst []],br h rfl,?_⟩
  refine ru (if_pos q) ?_
  exact (be (ob false (.l [.str [],.str [47,47,97,58,32,116,101,120,116]] []::[])) λ H=>(H:_→_→_→_→_→_→_) d3 d2 ((by refine ru q ?_;rfl)) rfl bk (P9 rfl))
 ·refine ⟨[],by rwa [O3],?_⟩
  refine ru (if_neg q) (ru (O3 ..) ?_)
  unfold aZ
  refine ru P6 ?_
  exact (be (ob true (.l [.str [],.str [47,47,97,58,32,116,101,120,116]] ((cJ v cl).map PV.str)::[])) λ H=>(H:_→_→_→_→_→_→_) d3 d2 (congrArg some (bne_iff_ne.mpr q)) rfl rfl (by refine ru (N3 ..) (ru pY ?_);exact N1 (S5 hcz 2) (by decide)))
theorem C7 {mid:List (List Nat)}(hm:mid.length≤300)(hcz:cl.length≤60):∃ τ,St n (.ret (.addl (.addl (.v 7) (.lst (.cs (.c (.str [116,104,101,101,110,100,58])) .nl))) (.ite (.tru (.bin .Mod (.bin .FloorDiv (.v 2) (.c (.int 3))) (.c (.int 2)))) .nil (.v 6)))) (Kt v rows cl σ.length) (aZ σ PV.str mid) (.ok (.ret (.loc (aZ σ PV.str mid++τ).length)) (aZ (aZ σ PV.str mid++τ) PV.str (mid++[[116,104,101,101,110,100,58]]++(if v / 3 % 2=0 then cJ v cl else [])))):=by
 have z:(mid.map PV.str).length+1≤400:=by refine ru (N3 ..) ?_;exact N1 (P3 hm) (by decide)
 by_cases q:v / 3 % 2=0
 ·refine ⟨[aN.lst ((mid++[[116,104,101,101,110,100,58]]).map PV.str)],?_⟩
  refine ru (if_pos q) ?_
  unfold aZ
  refine ru (P6 (l₁:=mid++_)) (ru P6 ?_)
  exact (be (.l (mid.map PV.str) [PV.str [116,104,101,101,110,100,58]]::(ob false (.l (mid.map PV.str++[PV.str [116,104,101,101,110,100,58]]) ((cJ v cl).map PV.str)::[]))) λ H=>(H:_→_→_→_→_→_→_→_→_→_) bk rfl (N1 z (by decide)) d3 d2 ((by refine ru q ?_;rfl)) bk rfl (by (refine ru N5 ?_;rewrite [N3 (as:=cJ v cl)];refine ru pY ?_);exact N1 (R7 z hcz) (by decide)))
 ·refine ⟨[aN.lst ((mid++[[116,104,101,101,110,100,58]]).map PV.str),aN.lst []],?_⟩
  refine ru (if_neg q) (ru (O3 ..) ?_)
  unfold aZ
  refine ru P6 ?_
  have e:∀ x y:aN,σ++[aN.lst (mid.map PV.str)]++[x,y]=σ++[aN.lst (mid.map PV.str)]++[x]++[y]:=λ x y=>by rw [N6 (σ++_)];rfl
  refine ru (e ..) ?_
  have R:=(be (n:=n) (s:=.ret (.addl (.addl (.v 7) (.lst (.cs (.c (.str [116,104,101,101,110,100,58])) .nl))) (.ite (.tru (.bin .Mod (.bin .FloorDiv (.v 2) (.c (.int 3))) (.c (.int 2)))) .nil (.v 6)))) (ρ:=Kt v rows cl σ.length) (σ:=σ++[aN.lst (mid.map PV.str)]) (r:=.ok (.ret (.loc (σ++[aN.lst (mid.map PV.str)]++[aN.lst (mid.map PV.str++[PV.str [116,104,101,101,110,100,58]])]++[aN.lst []]).length)) (σ++[aN.lst (mid.map PV.str)]++[aN.lst (mid.map PV.str++[PV.str [116,104,101,101,110,100,58]])]++[aN.lst []]++[aN.lst (mid.map PV.str++[PV.str [116,104,101,101,110,100,58]]++[])])) (.l (mid.map PV.str) [PV.str [116,104,101,101,110,100,58]]::(ob true (.l (mid.map PV.str++[PV.str [116,104,101,101,110,100,58]]) []::[]))) λ H=>(H:_→_→_→_→_→_→_→_→_→_) bk rfl (N1 z (by decide)) d3 d2 (congrArg some (bne_iff_ne.mpr q)) ((bL (τ:=[aN.lst []]) (bk (σ:=σ++[aN.lst (mid.map PV.str)]) (vs:=mid.map PV.str++[PV.str [116,104,101,101,110,100,58]])))) bk (N1 (P0 (congrArg (·+0) N5)) (N1 z (by decide))))
  rw [O3 (as:=mid.map PV.str++_)] at R
  exact R
end
end
noncomputable section
section
variable {n:Nat} {v:Int} {rows:List bo} {cl:List Cl} {σ τ:aa}
theorem BI {i:Nat}{vs:List PV}(h:free σ)(e:τ[i]?=some (.lst vs))(hv:noLocs vs=true):fq true σ.length (.ok (.ret (.loc (σ.length+i))) (σ++τ)) (.ok (.loc σ.length) (σ++[.lst vs])):=by
 refine ⟨(.loc σ.length,σ++[.lst vs]),?_,rfl⟩
 unfold gA
 refine ru (if_pos (kf h)) ?_
 show (if σ.length+i<σ.length then _ else ((σ++τ)[σ.length+i]?).bind _)=_
 refine ru (if_neg (W5.mpr (P1 _ _))) (ru (fp ..) (ru e ?_))
 show (if noLocs vs=true then _ else _)=_
 exact ru (if_pos hv) (ru X4 rfl)
theorem y3:bp (.tup [.str [32],.str [32,32],.str [9,32]]) (.int (v % 3)) σ=some (.str (ao v)):=mI (P:=λ k=>bp (.tup [.str [32],.str [32,32],.str [9,32]]) (.int k) σ=some (.str (if k=0 then [32] else if k=1 then [32,32] else [9,32]))) v (k:=3) (by decide) (bm (bm (bm kK rfl) rfl) rfl)
theorem oH (h:free σ)(hr:∀ r∈rows,aB rows.length r)(hc:∀ c∈cl,aO rows.length c)(hz:rows.length≤59)(hcz:cl.length≤60):ar (n+3) 35 [.lst (rows.map a9),.lst (cl.map cS),.int v] σ (.ok (.loc σ.length) (σ++[.lst ((az v rows cl).map .str)])):=by
 have hn:∀ τ,(jE τ (.lst (rows.map a9))).map (λ n:Nat=>PV.int (n:Int))=some (ag rows.length):=λ τ=>congrArg (λ k:Nat=>some (ag k)) (N3 _)
 have T1:=eA (T:=e7 (ΓS (n+2)) (.bin .Add (.idx (.g 33) (.bin .Mod (.bin .Add (.v 2) (.v 11)) (.c (.int 7)))) (.fn .str (.v 11))) .nl true 1 [false,false,true,false,false,false,false,false,false,false,false] [some (.lst (rows.map a9)),some (.lst (cl.map cS)),some (.int v),none,none,none,none,none,none,none,none] σ) (g:=ag) (r:=λ i=>.str (lab v i)) (List.range (rows.length+1)) λ i m=>by
  have i60:i<60:=S7 (R4.mp m) (P3 hz)
  exact ⟨_,rfl,_,rfl,(cG (ov (.str (kO.getD ((v+(i:Int)) % 7).toNat [])) []) λ H=>(H:_→_→_→_→_) (by decide) ((qm (v+(i:Int))).2 σ) (d4 (P8 i60 (by decide))) (gd (qm (v+(i:Int))).1 (et i (P8 i60 (by decide))) rfl))⟩
 rw [show ((List.range (rows.length+1)).map λ i=>PV.str (lab v i))=((List.range (rows.length+1)).map (lab v)).map .str from T0.symm] at T1
 have T2:=eA (T:=e7 (ΓS (n+2)) (.bin .Add (.v 5) (.call 34 (.cs (.v 11) (.cs (.v 4) (.cs (.v 5) .nl))))) .nl true 1 [false,false,false,false,true,true,false,false,false,false,false] [some (.lst (rows.map a9)),some (.lst (cl.map cS)),some (.int v),none,some (nw v rows.length),some (.str (ao v)),none,none,none,none,none] σ) (g:=cS) (r:=λ c=>.str (ao v++n7 (lf v) (ao v) c)) cl λ c m=>by
  have hL:∀ g∈aA c,bp (nw v rows.length) (.int g) σ=some (.str (lf v g))∧(lf v g).length≤20:=λ g hg=>AU (bu (hc c m) g hg) (O0 hz (by decide))
  exact ⟨_,rfl,_,rfl,(cG (ov (.str (n7 (lf v) (ao v) c)) []) λ H=>(H:_→_→_) (gX (n:=n+1) h (hc c m) hL (aX (v:=v))) (gd (aX (v:=v)) (xt (hc c m) (λ g hg=>(hL g hg).2) (aX (v:=v))) rfl))⟩
 rw [show (cl.map λ c=>PV.str (ao v++n7 (lf v) (ao v) c))=(cJ v cl).map .str from T0.symm] at T2
 obtain ⟨τ1,f1,B⟩:=EE (n:=n+2) (v:=v) (rows:=rows) h hcz
 have bl:(j2 v cl).length≤62:=by
  refine ru N5 ?_
  refine R7 (N8 2) (?_:_≤60)
  split
  ·exact P4 _
  ·refine ru pY ?_;exact hcz
 have fl:=FH (v:=v) (rows:=rows) (List.range rows.length)
 rw [Q4] at fl
 have mz:(j2 v cl++(List.range rows.length).flatMap (bK v rows)).length≤180:=by refine ru N5 ?_;exact R7 bl (N1 fl (U3 2 hz):((List.range rows.length).flatMap (bK v rows)).length≤118)
 obtain ⟨τ2,R⟩:=C7 (n:=n+2) (v:=v) (rows:=rows) (cl:=cl) (σ:=σ++τ1) (mid:=j2 v cl++(List.range rows.length).flatMap (bK v rows)++[lab v rows.length++[58]]) (by refine ru N5 ?_;exact N1 (P3 mz) (by decide)) hcz
 have lz:rows.length<60:=Q8 hz
 have TL:St (n+2) (.sq (.forr true [3] (.fn .range (.fn .len (.v 0))) fG [3,8,9,10]) (.sq (.expr (.m1 .append (.v 7) (.bin .Add (.idx (.v 4) (.fn .len (.v 0))) (.c (.str [58]))))) (.sq (.ret (.addl (.addl (.v 7) (.lst (.cs (.c (.str [116,104,101,101,110,100,58])) .nl))) (.ite (.tru (.bin .Mod (.bin .FloorDiv (.v 2) (.c (.int 3))) (.c (.int 2)))) .nil (.v 6)))) .sk))) (Kt v rows cl (σ++τ1).length) (aZ (σ++τ1) PV.str (j2 v cl)) _ :=
  (be (ov (ag rows.length) (.n (Kt v rows cl (σ++τ1).length) (aZ (σ++τ1) PV.str (j2 v cl++(List.range rows.length).flatMap (bK v rows)))::(.l ((j2 v cl++(List.range rows.length).flatMap (bK v rows)).map PV.str) []::(ov (ag rows.length) (ov (.str (lab v rows.length)) (.r .none (aZ (σ++τ1) PV.str (j2 v cl++(List.range rows.length).flatMap (bK v rows)++[lab v rows.length++[58]]))::(.s _::[]))))))) λ H=>(H:_→_→_→_→_→_→_→_→_→_) (hn _) (⟨Q7 _,R8.mpr (P8 lz (by decide:60<2 ^ 40))⟩) ((uG (n:=n) (B:=.lst (cl.map cS)) (O:=.lst ((cJ v cl).map .str)) (v:=v) f1 hr (Q8 hz) (List.range rows.length) (λ i m=>R4.mp m) (j2 v cl) (by refine ru Q4 ?_;exact O0 (R7 bl (U3 2 hz)) (by decide)))) bb (hn _) (nv (N8 _)) (gd (fZ (P8 lz (by decide))) (y:=[58]) (N8 1) rfl) ((bH (d:=PV.str) (O0 mz (by decide)):q9 (aZ (σ++τ1) PV.str (j2 v cl++(List.range rows.length).flatMap (bK v rows))) (.loc (σ++τ1).length) (.str (lab v rows.length++[58]))=some (.none,aZ (σ++τ1) PV.str (j2 v cl++(List.range rows.length).flatMap (bK v rows)++[lab v rows.length++[58]])))) (kn R trivial))
 refine (al rfl rfl (ov (ag rows.length) (.l (((List.range (rows.length+1)).map (lab v)).map PV.str) []::(ov (.str (ao v)) (.l ((cJ v cl).map PV.str) []::(.s _::[]))))) λ H=>(H:_→_→_→_→_→_→_→_→_→_) (hn _) (⟨Q7 (rows.length+1),R8.mpr (O0 lz (by decide:60<2 ^ 40))⟩) T1 (by refine ru (N3 ..) (ru (N3 ..) (ru Q4 ?_));exact N1 lz (by decide)) (by decide) y3 T2 (by refine ru (N3 ..) (ru pY ?_);exact N1 hcz (by decide)) (dD (.inl ⟨_,_,B,TL⟩)) _ ?_)
 have e:∀ m:List (List Nat),aZ (σ++τ1) PV.str m++τ2=σ++(τ1++[.lst (m.map .str)]++τ2):=λ m=>by unfold aZ;exact ru (N6 ..) (ru (N6 ..) (ru (N6 ..) rfl))
 refine ru (e ..) ?_
 generalize τ1++[aN.lst _]++τ2=Y
 unfold aZ
 refine ru (N6 ..) (ru N5 ?_)
 exact BI h S9 (b6 _)
end
end
noncomputable section
section
variable {size:Nat} {r:bo}
theorem aB.sw_shape (h:aB size r)(s:af r.op=6):r.n=.tup (r.gs.map .int)∧r.gs.length≤3∧∀ g∈r.gs,0≤g∧g<(size:Int):=by
 have sh:=h.sh
 rw [s] at sh
 exact ⟨sh.1,sh.2.2⟩
theorem aB.jump_shape (h:aB size r)(s:af r.op=5):∃ g,r.n=.int g∧r.gs=[g]∧0≤g∧g<(size:Int):=by
 have sh:=h.sh
 rw [s] at sh
 exact sh.imp λ g h=>⟨h.1,h.2.1,h.2.2.1⟩
theorem aB.text_shape (h:aB size r)(s:af r.op=10):∃ t,r.n=.str t∧t∈jj:=by
 have sh:=h.sh
 rw [s] at sh
 exact sh.imp λ g h=>⟨h.1,h.2.1⟩
theorem aB.cs {motive:(r:bo)→aB size r→Prop}
  (plain:∀ {w o} (a:(w,o)∈bV) (b:af o=0) (h:aB size ⟨o,w,.int 0,[],[]⟩),motive ⟨o,w,.int 0,[],[]⟩ h)
  (num:∀ {w o i pre} (a:(w,o)∈bV) (b:1≤af o) (c:af o≤4) (d:ew (af o)≤i) (e:i≤ey (af o)) (f:eN pre i) (h:aB size ⟨o,w,.int i,pre++aL i,[]⟩),motive ⟨o,w,.int i,pre++aL i,[]⟩ h)
  (jump:∀ {w o g} (a:(w,o)∈bV) (b:af o=5) (c:0≤g) (d:g<(size:Int)) (h:aB size ⟨o,w,.int g,[],[g]⟩),motive ⟨o,w,.int g,[],[g]⟩ h)
  (sw:∀ {w o gs} (a:(w,o)∈bV) (b:af o=6) (c:gs.length≤3) (d:∀ g∈gs,0≤g∧g<(size:Int)) (h:aB size ⟨o,w,.tup (gs.map .int),[],gs⟩),motive ⟨o,w,.tup (gs.map .int),[],gs⟩ h)
  (named:∀ {w o v k} (a:(w,o)∈bV) (b:af o=7∨af o=8∨af o=9∨af o=11) (c:(k,v)∈aI (af o)) (d:aT (aI (af o)) v=some k) (h:aB size ⟨o,w,v,k,[]⟩),motive ⟨o,w,v,k,[]⟩ h)
  (text:∀ {w o t} (a:(w,o)∈bV) (b:af o=10) (c:t∈jj) (h:aB size ⟨o,w,.str t,[],[]⟩),motive ⟨o,w,.str t,[],[]⟩ h) (r:bo) (h:aB size r):motive r h:=by
 obtain ⟨op,nm,v,wd,gs⟩:=r
 have hm:=h.mem
 have sh:=h.sh
 dsimp only at hm sh
 have nu:∀ k,af op=k→1≤k→k≤4→(gs=[]∧∃ i pre,v=.int i∧wd=pre++aL i∧eN pre i∧ew k≤i∧i≤ey k)→motive ⟨op,nm,v,wd,gs⟩ h:=λ k e h1 h4 w=>by
  obtain ⟨rfl,i,pre,rfl,rfl,p,a,b⟩:=w
  subst e
  exact num hm h1 h4 a b p h
 have nm:∀ k,af op=k→(k=7∨k=8∨k=9∨k=11)→(gs=[]∧(wd,v)∈aI k∧aT (aI k) v=some wd)→motive ⟨op,nm,v,wd,gs⟩ h:=λ k e hk w=>by
  obtain ⟨rfl,a,b⟩:=w
  subst e
  exact named hm hk a b h
 refine sg (P:=λ s=>af op=s→gp size v wd gs s→motive ⟨op,_,v,wd,gs⟩ h) (jq _ hm) (λ e w=>?_) (λ e w=>nu 1 e (by decide) (by decide) w) (λ e w=>nu 2 e (by decide) (by decide) w) (λ e w=>nu 3 e (by decide) (by decide) w) (λ e w=>nu 4 e (by decide) (by decide) w) (λ e w=>?_) (λ e w=>?_) (λ e w=>nm 7 e (.inl rfl) w) (λ e w=>nm 8 e (.inr (.inl rfl)) w) (λ e w=>nm 9 e (.inr (.inr (.inl rfl))) w) (λ e w=>?_) (λ e w=>nm 11 e (.inr (.inr (.inr rfl))) w) rfl sh
 ·obtain ⟨rfl,rfl,rfl⟩:=w;exact plain hm e h
 ·obtain ⟨g,rfl,rfl,g1,rfl⟩:=w;exact jump hm e g1.1 g1.2 h
 ·obtain ⟨rfl,rfl,a,b⟩:=w;exact sw hm e a b h
 ·obtain ⟨t,rfl,ht,rfl,rfl⟩:=w;exact text hm e ht h
end
theorem Bj {r:bo}:nD r=match r.n with | .str t=>t==KB | _=>false:=by
 unfold nD
 cases r.n with
 | str t =>
  show (aG t==aG KB)=(t==KB)
  exact z0o.mpr (beq_iff_eq.trans (Iff.trans ⟨λ q=>cU q,congrArg aG⟩ beq_iff_eq.symm))
 | _=>rfl
end
noncomputable section
theorem Id (a b c d:List Nat):a++b++c++d=a++(b++(c++d)):=(N6 (a++b) c d).trans (N6 a b (c++d))
theorem Lg (a b c d e:List Nat):a++b++c++d++e=a++(b++(c++(d++e))):=(N6 (a++b++c) d e).trans (Id a b c (d++e))
theorem NL (a b c d e f:List Nat):a++b++c++d++e++f=a++(b++(c++(d++(e++f)))):=(N6 (a++b++c++d) e f).trans (Lg a b c d (e++f))
theorem NK (a b c d e f g:List Nat):a++b++c++d++e++f++g=a++(b++(c++(d++(e++(f++g))))):=(N6 (a++b++c++d++e) f g).trans (NL a b c d e (f++g))
theorem Nc (a b c d e f g h:List Nat):a++b++c++d++e++f++g++h=a++(b++(c++(d++(e++(f++(g++h)))))):=(N6 (a++b++c++d++e++f) g h).trans (NK a b c d e f (g++h))
theorem Nb (a b c d e f g h i:List Nat):a++b++c++d++e++f++g++h++i=a++(b++(c++(d++(e++(f++(g++(h++i))))))):=(N6 (a++b++c++d++e++f++g) h i).trans (Nc a b c d e f g (h++i))
theorem Ie (a b c d e f g h i j:List Nat):a++b++c++d++e++f++g++h++i++j=a++(b++(c++(d++(e++(f++(g++(h++(i++j)))))))):=(N6 (a++b++c++d++e++f++g++h) i j).trans (Nb a b c d e f g h (i++j))
theorem MA (a b c d e f g h i j k:List Nat):a++b++c++d++e++f++g++h++i++j++k=a++(b++(c++(d++(e++(f++(g++(h++(i++(j++k))))))))):=(N6 (a++b++c++d++e++f++g++h++i) j k).trans (Ie a b c d e f g h i (j++k))
theorem KN (a b c d e f g h i j k l:List Nat):a++b++c++d++e++f++g++h++i++j++k++l=a++(b++(c++(d++(e++(f++(g++(h++(i++(j++(k++l)))))))))):=(N6 (a++b++c++d++e++f++g++h++i++j) k l).trans (MA a b c d e f g h i j (k++l))
end
noncomputable section
noncomputable def a8 (s:List Nat):Bool:=match s.head?,s.getLast? with
 | some a,some b=>!sp a&&!sp b
 | _,_=>false
noncomputable def bA (s:List Nat):Bool:=s.all sp
theorem nX {p:Nat→Bool}:∀ {a:List Nat} {s:List Nat},a.all p=true→(a++s).dropWhile p=s.dropWhile p
 | [],s,_=>rfl
 | x::a,s,h=>by
  simp only [Y9,X5] at h
  refine ru z0i (ru z2t (ru (if_pos h.1) ?_))
  exact nX h.2
theorem qH {p:Nat→Bool}{x:Nat}{s:List Nat}(h:p x=false):(x::s).dropWhile p=x::s:=by
 exact ru z2t (ru (if_neg (by rw [h];decide)) rfl)
set_option tactic.hygienic true in
theorem ja {s:List Nat}(h:a8 s=true):(∃ x r,s=x::r∧sp x=false)∧∃ r y,s=r++[y]∧sp y=false:=by
 unfold a8 at h
 split at h
 ·rename_i a b h1 h2
  simp only [X5,U2] at h
  constructor
  ·cases s with
   | nil=>cases h1
   | cons x r=>simp at h1;subst h1;exact ⟨x,r,rfl,h.1⟩
  ·rcases z2e s with rfl | ⟨r,y,rfl⟩
   ·cases h1
   ·simp at h2;subst h2;exact ⟨r,y,by simp,h.2⟩
 ·cases h
theorem gI {a s b:List Nat}(ha:bA a=true)(hs:a8 s=true)(hb:bA b=true):av (a++s++b)=s:=by
 obtain ⟨⟨x,r,e1,h1⟩,r2,y,e2,h2⟩:=ja hs
 refine ru (kj ..) (ru (N6 ..) (ru (nX ha) ?_))
 refine ru (by refine ru e1 (ru z0i ?_);exact qH h1:(s++b).dropWhile sp=s++b) (ru z2p (ru (nX (by refine ru List.all_reverse ?_;exact hb:b.reverse.all sp=true)) ?_))
 exact ru (by refine ru e2 (ru z2p ?_);exact qH h2:s.reverse.dropWhile sp=s.reverse) (ru (z2i ..) rfl)
theorem jn {a:List Nat}(ha:bA a=true):av a=[]:=by
 have:=nX (s:=[]) ha
 rw [O3] at this
 refine ru (kj ..) (ru this ?_);rfl
theorem bO {s:List Nat}(hs:a8 s=true):av s=s:=by
 have:=gI (a:=[]) (b:=[]) rfl hs rfl
 simpa using this
theorem BA {w rest:List Nat}(hw:w.all nb=true)(hr:rest=[]∨∃ c r,rest=c::r∧nb c=false):ac (w++rest)=(w,av rest):=by
 have t1:∀ {w:List Nat},w.all nb=true→(w++rest).takeWhile nb=w:=by
  intro w
  induction w with
  | nil =>
   intro _
   rcases hr with rfl | ⟨c,r,rfl,hc⟩
   ·rfl
   ·exact ru (z1m ..) (ru z0t (ru (if_neg (by rw [hc];decide)) rfl))
  | cons x a ih =>
   intro h
   have h:=N4.mp (show (nb x&&a.all nb)=true from h)
   exact ru z0i (ru z0t (ru (if_pos h.1) (ru (ih h.2) rfl)))
 have t2:(w++rest).dropWhile nb=rest:=by
  refine ru (nX hw) ?_
  rcases hr with rfl | ⟨c,r,rfl,hc⟩
  ·rfl
  ·exact qH hc
 unfold ac
 exact ru (t1 hw) (ru t2 rfl)
end
noncomputable section
noncomputable def CA (c:Nat):Bool:=c !=10&&decide (c<1114112)
noncomputable def cN (n:Nat)(l:List Nat):Prop:=l.length≤n∧l.all CA=true
theorem aD {a b:Nat}{x y:List Nat}(hx:cN a x)(hy:cN b y):cN (a+b) (x++y) :=
 ⟨N1 (P0 N5) (R7 hx.1 hy.1),X9.trans (N4.mpr ⟨hx.2,hy.2⟩)⟩
theorem dh {a b:Nat}{x:List Nat}(hx:cN a x)(h:Nat.ble a b=true):cN b x:=⟨N1 hx.1 (P9 h),hx.2⟩
theorem fo {n:Nat}{x:List Nat}(h:(Nat.ble x.length n&&x.all CA)=true):cN n x:=⟨P9 (aj h),(aE h)⟩
theorem jd {n:Nat}:cN n []:=⟨P4 _,rfl⟩
theorem FT {c:Nat}(h:CA c=true):c≠10∧c<1114112:=⟨bne_iff_ne.mp (aj h),of_decide_eq_true (aE h)⟩
theorem xw {n:Nat}{x:List Nat}(h:cN n x):10∉x∧∀ c∈x,c<1114112 :=
 ⟨λ m=>(FT (O2.mp h.2 _ m)).1 rfl,λ c m=>(FT (O2.mp h.2 _ m)).2⟩
noncomputable def Ju (c:Nat):Bool:=!sp c&&(c !=44)&&(nb c&&(47 !=c))&&CA c
theorem uJ:jD.all Ju=true:=by decide +kernel
theorem jG {l:List Nat}(h:ak l=true):l≠[]:=λ e=>ff (show ak []=true from ri e h)
theorem gL {l:List Nat}(h:ak l=true)(c:Nat)(m:c∈l):Ju c=true:=O2.mp uJ c (X1.mp (O2.mp (aE h) c m))
theorem sC {l:List Nat}(h:ak l=true)(c:Nat)(m:c∈l):sp c=false:=(U2 _).mp (aj (aj (aj (gL h c m))))
theorem A8 {l:List Nat}(h:ak l=true):44∉l:=λ m=>bne_iff_ne.mp (aE (aj (aj (gL h _ m)))) rfl
theorem A7 {l:List Nat}(h:ak l=true):l.all nb=true:=O2.mpr λ c m=>(aj (aE (aj (gL h c m))))
theorem tP {n:Nat}{l:List Nat}(h:ak l=true)(hn:l.length≤n):cN n l:=⟨hn,O2.mpr λ c m=>(aE (gL h c m))⟩
set_option genCtorIdx true in
inductive Ir where
 | nil | row (op:Nat) (rest:List Nat) | cl (ws:List (List Nat))
structure Ln where
 labs:List (List Nat)
 act:Ir
noncomputable def kq:ae→List (List Nat)→Option ae
 | p,[]=>some p
 | p,l::r=>match aP p l with
  | some p'=>kq p' r
  | none=>none
noncomputable def Ii (p:ae)(num:Nat):Ir→ae
 | .nil=>p
 | .row op rest=>{ p with rows:=p.rows++[(num,op,rest)] }
 | .cl ws=>{ p with cls:=p.cls++[(num,ws)] }
inductive bF:List Nat→Ln→Prop
 | nil:bF [] ⟨[],.nil⟩
 | comment {s:List Nat}:du (ac s).1=true→bF s ⟨[],.nil⟩
 | row {s w rest:List Nat} {o:Nat}:(w,o)∈bV→ac s=(w,rest)→bF s ⟨[],.row o rest⟩
 | cl {s rest:List Nat}:ac s=(fj,rest)→bF s ⟨[],.cl (ai rest)⟩
 | lab {s l r:List Nat} {ln:Ln}:ak l=true→ac s=(l++[58],r)→bF r ln→bF s ⟨l::ln.labs,ln.act⟩
theorem dE:∀ q∈bV,lE q.1=false∧du q.1=false∧q.1≠fj∧q.1≠[]∧aM q.1 bV=some q.2∧q.1.all nb=true∧a8 q.1=true:=by decide +kernel
noncomputable def kQ (w:List Nat):Bool:=lE w&&!du w
theorem A9 {l:List Nat}(h:ak l=true):kQ (l++[58])=true:=by
 have e:lE (l++[58])=true:=(congrArg (·==some 58) z0p).trans rfl
 unfold kQ
 refine ru e ?_
 have n:=jG h
 have hi:=gL h
 revert n hi
 cases l with
 | nil=>exact λ n=>absurd rfl n
 | cons a r=>
  exact λ Z9 hi=>by
   show (!((47==a)&&_))=true
   refine ru (bne_iff_ne.mp (aE (aE (aj (hi a N2)))) |> beq_false_of_ne) ?_
   rfl
section
variable {p p' q:ae} {s:List Nat} {num n:Nat}
theorem rR (h:kQ (ac s).1=false):dX (n+1) p s num=some (iT p num (ac s).1 (ac s).2):=by
 unfold dX
 exact ru (show fF (n+1) p (ac s).1 (ac s).2=some (.ok (p,(ac s).1,(ac s).2)) from if_neg (show ¬ kQ (ac s).1=true by rw [h];exact S8)) rfl
theorem oW (h:kQ (ac s).1=true)(hp:aP p (ac s).1.dropLast=some p'):dX (n+1) p s num=dX n p' (ac s).2 num:=by
 unfold dX
 exact ru (show fF (n+1) p (ac s).1 (ac s).2=fF n p' (ac (ac s).2).1 (ac (ac s).2).2 from (if_pos h).trans (by rw [hp])) rfl
theorem kp (h:kQ (ac s).1=true)(hp:aP p (ac s).1.dropLast=none):dX (n+1) p s num=some (.error (c7,p)):=by
 unfold dX
 exact ru (show fF (n+1) p (ac s).1 (ac s).2=some (.error (c7,p)) from (if_pos h).trans (by rw [hp])) rfl
theorem jt {x:Except (List Nat×ae) ae}(h:dX (s.length+1) p s num=some x):fc p s num=x:=by unfold fc;refine ru h ?_;rfl
theorem pT {m:Nat}(hn:m<n)(h:kQ (ac s).1=false)(e:iT p num (ac s).1 (ac s).2=.ok q):dX n p s num=some (.ok q):=by
 cases n with
 | zero=>exact absurd hn (X8 _)
 | succ n=>exact (rR h).trans (congrArg some e)
theorem DD {ln:Ln}(h:bF s ln):∀ {p p':ae} {n:Nat},(ac s).1.length+(ac s).2.length<n→kq p ln.labs=some p'→dX n p s num=some (.ok (Ii p' num ln.act)):=by
 induction h with
 | nil=>exact λ hn hp=>ri (Option.some.inj hp) (pT hn rfl rfl)
 | comment hs=>exact λ hn hp=>ri (Option.some.inj hp) (pT hn (by unfold kQ;refine ru hs ?_;exact z1s _) (if_pos (by refine ru hs ?_;exact Z4 _)))
 | row ho hf=>
  exact λ hn hp=>Option.some.inj hp▸pT hn (by unfold kQ;refine ru hf ?_;exact congrArg (·&&_) (dE _ ho).1) (by
   refine ru hf ?_
   exact (if_neg λ q=>(P5.mp q).elim (λ q=>(dE _ ho).2.2.2.1 (of_decide_eq_true q)) λ q=>ff ((dE _ ho).2.1.symm.trans q)).trans ((if_neg (dE _ ho).2.2.1).trans (by refine ru ((dE _ ho).2.2.2.2.1) ?_;rfl)))
 | cl hf=>exact λ hn hp=>ri (Option.some.inj hp) (pT hn (by refine ru hf ?_;rfl) (by refine ru hf ?_;rfl))
 | @lab s l r ln hl hf h ih =>
  intro p p' n
  cases n with
  | zero=>exact λ hn=>absurd hn (X8 _)
  | succ n =>
   show _→(match aP p l with | some p'=>kq p' ln.labs | none=>none)=_→_
   cases hq:aP p l with
   | none=>exact λ Z9 hp=>nN hp
   | some p1=>
    exact λ hn hp=>(oW (p':=p1) (by refine ru hf ?_;exact A9 hl) (by refine ru hf ?_;exact (congrArg (aP p) List.dropLast_concat).trans hq)).trans (by
     rw [hf] at hn ⊢
     exact ih (O0 (i7 r) (S7 (Nat.lt_add_of_pos_left (List.length_pos_iff.mpr (U1 _ (R5 _ _)))) (Y5 hn))) hp)
theorem AT {ln:Ln}(h:bF s ln)(hp:kq p ln.labs=some p'):fc p s num=.ok (Ii p' num ln.act):=jt (DD h (Q8 (i7 s)) hp)
end
end
noncomputable section
noncomputable def aR:Ir→List (Nat×List Nat)
 | .row op rest=>[(op,rest)]
 | _=>[]
noncomputable def aC:Ir→List (List (List Nat))
 | .cl ws=>[ws]
 | _=>[]
noncomputable def cx:Nat→List Ln→List (Nat×Nat×List Nat)
 | _,[]=>[]
 | k,ln::r=>(aR ln.act).map (k+1,·)++cx (k+1) r
noncomputable def e8:Nat→List Ln→List (Nat×List (List Nat))
 | _,[]=>[]
 | k,ln::r=>(aC ln.act).map (k+1,·)++e8 (k+1) r
noncomputable def a6:Nat→List Ln→List (List Nat×Nat)
 | _,[]=>[]
 | c,ln::r=>ln.labs.map (·,c)++a6 (c+(aR ln.act).length) r
noncomputable def bU (lns:List Ln):List (List Nat):=lns.flatMap (·.labs)
noncomputable def bx (lns:List Ln):List (Nat×List Nat):=lns.flatMap λ ln=>aR ln.act
noncomputable def gD (lns:List Ln):List (List (List Nat)):=lns.flatMap λ ln=>aC ln.act
theorem wm {α β:Type}{l:List α}{c:β}:(l.map (·,c)).map (·.1)=l:=T0.trans (Y6 _)
theorem wj {α β:Type}{l:List α}{c:β}:(l.map (c,·)).map (·.2)=l:=T0.trans (Y6 _)
theorem eu:∀ (lns:List Ln) (k:Nat),(cx k lns).map (·.2)=bx lns
 | [],_=>rfl
 | ln::r,k=>P6.trans (congr (congrArg (·++·) wj) (eu r (k+1)))
theorem fL:∀ (lns:List Ln) (k:Nat),(e8 k lns).map (·.2)=gD lns
 | [],_=>rfl
 | ln::r,k=>P6.trans (congr (congrArg (·++·) wj) (fL r (k+1)))
theorem eU:∀ (lns:List Ln) (c:Nat),(a6 c lns).map (·.1)=bU lns
 | [],_=>rfl
 | ln::r,c=>P6.trans (congr (congrArg (·++·) wm) (eU r _))
theorem gZ (a b:List Ln):bU (a++b)=bU a++bU b:=V6
theorem hP (a b:List Ln):bx (a++b)=bx a++bx b:=V6
theorem tM (a b:List Ln):gD (a++b)=gD a++gD b:=V6
theorem iS (lns:List Ln)(k:Nat):(cx k lns).length=(bx lns).length:=(N3 ..).symm.trans (congrArg List.length (eu lns k))
theorem b8:∀ (a b:List Ln) (c:Nat),a6 c (a++b)=a6 c a++a6 (c+(bx a).length) b
 | [],b,c=>rfl
 | ln::r,b,c=>by
  show _++a6 (c+(aR ln.act).length) (r++b)=_++a6 (c+(aR ln.act).length) r++a6 (c+(aR ln.act++bx r).length) b
  (rewrite [b8 r b];exact ru (N6 ..) (ru N5 (ru (z1v ..) rfl)))
theorem k7 {k:List Nat}{v:Nat}:∀ {l:List (List Nat×Nat)},(l.map (·.1)).Nodup→(k,v)∈l→aM k l=some v
 | [],_,h=>o4 h
 | q::r,hn,h=>(Q2.mp h).elim (λ e=>ri e (if_pos rfl)) λ m =>
   (if_neg λ e:k=q.1=>(Q9.mp hn).1 (S0.mpr ⟨(k,v),m,e⟩)).trans (k7 (Q9.mp hn).2 m)
theorem x8 (ls:List (List Nat)):∀ {p:ae},(∀ l∈ls,ak l=true)→(p.labs.map (·.1)++ls).Nodup→kq p ls=some { p with labs:=p.labs++ls.map (·,p.rows.length) }:=by
 induction ls with
 | nil=>exact λ {p} _ _=>congrArg (λ l=>some ({ p with labs:=l }:ae)) (O3 p.labs).symm
 | cons l r ih =>
  intro p hv hn
  have hp:aP p l=some { p with labs:=p.labs++[(l,p.rows.length)] }:=if_neg (by
   refine ru (hv l (.head _)) (ru (i8 λ m=>(Q0.mp hn).2.2 l m l (.head _) rfl) ?_)
   exact S8)
  show (match aP p l with | some p'=>kq p' r | none=>none)=_
  refine ru hp ?_
  exact (ih (λ x m=>hv x (.tail _ m)) (by refine ru P6 (ru (N6 ..) ?_);exact hn)).trans (congrArg (λ l=>some ({ p with labs:=l }:ae)) (N6 ..))
theorem y8 (p:ae)(num:Nat)(a:Ir):Ii p num a=⟨p.rows++(aR a).map (num,·),p.labs,p.cls++(aC a).map (num,·)⟩:=by
 cases a with
 | nil=>exact congr (congrArg (λ x y=>(⟨x,p.labs,y⟩:ae)) (O3 _).symm) (O3 _).symm
 | row op r=>exact congrArg (λ y=>(⟨_,p.labs,y⟩:ae)) (O3 _).symm
 | cl ws=>exact congrArg (λ x=>(⟨x,p.labs,_⟩:ae)) (O3 _).symm
inductive cD:List (List Nat)→List Ln→Prop
 | nil:cD [] []
 | cons {l:List Nat} {ln:Ln} {ls:List (List Nat)} {lns:List Ln}:bF (av l) ln→cN 900 l→cD ls lns→cD (l::ls) (ln::lns)
theorem cD.app {a b:List (List Nat)}{c d:List Ln}(h:cD a c)(h':cD b d):cD (a++b) (c++d):=by
 induction h with
 | nil=>exact h'
 | cons h1 hc _ ih=>exact .cons h1 hc ih
theorem cD.c {a:List (List Nat)}{c:List Ln}(h:cD a c):∀ l∈a,cN 900 l:=by
 induction h with
 | nil=>exact O1 _
 | cons _ hc _ ih=>exact N7.mpr ⟨hc,ih⟩
theorem mF {lines:List (List Nat)}{lns:List Ln}(h:cD lines lns):∀ {p:ae} {k:Nat},(∀ l∈bU lns,ak l=true)→(p.labs.map (·.1)++bU lns).Nodup →
  bc p k lines=.ok ⟨p.rows++cx k lns,p.labs++a6 p.rows.length lns,p.cls++e8 k lns⟩:=by
 induction h with
 | nil=>exact λ {p k} _ _=>congr (congr (congrArg (λ x y z=>Except.ok (⟨x,y,z⟩:ae)) (O3 p.rows).symm) (O3 p.labs).symm) (O3 p.cls).symm
 | @cons l ln ls lns h1 hc h2 ih =>
  intro p k hv hn
  have hn:(p.labs.map (·.1)++(ln.labs++bU lns)).Nodup:=hn
  rw [← N6] at hn
  show (match fc p (av l) (k+1) with | .ok p'=>bc p' (k+1) ls | .error e=>_)=_
  refine ru (AT h1 (x8 ln.labs (λ x m=>hv x (O7 _ m)) (Q0.mp hn).1)) (ru (y8 ..) ?_)
  refine (ih (λ x m=>hv x (O8 _ m)) (by refine ru P6 (ru wm ?_);exact hn)).trans ?_
  refine ru (N6 ..) (ru (N6 ..) (ru (N6 ..) (ru N5 (ru (N3 ..) ?_))))
  rfl
structure B (ls:List (List Nat)) (lns:List Ln) (R:List (Nat×List Nat)) (C:List (List (List Nat))) (L:List (List Nat)):Prop where
 l:cD ls lns
 r:bx lns=R
 c:gD lns=C
 s:(bU lns).Sublist L
section
variable {a a':List (List Nat)} {b b':List Ln} {R R':List (Nat×List Nat)} {C C':List (List (List Nat))} {L L':List (List Nat)}
theorem B.nil:B [] [] [] [] []:=⟨.nil,rfl,rfl,.slnil⟩
theorem B.app (h:B a b R C L)(h':B a' b' R' C' L'):B (a++a') (b++b') (R++R') (C++C') (L++L') :=
 ⟨h.l.app h'.l,(hP ..).trans (congr (congrArg (·++·) h.r) h'.r),(tM ..).trans (congr (congrArg (·++·) h.c) h'.c),ri ((gZ ..).symm) (h.s.append h'.s)⟩
theorem B.cast (h:B a b R C L)(r:R=R')(c:C=C')(s:L.Sublist L'):B a b R' C' L':=⟨h.l,h.r.trans r,h.c.trans c,h.s.trans s⟩
theorem B.one {l:List Nat}{ln:Ln}(h:bF (av l) ln)(c:cN 900 l):B [l] [ln] (aR ln.act) (aC ln.act) ln.labs:=⟨.cons h c .nil,O3 _,O3 _,(O3 ln.labs).symm▸List.Sublist.refl ln.labs⟩
theorem B.flatR {f:Nat→List (List Nat)}{g:Nat→List Ln}{R:Nat→List (Nat×List Nat)}{L:Nat→List (List Nat)}(is:List Nat)(h:∀ i∈is,B (f i) (g i) (R i) [] (L i)):B (is.flatMap f) (is.flatMap g) (is.flatMap R) [] (is.flatMap L):=by
 induction is with
 | nil=>exact .nil
 | cons i is ih=>exact (h i (.head _)).app (ih λ j m=>h j (.tail _ m))
theorem B.flatC {f:Cl→List Nat}{C:Cl→List (List Nat)}(cl:List Cl)(h:∀ c∈cl,bF (av (f c)) ⟨[],.cl (C c)⟩∧cN 900 (f c)):B (cl.map f) (cl.map λ c=>⟨[],.cl (C c)⟩) [] (cl.map C) []:=by
 induction cl with
 | nil=>exact .nil
 | cons c r ih=>exact (B.one (h c (.head _)).1 (h c (.head _)).2).app (ih λ j m=>h j (.tail _ m))
end
theorem wz {f:Nat→List Nat}{g:Nat→List Ln}{Q:Nat→Prop}(k:Nat):(∀ i<k,(bx (g i)).length=1∧(Q i→∀ c,(f i,c)∈a6 c (g i)))→(bx ((List.range k).flatMap g)).length=k∧∀ i<k,Q i→(f i,i)∈a6 0 ((List.range k).flatMap g):=by
 induction k with
 | zero=>exact λ Z9=>⟨rfl,λ i h=>absurd h (X8 _)⟩
 | succ k ih =>
  intro h
  refine ru Z1 (ru V6 (ru (Y3 ..) (ru (hP ..) (ru N5 (ru (ih λ i hi=>h i (W6 hi)).1 (ru (h k (U0 k)).1 (ru (b8 ..) (ru (ih λ i hi=>h i (W6 hi)).1 (ru (R9 ..) ?_)))))))))
  exact ⟨rfl,λ i hi q=>(X7.mp hi).elim (λ hi=>O7 _ ((ih λ i hi=>h i (W6 hi)).2 i hi q)) λ e=>O8 _ (by rw [e] at q ⊢;exact (h k (U0 k)).2 q k)⟩
theorem BG {α β:Type}{l:List α}{f:α→List β}{F:Nat→List β}(hF:∀ i c,l[i]?=some c→F i=f c)(k:Nat):k≤l.length→(List.range k).flatMap F=(l.take k).flatMap f:=by
 induction k with
 | zero=>exact λ Z9=>rfl
 | succ k ih =>
  intro h
  refine ru Z1 (ru V6 (ru (ih (z1c h)) (ru z1d (ru (O4 h:l[k]?=some l[k]) (ru V6 (ru (Y3 ..) (ru (hF k _ (O4 h:l[k]?=some l[k])) ?_)))))))
  exact congrArg (_++·) (Y3 _ _).symm
theorem nU {α β:Type}{l:List α}{f:α→List β}{F:Nat→List β}(hF:∀ i c,l[i]?=some c→F i=f c):(List.range l.length).flatMap F=l.flatMap f:=(BG hF _ (N8 _)).trans (congrArg (List.flatMap f) (W3 ..))
theorem yy {α β:Type}{l:List α}{f:α→β}{F:Nat→β}(hF:∀ i c,l[i]?=some c→F i=f c):(List.range l.length).map F=l.map f :=
 X6.trans ((nU (f:=λ c=>[f c]) λ i c e=>congrArg (λ x=>[x]) (hF i c e)).trans X6.symm)
end
noncomputable section
theorem wh {P:Nat→Prop}{s:Nat}(h1:1≤s)(h4:s≤4)(p1:P 1)(p2:P 2)(p3:P 3)(p4:P 4):P s:=bm (P:=λ s=>1≤s→P s) (bm (P:=λ s=>1≤s→P s) (bm (P:=λ s=>1≤s→P s) (bm (P:=λ s=>1≤s→P s) (bm (P:=λ s=>1≤s→P s) kK λ h=>absurd h (by decide)) λ Z9=>p1) λ Z9=>p2) λ Z9=>p3) (λ Z9=>p4) s (Q8 h4) h1
theorem yn {P:Nat→Prop}{s:Nat}(h:s=7∨s=8∨s=9∨s=11)(p7:P 7)(p8:P 8)(p9:P 9)(p11:P 11):P s:=h.elim (λ e=>ru e p7) λ h=>h.elim (λ e=>ru e p8) λ h=>h.elim (λ e=>ru e p9) λ e=>ru e p11
noncomputable abbrev MG (s:Nat):Prop:=s≠6∧s≠5∧s≠10
theorem oz {s:Nat}(h1:1≤s)(h4:s≤4):MG s:=wh h1 h4 (by decide) (by decide) (by decide) (by decide)
theorem Cy {s:Nat}(h:s=7∨s=8∨s=9∨s=11):MG s:=yn h (by decide) (by decide) (by decide) (by decide)
theorem dR {lf:Int→List Nat}{b:List Nat}{r:bo}(h:MG (af r.op)):o3 lf b r=r.wd:=(if_neg h.1).trans ((if_neg h.2.1).trans (if_neg h.2.2))
theorem wb {lf:Int→List Nat}{b:List Nat}{r:bo}(h:af r.op=5):o3 lf b r=lf (r.gs.headD 0):=(if_neg (h▸by decide)).trans (if_pos h)
theorem wa {lf:Int→List Nat}{b:List Nat}{r:bo}(h:af r.op=6):o3 lf b r=[40]++ah ([44]++b) (r.gs.map lf)++[41]:=if_pos h
theorem pZ {lf:Int→List Nat}{b:List Nat}{r:bo}(h:af r.op=10){t:List Nat}(e:r.n=.str t):o3 lf b r=qt t:=(if_neg (h▸by decide)).trans ((if_neg (h▸by decide)).trans ((if_pos h).trans (by exact ru e rfl)))
theorem aO.cs {size:Nat}{motive:Cl→Prop}{c:Cl}(h:aO size c)(f0:∀ t0 t1 h0 h1 e,e∈dT→motive ⟨0,t0,t1,h0,h1,e⟩)(f1:∀ t0 t1 h0 h1 e,motive ⟨1,t0,t1,h0,h1,e⟩)(f2:∀ t0 t1 h0 h1,motive ⟨2,t0,t1,h0,h1,0⟩)(f4:∀ t0 t1 h0 h1,motive ⟨4,t0,t1,h0,h1,0⟩):motive c:=by
 have w:=h.2
 cases c with | mk s t0 t1 h0 h1 e =>
 exact w.elim (λ w=>ru (show s=0 from w.1) (f0 _ _ _ _ _ w.2)) λ w=>w.elim (λ w=>ru (show s=1 from w.1) (f1 _ _ _ _ _)) λ w=>w.elim (λ w=>(show s=2 from w.1)▸ru (show e=0 from w.2) (f2 _ _ _ _)) λ w=>(show s=4 from w.1)▸ru (show e=0 from w.2) (f4 _ _ _ _)
theorem xg {c:Cl}:∀ x∈[c.t0,c.t1,c.h0,c.h1],x∈aA c:=λ x m=>by
 unfold aA
 by_cases h:c.s=1
 ·refine ru (if_pos h) ?_;exact O7 [c.e] m
 ·refine ru (if_neg h) ?_;exact m
theorem tE {c:Cl}(h:c.s=1):c.e∈aA c:=by unfold aA;refine ru (if_pos h) ?_;exact O8 [c.t0,c.t1,c.h0,c.h1] N2
theorem je {c:Cl}{P:Int→Prop}(h:∀ x∈aA c,P x):P c.t0∧P c.t1∧P c.h0∧P c.h1:=⟨h _ (xg _ (.head _)),h _ (xg _ (.tail _ (.head _))),h _ (xg _ (.tail _ (.tail _ (.head _)))),h _ (xg _ (.tail _ (.tail _ (.tail _ (.head _)))))⟩
noncomputable abbrev bJ (b:List Nat):Prop:=bA b=true∧∃ c r,b=c::r∧nb c=false
noncomputable def vF (i:Nat):List Nat:=[97,108,115,111]++aL (i:Int)
noncomputable def b4:List Nat:=[116,104,101,101,110,100]
noncomputable def bX (v:Int)(n:Nat):List (List Nat):=((List.range n).flatMap λ i=>[vF i,lab v i])++[lab v n,b4]
theorem D9:∀ k:Nat,k<7→∀ n:Nat,n<17→(bX (k:Int) n).Nodup∧(bX (k:Int) n).all ak=true:=by decide +kernel
theorem DH (v:Int):lab v=lab (v % 7):=funext λ i=>congrArg (λ k:Int=>kO.getD k.toNat []++aL (i:Int)) (Int.emod_add_emod v 7 i).symm
theorem tj (v:Int)(n:Nat):bX v n=bX (v % 7) n:=congrArg (λ f:Nat→List Nat=>((List.range n).flatMap λ i=>[vF i,f i])++[f n,b4]) (DH v)
theorem iq (v:Int){n:Nat}(h:n<17):(bX v n).Nodup∧∀ l∈bX v n,ak l=true:=by
 have q:=mI (P:=λ w=>(bX w n).Nodup∧(bX w n).all ak=true) v (k:=7) (by decide) λ k hk=>D9 k hk n h
 refine ru (tj ..) ?_
 exact ⟨q.1,O2.mp q.2⟩
theorem l0 (v:Int){i:Nat}(h:i<17):ak (lab v i)=true:=(iq v (n:=16) (by decide)).2 _ ((X7.mp h).elim (λ h=>O7 _ (W7.mpr ⟨i,R4.mpr h,.tail _ (.head _)⟩)) λ e=>ri e (O8 _ (.head _)))
theorem EL {i:Nat}(h:i<16):ak (vF i)=true:=(iq 0 (n:=16) (by decide)).2 _ (O7 _ (W7.mpr ⟨i,R4.mpr h,.head _⟩))
theorem mE {x:Int}{n:Nat}(h:x≤(n:Int)):x.toNat≤n:=z1g.mpr h
theorem wx {v x:Int}{size:Nat}(hz:size≤16)(h:x≤(size:Int)):ak (lf v x)=true:=l0 v (Q8 (N1 (mE h) hz))
theorem i5 {size:Nat}{r:bo}(h:aB size r):∀ x∈r.gs,0≤x∧x<(size:Int):=h.gs.2
theorem dK (v:Int):bJ (ao v):=by
 exact f7 (P:=bJ) (λ Z9=>⟨by decide +kernel,_,_,rfl,rfl⟩) λ Z9=>f7 (P:=bJ) (λ Z9=>⟨by decide +kernel,_,_,rfl,rfl⟩) λ Z9=>⟨by decide +kernel,_,_,rfl,rfl⟩
theorem cC (v:Int):cN 2 (ao v):=by
 exact f7 (P:=cN 2) (λ Z9=>fo rfl) λ Z9=>f7 (P:=cN 2) (λ Z9=>fo rfl) λ Z9=>fo rfl
theorem Bc (v:Int){i:Nat}(h:i<17):cN 6 (lab v i):=tP (l0 v h) (fZ (P8 h (by decide)))
theorem DE {v x:Int}{size:Nat}(hz:size≤16)(h:x≤(size:Int)):cN 6 (lf v x):=Bc v (Q8 (N1 (mE h) hz))
theorem eJ {b s:List Nat}(hb:bA b=true)(hs:s=[]∨a8 s=true):av (b++s)=s :=
 hs.elim (λ e=>by refine ru e (ru (O3 ..) ?_);exact jn hb) λ h=>(congrArg av (O3 _).symm).trans (gI hb h (b:=[]) rfl)
theorem qA {b w s:List Nat}(hb:bJ b)(hw:w.all nb=true)(hs:s=[]∨a8 s=true):ac (w++bC b s)=(w,s):=by
 unfold bC
 by_cases h:s=[]
 ·refine ru (if_pos h) (ru h ?_);exact BA hw (.inl rfl)
 ·refine ru (if_neg h) ?_
  exact (BA hw (.inr (hb.2.elim λ c w=>w.elim λ r w=>⟨c,r++s,by refine ru w.1 ?_;rfl,w.2⟩))).trans (congrArg (Prod.mk w) (eJ hb.1 hs))
theorem pc {b w s:List Nat}{o:Nat}(hb:bJ b)(ho:(w,o)∈bV)(hs:s=[]∨a8 s=true):bF (w++bC b s) ⟨[],.row o s⟩:=.row ho (qA hb (dE _ ho).2.2.2.2.2.1 hs)
theorem sv {b l s:List Nat}{ln:Ln}(hb:bJ b)(hl:ak l=true)(hs:s=[]∨a8 s=true)(h:bF s ln):bF (l++[58]++bC b s) ⟨l::ln.labs,ln.act⟩ :=
 .lab hl (qA hb (X9.trans (N4.mpr ⟨A7 hl,rfl⟩)) hs) h
theorem jb {a b:Nat}{x:List Nat}(ha:sp a=false)(hb:sp b=false):a8 ([a]++x++[b])=true:=by
 show (match some a,([a]++x++[b]).getLast? with | some a,some b=>!sp a&&!sp b | _,_=>false)=true
 refine ru (z0p) ?_
 show (!sp a&&!sp b)=true
 refine ru ha (ru hb ?_)
 rfl
theorem pA {s:List Nat}(hs:s≠[])(h:∀ c∈s,sp c=false):a8 s=true:=by
 unfold a8
 refine ru (List.head?_eq_some_head hs) (ru (List.getLast?_eq_some_getLast hs) ?_)
 show (!sp _&&!sp _)=true
 refine ru (h _ (List.head_mem hs)) (ru (h _ (List.getLast_mem hs)) ?_)
 rfl
theorem cL {l:List Nat}(h:ak l=true):a8 l=true:=pA (jG h) (sC h)
theorem d6 {a b:List Nat}(ha:a8 a=true)(hb:a8 b=true)(x:List Nat):a8 (a++(x++b))=true :=
 (ja ha).1.elim λ c w=>w.elim λ r e=>(ja hb).2.elim λ r2 w=>w.elim λ y e2=>by
  refine ru e.1 (ru e2.1 (ru (show (c::r)++(x++(r2++[y]))=[c]++(r++x++r2)++[y] from congrArg (c::·) (Id r x r2 [y]).symm) ?_))
  exact jb e.2 e2.2
theorem xm {s:List Nat}(h:a8 s=true):s≠[]:=λ e=>ff (show a8 []=true from ri e h)
theorem mH {b s:List Nat}(h:a8 s=true):bC b s=b++s:=if_neg (xm h)
theorem oQ {w s b:List Nat}(hw:a8 w=true)(hs:s=[]∨a8 s=true):a8 (w++bC b s)=true:=by
 unfold bC
 by_cases h:s=[]
 ·refine ru (if_pos h) (ru (O3 ..) ?_);exact hw
 ·refine ru (if_neg h) ?_;exact d6 hw (hs.resolve_left h) b
theorem nA {l:List Nat}(h:ak l=true):a8 (l++[58])=true:=d6 (x:=[]) (cL h) (by decide +kernel)
theorem oh {a b:List Nat}(ha:bA a=true)(hb:bA b=true):bA (a++b)=true:=X9.trans (N4.mpr ⟨ha,hb⟩)
theorem zZ {v:Int}(x:Int){m:Nat}(h0:0<m)(h1:m≤3):cN 6 (rep (ao v) (x % (m:Int)))∧bA (rep (ao v) (x % (m:Int)))=true:=by
 refine mI (P:=λ k=>cN 6 (rep (ao v) k)∧bA (rep (ao v) k)=true) x h0 λ i hi=>?_
 have g:∀ i≤2,cN (2*i) (rep (ao v) (i:Int))∧bA (rep (ao v) (i:Int))=true:=λ i=>by
  induction i with
  | zero=>exact λ Z9=>⟨jd,rfl⟩
  | succ i ih=>exact λ h=>⟨(congrArg (cN · _) (W9 2 (2*i))).mp (aD (cC v) (ih (z1c h)).1),oh (dK v).1 (ih (z1c h)).2⟩
 have w:=g i (Y5 (S7 hi h1))
 exact ⟨⟨N1 w.1.1 (N1 (U3 2 (Y5 (S7 hi h1))) (by decide)),w.1.2⟩,w.2⟩
theorem rK (i:Int):aL i≠[]:=by
 cases i with
 | ofNat n=>exact ru (d1 n) (n0 n)
 | negSucc n=>exact ri (hO n) (R5 _ _)
end
noncomputable section
theorem iZ {v:PV}{k:List Nat}:∀ {l:List (List Nat×PV)},aT l v=some k→∃ u,(k,u)∈l∧eX k=true∧xb u v=true
 | []=>λ h=>nN h
 | q::r=>by
  show (if (xb q.2 v&&eX q.1)=true then some q.1 else aT r v)=some k→_
  by_cases h:(xb q.2 v&&eX q.1)=true
  ·refine ru (if_pos h) ?_;exact λ e=>ri (Option.some.inj e) (⟨q.2,.head _,(aE h),(aj h)⟩)
  ·refine ru (if_neg h) ?_;exact λ e=>(iZ e).imp λ u w=>⟨.tail _ w.1,w.2⟩
theorem yT:bS.all (λ c=>!sp c&&CA c)=true:=by decide +kernel
theorem v1 (i:Int):∀ c∈aL i,(!sp c&&CA c)=true:=λ c m=>(xY i c m).elim (λ e=>ru e (by decide +kernel)) (O2.mp yT c)
theorem Ak {pre:List Nat}{i:Int}(hp:eN pre i):∀ c∈pre,sp c=false:=hp.elim (λ e=>ru e (O1 _)) λ h=>h.elim (λ h=>ru h.1 (by decide +kernel)) λ h=>ru h.1 (by decide +kernel)
theorem Ao {pre:List Nat}{i:Int}(hp:eN pre i):a8 (pre++aL i)=true:=pA (U1 _ (rK i)) (Q6.mpr ⟨Ak hp,λ c m=>(U2 _).mp (aj (v1 i c m))⟩)
theorem zy {s:Nat}(hs:s=7∨s=8∨s=9∨s=11):(aI s).all (λ q=>!eX q.1||a8 q.1)=true:=yn (P:=λ s=>(aI s).all (λ q=>!eX q.1||a8 q.1)=true) hs (by decide +kernel) (by decide +kernel) (by decide +kernel) (by decide +kernel)
theorem rZ {f:Int→List Nat}{b:List Nat}{size:Nat}{r:bo}(hr:aB size r):(∀ g∈r.gs,ak (f g)=true)→o3 f b r=[]∨a8 (o3 f b r)=true:=by
 induction r,hr using aB.cs with
 | plain ho hs=>exact λ Z9=>.inl (dR (ru hs (by decide)))
 | num ho h1 h2 h3 h4 hp=>exact λ Z9=>by refine ru (dR (oz h1 h2)) ?_;exact .inr (Ao hp)
 | jump ho hs h0 h1=>exact λ hl=>by refine ru (wb hs) ?_;exact .inr (cL (hl _ (.head _)))
 | sw ho hs hz hg=>exact λ Z9=>by refine ru (wa hs) ?_;exact .inr (jb (by decide +kernel) (by decide +kernel))
 | named ho hs hm hn=>
  exact λ Z9=>by
   refine ru (dR (Cy hs)) ?_
   exact (iZ hn).elim λ u w=>.inr (by
    have q:=O2.mp (zy hs) _ w.1
    dsimp only at q
    rw [w.2.1] at q
    exact q)
 | text ho hs hm=>exact λ Z9=>by refine ru (pZ hs rfl) ?_;exact .inr (jb (by decide +kernel) (by decide +kernel))
theorem r3 {v:Int}{size:Nat}{r:bo}(hr:aB size r)(hz:size≤16):lw v r=[]∨a8 (lw v r)=true:=by
 exact f7 (P:=λ s=>s=[]∨a8 s=true) (λ Z9=>.inr (by decide +kernel)) λ Z9=>rZ hr λ g m=>wx hz (U9 (i5 hr g m).2)
theorem xx {n:Nat}{sep:List Nat}(hs:sep.all CA=true){ws:List (List Nat)}(h:∀ w∈ws,cN n w):cN (ws.length*(n+sep.length)) (ah sep ws):=by
 refine ⟨cr sep ws λ w m=>(h w m).1,?_⟩
 induction ws with
 | nil=>rfl
 | cons a r ih =>
  cases r with
  | nil=>exact (h a (.head _)).2
  | cons b r =>
   refine ru (uP (R5 _ _)) (ru X9 (ru X9 (ru ((h a (.head _)).2) (ru hs (ru (ih λ w m=>h w (.tail _ m)) ?_)))))
   rfl
theorem y6 {α:Type}{l:List α}{f:α→List Nat}{n:Nat}(h:l.all (λ q=>Nat.ble (f q).length n&&(f q).all CA)=true):∀ q∈l,cN n (f q):=λ q m=>fo (O2.mp h q m)
theorem Gc (s:Nat):∀ q∈aI s,cN 60 q.1:=by
 exact f7 (P:=λ l:List (List Nat×PV)=>∀ q∈l,cN 60 q.1) (λ Z9=>y6 (by decide +kernel)) λ Z9=>f7 (P:=λ l:List (List Nat×PV)=>∀ q∈l,cN 60 q.1) (λ Z9=>y6 (by decide +kernel)) λ Z9=>y6 (by decide +kernel)
theorem zt:∀ t∈jj,cN 60 (qt t):=y6 (by decide +kernel)
theorem Jv:∀ e∈dT,cN 20 (kw e):=y6 (by decide +kernel)
theorem uw:∀ q∈bV,cN 20 q.1:=y6 (by decide +kernel)
theorem xv {i:Int}(h:i.natAbs<10 ^ 25):cN 26 (aL i):=⟨fA h,O2.mpr λ c m=>(aE (v1 i c m))⟩
theorem E9 {size:Nat}{r:bo}{f:Int→List Nat}{b:List Nat}(hr:aB size r)(hb:cN 2 b):(∀ g∈r.gs,cN 6 (f g))→cN 70 (o3 f b r):=by
 induction r,hr using aB.cs with
 | plain ho hs=>exact λ Z9=>by refine ru (dR (hs▸by decide)) ?_;exact jd
 | num ho h1 h2 h3 h4 hp=>
  exact λ Z9=>by
   refine ru (dR (oz h1 h2)) ?_
   exact dh (aD (a:=2) (hp.elim (λ e=>ru e jd) λ h=>h.elim (λ h=>ru h.1 (fo rfl)) λ h=>ru h.1 (fo rfl)) (xv (lX _ (Q8 h2) _ h3 h4))) rfl
 | jump ho hs h0 h1=>exact λ hl=>by refine ru (wb hs) ?_;exact dh (hl _ (.head _)) rfl
 | sw ho hs hz hg=>
  exact λ hl=>by
   refine ru (wa hs) ?_
   exact dh (aD (aD (a:=1) (fo rfl) ⟨N1 (xx (n:=6) (sep:=[44]++b) (aD (a:=1) (fo rfl) hb).2 (Q5.mpr hl)).1 (Z5 (N1 (P0 (N3 ..)) hz) (S5 (aD (a:=1) (fo rfl) hb).1 6)),(xx (n:=6) (sep:=[44]++b) (aD (a:=1) (fo rfl) hb).2 (Q5.mpr hl)).2⟩) (b:=1) (fo rfl)) rfl
 | named ho hs hm hn=>exact λ Z9=>by refine ru (dR (Cy hs)) ?_;exact dh (Gc _ _ hm) rfl
 | text ho hs hm=>exact λ Z9=>by refine ru (pZ hs rfl) ?_;exact dh (zt _ hm) rfl
theorem Ah {v:Int}{size:Nat}{r:bo}(hr:aB size r)(hz:size≤16):cN 70 (lw v r):=by
 exact f7 (P:=cN 70) (λ Z9=>fo rfl) λ Z9=>E9 hr (cC v) λ g m=>DE hz (U9 (i5 hr g m).2)
theorem zw {n:Nat}{b s:List Nat}(hb:cN 2 b)(hs:cN n s):cN (2+n) (bC b s):=f7 (P:=cN (2+n)) (λ Z9=>jd) λ Z9=>aD hb hs
end
noncomputable section
noncomputable def mT (v:Int)(i:Nat)(r:bo):List Ln :=
 if w9 v i % 4=0 then [⟨[lab v i],.nil⟩,⟨[],.row r.op (lw v r)⟩]
 else if w9 v i % 4=1 then [⟨[],.nil⟩,⟨[vF i,lab v i],.row r.op (lw v r)⟩]
 else [⟨[lab v i],.row r.op (lw v r)⟩]
theorem gT {l:List Nat}(h:ak l=true):bF (av (l++[58])) ⟨[l],.nil⟩:=by
 refine ru (bO (nA h)) ?_
 exact ri (O3 (l++[58])) (sv (dK 0) h (.inl rfl) .nil)
theorem fE {b l s:List Nat}{ln:Ln}(hb:bJ b)(hl:ak l=true)(hs:a8 s=true)(h:bF s ln):a8 (l++[58]++(b++s))=true∧bF (l++[58]++(b++s)) ⟨l::ln.labs,ln.act⟩ :=
 ⟨d6 (nA hl) hs b,ri (mH (b:=b) hs) (sv hb hl (.inr hs) h)⟩
theorem uM {l a x c:List Nat}{ln:Ln}(e:l=a++x++c)(ha:bA a=true)(hx:a8 x=true∧bF x ln)(hc:bA c=true)(h:cN 900 l):B [l] [ln] (aR ln.act) (aC ln.act) ln.labs :=
 .one (by refine ru e (ru (gI ha hx.1 hc) ?_);exact hx.2) h
theorem IW {v:Int}{size i:Nat}{r:bo}(hr:aB size r)(hz:size≤16)(hi:i<16):B (oV v i r) (mT v i r) [(r.op,lw v r)] [] [vF i,lab v i]:=by
 have hb:=dK v
 have hl:=l0 v (W6 hi)
 have ra:=zZ (v:=v) (w9 v i) (m:=2) (by decide) (by decide)
 have rc:=zZ (v:=v) (w9 v i) (m:=3) (by decide) (by decide)
 have x0:a8 (r.nm++bC (ao v) (lw v r))=true∧bF (r.nm++bC (ao v) (lw v r)) ⟨[],.row r.op (lw v r)⟩:=⟨oQ (dE _ hr.mem).2.2.2.2.2.2 (r3 (v:=v) hr hz),pc hb hr.mem (r3 (v:=v) hr hz)⟩
 have n58:=aD (Bc v (W6 hi)) (b:=1) (y:=[58]) (fo rfl)
 have lc:∀ {h:List Nat},cN 50 h→cN 900 (rep (ao v) (w9 v i % 2)++h++ao v++r.nm++bC (ao v) (lw v r)++rep (ao v) (w9 v i % 3)):=λ hh=>dh (aD (aD (aD (aD (aD ra.1 hh) (cC v)) (uw _ hr.mem)) (zw (cC v) (Ah hr hz))) rc.1) rfl
 unfold oV mT iV A5 jK
 by_cases q0:w9 v i % 4=0
 ·refine ru (if_pos q0) (ru (if_pos q0) (ru (if_pos q0) ?_))
  exact (B.app (.one (gT hl) (dh n58 rfl)) (uM (a:=rep (ao v) (w9 v i % 2)++ao v) (congrArg (·++_) ((congrArg (·++ao v++r.nm++_) (O3 _)).trans (N6 _ r.nm _))) (oh ra.2 hb.1) x0 rc.2 (lc jd))).cast rfl rfl (.cons _ (.refl _))
 ·refine ru (if_neg q0) (ru (if_neg q0) (ru (if_neg q0) ?_))
  by_cases q1:w9 v i % 4=1
  ·refine ru (if_pos q1) (ru (if_pos q1) (ru (if_pos q1) ?_))
   exact B.app (.one (by refine ru (eJ hb.1 (.inr (by decide +kernel))) ?_;exact .comment (by decide +kernel)) (dh (aD (cC v) (b:=6) (fo rfl)) rfl)) (uM (congrArg (·++_) ((Lg _ _ (ao v) r.nm _).trans (congrArg (_++·) (Id (vF i++[58]) (ao v) (lab v i++[58]) _)))) ra.2 (fE hb (EL hi) (fE hb hl x0.1 x0.2).1 (fE hb hl x0.1 x0.2).2) rc.2 (lc (dh (aD (aD (aD (aD (a:=4) (fo rfl) (xv (i:=i) (P8 hi (by decide)))) (b:=1) (y:=[58]) (fo rfl)) (cC v)) n58) rfl)))
  ·refine ru (if_neg q1) (ru (if_neg q1) (ru (if_neg q1) ?_))
   exact (uM (congrArg (·++_) (Lg _ _ (ao v) r.nm _)) ra.2 (fE hb hl x0.1 x0.2) rc.2 (lc (dh n58 rfl))).cast rfl rfl (.cons _ (.refl _))
end
noncomputable section
noncomputable def b0 (lf:Int→List Nat)(blank:List Nat)(c:Cl):List Nat:=lf c.t0++[32,116,111,32]++lf c.t1++[32]++kF lf blank c++blank++lf c.h0++[32,116,111]++blank++lf c.h1
theorem HW {lf:Int→List Nat}{blank:List Nat}{c:Cl}:n7 lf blank c=fj++(blank++b0 lf blank c) :=
 (KN ..).trans (congrArg (λ x=>fj++(blank++x)) (show _=b0 lf blank c from (Ie ..).symm))
section
variable {size:Nat} {f:Int→List Nat} {b:List Nat} {c:Cl}
theorem Jl (hc:aO size c)(hb:cN 2 b):(∀ x∈aA c,cN 6 (f x))→cN 40 (kF f b c) :=
 aO.cs (motive:=λ c=>(∀ x∈aA c,cN 6 (f x))→cN 40 (kF f b c)) hc
  (λ Z9 Z9 Z9 Z9 e m Z9=>dh (aD (aD (a:=5) (fo rfl) hb) (Jv _ m)) rfl)
  (λ Z9 Z9 Z9 Z9 e h=>dh (aD (aD (aD (a:=6) (fo rfl) hb) (h e (tE rfl))) (b:=6) (fo rfl)) rfl)
  (λ Z9 Z9 Z9 Z9 Z9=>fo rfl) λ Z9 Z9 Z9 Z9 Z9=>fo rfl
theorem B8 (hc:aO size c)(hb:cN 2 b)(hl:∀ x∈aA c,cN 6 (f x)):cN 100 (b0 f b c) :=
 dh (aD (aD (aD (aD (aD (aD (aD (aD (aD (je hl).1 (b:=4) (fo rfl)) (je hl).2.1) (b:=1) (fo rfl)) (Jl hc hb hl)) hb) (je hl).2.2.1) (b:=3) (fo rfl)) hb) (je hl).2.2.2) rfl
theorem xr {s:List Nat}(hc:aO size c)(hb:bJ b)(hs:bA s=true)(ns:cN 2 s)(nb:cN 2 b)(h:∀ x∈aA c,ak (f x)=true)(hl:∀ x∈aA c,cN 6 (f x)):bF (av (s++n7 f b c)) ⟨[],.cl (ai (b0 f b c))⟩∧cN 900 (s++n7 f b c):=by
 have hr:a8 (b0 f b c)=true:=by
  refine ru (show b0 f b c=f c.t0++(([32,116,111,32]++f c.t1++[32]++kF f b c++b++f c.h0++[32,116,111]++b)++f c.h1) from (congrArg (·++f c.h1) ((Nb ..).trans (congrArg (f c.t0++·) (Nc ..).symm))).trans (N6 ..)) ?_
  exact d6 (cL (je h).1) (cL (je h).2.2.2) _
 refine ru HW ?_
 exact ⟨by refine ru (eJ hs (.inr (d6 (a:=fj) (by decide +kernel) hr b))) ?_;exact .cl ((congrArg (λ x=>ac (fj++x)) (mH hr).symm).trans (qA hb (by decide +kernel) (.inr hr))),dh (aD ns (aD (a:=4) (fo rfl) (aD nb (B8 hc nb hl)))) rfl⟩
end
noncomputable def hY (v:Int)(cl:List Cl):List Ln:=cl.map λ c=>⟨[],.cl (ai (b0 (lf v) (ao v) c))⟩
noncomputable def hU (v:Int)(rows:List bo)(i:Nat):List Ln:=match rows[i]? with | some r=>mT v i r | none=>[]
noncomputable def b7 (v:Int)(rows:List bo)(cl:List Cl):List Ln :=
 [⟨[],.nil⟩,⟨[],.nil⟩]++(if v / 3 % 2=0 then [] else hY v cl)++(List.range rows.length).flatMap (hU v rows)++[⟨[lab v rows.length],.nil⟩]++[⟨[b4],.nil⟩]++(if v / 3 % 2=0 then hY v cl else [])
section
variable {v:Int} {rows:List bo} {cl:List Cl}
noncomputable def C0 (v:Int)(rows:List bo)(i:Nat):List (Nat×List Nat):=match rows[i]? with | some r=>[(r.op,lw v r)] | none=>[]
theorem zT (hz:rows.length≤16)(hr:∀ r∈rows,aB rows.length r)(i:Nat)(hi:i<16):B (bK v rows i) (hU v rows i) (C0 v rows i) [] [vF i,lab v i]:=by
 unfold bK hU C0
 cases e:rows[i]? with
 | none=>exact B.nil.cast rfl rfl (.cons _ (.cons _ .slnil))
 | some r=>exact IW (hr r (Q1 e)) hz hi
theorem eT (hz:rows.length≤16)(hr:∀ r∈rows,aB rows.length r)(hc:∀ c∈cl,aO rows.length c):B (az v rows cl) (b7 v rows cl) (rows.map λ r=>(r.op,lw v r)) (cl.map λ c=>ai (b0 (lf v) (ao v) c)) (bX v rows.length):=by
 have ho:B (cJ v cl) (hY v cl) [] (cl.map λ c=>ai (b0 (lf v) (ao v) c)) []:=.flatC cl λ c m=>xr (hc c m) (dK v) (dK v).1 (cC v) (cC v) (λ x h=>wx hz (bu (hc c m) x h).2) λ x h=>DE hz (bu (hc c m) x h).2
 have hb:B [[],[47,47,97,58,32,116,101,120,116]] [⟨[],.nil⟩,⟨[],.nil⟩] [] [] []:=⟨.cons (by refine ru (jn (a:=[]) rfl) ?_;exact .nil) jd (.cons (by refine ru (bO (by decide +kernel)) ?_;exact .comment (by decide +kernel)) (fo rfl) .nil),rfl,rfl,.slnil⟩
 have he:B [lab v rows.length++[58]] [⟨[lab v rows.length],.nil⟩] [] [] [lab v rows.length]:=.one (gT (l0 v (i:=rows.length) (Q8 hz))) (dh (aD (Bc v (Q8 hz)) (b:=1) (fo rfl)) rfl)
 have er:(List.range rows.length).flatMap (C0 v rows)=rows.map λ r=>(r.op,lw v r):=(nU (f:=λ r:bo=>[(r.op,lw v r)]) λ i c e=>by unfold C0;exact ru e rfl).trans X6.symm
 unfold az j2 b7 bX
 by_cases q:v / 3 % 2=0
 ·refine ru (if_pos q) (ru (if_pos q) (ru (if_pos q) (ru (if_pos q) ?_)))
  exact (((((hb.app .nil).app (B.flatR (f:=bK v rows) (List.range rows.length) λ i m=>zT (v:=v) hz hr i (S7 (R4.mp m) hz))).app he).app (.one (gT (by decide +kernel)) (fo rfl):B [b4++[58]] [⟨[b4],.nil⟩] [] [] [b4])).app ho).cast ((O3 _).trans ((O3 _).trans ((O3 _).trans er))) rfl (by refine ru (O3 ..) (ru (N6 ..) ?_);exact .refl _)
 ·refine ru (if_neg q) (ru (if_neg q) (ru (if_neg q) (ru (if_neg q) ?_)))
  exact (((((hb.app ho).app (B.flatR (f:=bK v rows) (List.range rows.length) λ i m=>zT (v:=v) hz hr i (S7 (R4.mp m) hz))).app he).app (.one (gT (by decide +kernel)) (fo rfl):B [b4++[58]] [⟨[b4],.nil⟩] [] [] [b4])).app .nil).cast ((O3 _).trans ((O3 _).trans ((O3 _).trans er))) ((O3 _).trans ((O3 _).trans ((O3 _).trans (O3 _)))) (by refine ru (O3 ..) (ru (N6 ..) ?_);exact .refl _)
theorem x4 {i:Nat}{r:bo}:(bx (mT v i r)).length=1∧(True→∀ c,(lab v i,c)∈a6 c (mT v i r)):=by
 exact f7 (P:=λ l:List Ln=>(bx l).length=1∧(True→∀ c,(lab v i,c)∈a6 c l)) (λ Z9=>⟨rfl,λ Z9 c=>.head _⟩) λ Z9=>f7 (P:=λ l:List Ln=>(bx l).length=1∧(True→∀ c,(lab v i,c)∈a6 c l)) (λ Z9=>⟨rfl,λ Z9 c=>.tail _ (.head _)⟩) λ Z9=>⟨rfl,λ Z9 c=>.head _⟩
theorem kM:(∀ i≤rows.length,(lab v i,i)∈a6 0 (b7 v rows cl))∧(b4,rows.length)∈a6 0 (b7 v rows cl):=by
 have hx:bx ([⟨[],.nil⟩,⟨[],.nil⟩]++(if v / 3 % 2=0 then [] else hY v cl))=[]:=by
  have e:bx (hY v cl)=[]:=by
   induction cl with
   | nil=>rfl
   | cons c r ih=>exact ih
  exact f7 (c:=v / 3 % 2=0) (P:=λ l=>bx ([⟨[],.nil⟩,⟨[],.nil⟩]++l)=[]) (λ Z9=>(rfl:bx ([⟨[],.nil⟩,⟨[],.nil⟩]++[])=[])) λ Z9=>e
 have hp:=wz (f:=lab v) (g:=hU v rows) (Q:=λ Z9=>True) rows.length λ i hi=>by
  unfold hU
  refine ru (O4 hi) ?_
  exact x4
 unfold b7
 refine ru (N6 ..) (ru (N6 ..) (ru (b8 ..) (ru (by refine ru (hP ..) (ru hx ?_);exact hp.1:(bx ([⟨[],.nil⟩,⟨[],.nil⟩]++(if v / 3 % 2=0 then [] else hY v cl)++(List.range rows.length).flatMap (hU v rows))).length=rows.length) (ru (R9 ..) (ru (b8 ..) (ru hx ?_))))))
 exact ⟨λ i hi=>(z2u hi).elim (λ hi=>O7 _ (O8 _ (hp.2 i hi trivial))) λ e=>ri e (O8 _ (.head _)),O8 _ (.tail _ (.head _))⟩
end
end
noncomputable section
theorem j9 (s:List Nat):∀ {b:List Nat},bA b=true→gH none (b++s)=gH none s
 | [],_=>rfl
 | c::b,h=>(if_pos (aj (show (sp c&&bA b)=true from h))).trans (j9 s (aE (show (sp c&&bA b)=true from h)))
theorem jh {b s:List Nat}(hb:bA b=true)(hn:b≠[]):∀ (x:List Nat) (o:Option (List Nat)),gH o (x++(b++s))=gH o x++gH none s
 | [],none=>j9 s hb
 | [],some w=>by
  revert hb hn
  cases b with
  | nil=>exact λ Z9 hn=>absurd rfl hn
  | cons c b=>exact λ hb Z9=>(if_pos (aj (show (sp c&&bA b)=true from hb))).trans (congrArg (w::·) (j9 s (aE (show (sp c&&bA b)=true from hb))))
 | c::x,none=>by
  show (if sp c then gH none (x++(b++s)) else gH (some [c]) (x++(b++s)))=(if sp c then gH none x else gH (some [c]) x)++gH none s
  refine ru (jh hb hn x none) (ru (jh hb hn x (some [c])) ?_)
  exact f7 (P:=λ y=>y=_) (λ h=>by exact ru (if_pos h) rfl) λ h=>by exact ru (if_neg h) rfl
 | c::x,some w=>by
  show (if sp c then w::gH none (x++(b++s)) else gH (some (w++[c])) (x++(b++s)))=(if sp c then w::gH none x else gH (some (w++[c])) x)++gH none s
  refine ru (jh hb hn x none) (ru (jh hb hn x (some (w++[c]))) ?_)
  exact f7 (P:=λ y=>y=_) (λ h=>by refine ru (if_pos h) ?_;rfl) λ h=>by exact ru (if_neg h) rfl
theorem j8 {x b s:List Nat}(hb:bJ b):ai (x++(b++s))=ai x++ai s:=by
 refine ru (d0 ..) (ru (d0 ..) (ru (d0 ..) ?_))
 exact jh hb.1 (hb.2.elim λ c w=>w.elim λ r w=>ru w.1 (R5 _ _)) x none
theorem EY {α:Type}{c:Nat}(h:sp c=false){a b:α}:(if sp c then a else b)=b:=if_neg (by refine ru h ?_;exact S8)
theorem vO:∀ {w a:List Nat},(∀ c∈w,sp c=false)→gH (some a) w=[a++w]
 | [],a,_=>congrArg (λ x=>[x]) (O3 a).symm
 | c::w,a,h=>(EY (h c (.head _))).trans ((vO λ x m=>h x (.tail _ m)).trans (congrArg (λ x=>[x]) (N6 a [c] w)))
theorem oN {w:List Nat}(hn:w≠[])(h:∀ c∈w,sp c=false):ai w=[w]:=by
 refine ru (d0 ..) ?_
 revert hn h
 cases w with
 | nil=>exact λ hn=>absurd rfl hn
 | cons c w=>exact λ Z9 h=>(EY (h c (.head _))).trans (vO λ x m=>h x (.tail _ m))
theorem lt {l:List Nat}(h:ak l=true):ai l=[l]:=oN (jG h) (sC h)
section
variable {γ δ η ε:Type} {f:γ→Except ε δ}
theorem ij {y:γ}{r:List γ}{v:δ}(h:f y=.ok v):bn f (y::r)=match bn f r with | .error e=>.error e | .ok vs=>.ok (v::vs):=by
 show (match f y with | .error e=>Except.error e | .ok v=>match bn f r with | .error e=>.error e | .ok vs=>.ok (v::vs))=_
 exact ru h rfl
theorem nj {g:η→γ}{h:η→δ}:∀ {ys:List η},(∀ y∈ys,f (g y)=.ok (h y))→bn f (ys.map g)=.ok (ys.map h)
 | [],_=>rfl
 | y::r,H=>(ij (H y (.head _))).trans (by refine ru (nj λ x m=>H x (.tail _ m)) ?_;rfl)
theorem wn {h:γ→δ}{ys:List γ}(H:∀ y∈ys,f y=.ok (h y)):bn f ys=.ok (ys.map h):=(congrArg (bn f) (Y6 ys).symm).trans (nj (g:=id) H)
theorem wo:∀ {a:List γ},(∀ y∈a,∃ v,f y=.ok v)→∃ vs,bn f a=.ok vs
 | [],_=>⟨[],rfl⟩
 | y::r,H=>(H y (.head _)).elim λ v e=>(wo λ x m=>H x (.tail _ m)).elim λ vs e'=>⟨v::vs,(ij e).trans (by exact ru e' rfl)⟩
theorem ni {b:List γ}{y:γ}{e:ε}(hy:f y=.error e):∀ {a:List γ},(∀ y∈a,∃ v,f y=.ok v)→bn f (a++y::b)=.error e
 | [],_=>by
  show (match f y with | .error e=>Except.error e | .ok v=>match bn f b with | .error e=>.error e | .ok vs=>.ok (v::vs))=_
  exact ru hy rfl
 | x::a,H=>(H x (.head _)).elim λ v e=>by exact ru z0i (ru (ij e) (ru (ni hy λ x m=>H x (.tail _ m)) rfl))
theorem sd:∀ {a:List γ} {vs:List δ},bn f a=.ok vs→∀ y∈a,∃ v,f y=.ok v
 | [],_,_=>O1 _
 | x::r,vs,h=>by
  revert h
  show (match f x with | .error e=>_ | .ok v=>(match bn f r with | .error e=>_ | .ok vs=>_))=_→_
  cases e:f x with
  | error=>exact λ h=>nomatch h
  | ok v =>
   cases e':bn f r with
   | error=>exact λ h=>nomatch h
   | ok ws=>exact λ Z9=>N7.mpr ⟨⟨v,e⟩,sd e'⟩
end
end
noncomputable section
noncomputable def uA (lf:Int→List Nat)(c:Cl):List (List Nat) :=
 if c.s=0 then dm::ai (kw c.e) else if c.s=1 then [gg,lf c.e,dm] else if c.s=2 then [j0] else [qV]
theorem bN:bJ [32]:=⟨by decide +kernel,32,[],rfl,by decide⟩
theorem w1 {w:List Nat}(h:w≠[])(h':(w.all λ c=>!sp c)=true):ai w=[w]:=oN h λ c m=>(U2 _).mp (O2.mp h' c m)
theorem wA {w b s:List Nat}(hb:bJ b)(h:w≠[])(h':(w.all λ c=>!sp c)=true):ai (w++(b++s))=w::ai s:=(j8 hb).trans (congrArg (·++ai s) (w1 h h'))
theorem wL {w b s:List Nat}(hb:bJ b)(h:ak w=true):ai (w++(b++s))=w::ai s:=(j8 hb).trans (congrArg (·++ai s) (lt h))
theorem xL {size:Nat}{lf:Int→List Nat}{b s:List Nat}{c:Cl}(hb:bJ b)(hc:aO size c):(c.s=1→ak (lf c.e)=true)→ai (kF lf b c++(b++s))=uA lf c++ai s :=
 aO.cs (motive:=λ c=>(c.s=1→ak (lf c.e)=true)→ai (kF lf b c++(b++s))=uA lf c++ai s) hc
  (λ Z9 Z9 Z9 Z9 e Z9 Z9=>(congrArg ai (Id [99,97,116,99,104] b (kw e) (b++s))).trans ((wA hb (by decide) (by decide +kernel)).trans (congrArg (dm::·) (j8 hb))))
  (λ Z9 Z9 Z9 Z9 e h=>(congrArg ai (show _=[102,105,108,116,101,114]++(b++(lf e++([32]++([99,97,116,99,104]++(b++s))))) from Lg [102,105,108,116,101,114] b (lf e) [32,99,97,116,99,104] (b++s))).trans ((wA hb (by decide) (by decide +kernel)).trans (congrArg (gg::·) ((wL (b:=[32]) (s:=[99,97,116,99,104]++(b++s)) bN (h rfl)).trans (congrArg (lf e::·) (wA hb (by decide) (by decide +kernel)))))))
  (λ Z9 Z9 Z9 Z9 Z9=>wA (w:=[102,105,110,97,108,108,121]) hb (by decide) (by decide +kernel))
  λ Z9 Z9 Z9 Z9 Z9=>wA (w:=[102,97,117,108,116]) hb (by decide) (by decide +kernel)
theorem pK {size:Nat}{lf:Int→List Nat}{b:List Nat}{c:Cl}(hb:bJ b)(hc:aO size c)(hl:∀ x∈aA c,ak (lf x)=true):ai (b0 lf b c)=[lf c.t0,j6,lf c.t1]++uA lf c++[lf c.h0,j6,lf c.h1]:=by
 have hto:∀ {b s},bJ b→ai ([116,111]++(b++s))=j6::ai s:=λ hb=>wA hb (by decide) (by decide +kernel)
 have e:b0 lf b c=lf c.t0++([32]++([116,111]++([32]++(lf c.t1++([32]++(kF lf b c++(b++(lf c.h0++([32]++([116,111]++(b++lf c.h1))))))))))):=Ie ..
 refine ru e (ru (wL bN (je hl).1) (ru (hto bN) (ru (wL bN (je hl).2.1) (ru (xL hb hc λ h=>hl _ (tE h)) (ru (wL bN (je hl).2.2.1) (ru (hto hb) (ru (lt (je hl).2.2.2) ?_)))))))
 exact (N6 [lf c.t0,j6,lf c.t1] _ _).symm
noncomputable def Ft (e:Int):Except (List Nat) PV→Bool
 | .ok v=>(match v with | .int i=>decide (i=e) | _=>false)
 | .error _=>false
theorem DT {e:Int}{x:Except (List Nat) PV}(h:Ft e x=true):x=.ok (.int e):=by
 cases x with
 | error=>exact ff h
 | ok v=>cases v with
  | int i=>exact congrArg (λ i=>Except.ok (PV.int i)) (of_decide_eq_true h)
  | _=>exact ff h
theorem DK:∀ e∈dT,bh a7 (ah [32] (ai (kw e)))=.ok (.int e)∧(ai (kw e)).length≤3∧ai (kw e)≠[]:=λ e m =>
 have h:=an (O2.mp (show (dT.all λ e=>(Ft e (bh a7 (ah [32] (ai (kw e))))&&Nat.ble (ai (kw e)).length 3)&&Nat.ble 1 (ai (kw e)).length)=true by decide +kernel) e m)
 ⟨DT (aj h.1),P9 (aE h.1),λ z=>absurd (P9 h.2) (by refine ru z ?_;decide)⟩
noncomputable def Kv (k:Int→Nat)(c:Cl):PV:=if c.s=1 then ag (k c.e) else .int c.e
theorem xl {size:Nat}{lf:Int→List Nat}{p:ae}{c:Cl}{k:Int→Nat}(hc:aO size c):(c.s=1→aM (lf c.e) p.labs=some (k c.e))→px p (uA lf c)=.ok (c.s.toNat,Kv k c)∧1≤(uA lf c).length :=
 aO.cs (motive:=λ c=>(c.s=1→aM (lf c.e) p.labs=some (k c.e))→px p (uA lf c)=.ok (c.s.toNat,Kv k c)∧1≤(uA lf c).length) hc
  (λ Z9 Z9 Z9 Z9 e m Z9=>by
   have w:=DK e m
   show px p (dm::ai (kw e))=.ok (0,.int e)∧1≤(dm::ai (kw e)).length
   revert w
   cases ai (kw e) with
   | nil=>exact λ w=>absurd rfl w.2.2
   | cons w r=>exact λ w=>⟨by
     unfold px
     refine ru (if_neg (λ q=>nomatch q.1)) (ru (if_neg (λ q=>nomatch q.1)) (ru (if_neg (λ q=>absurd (show dm=gg from q.2.1) (by decide))) (ru (if_pos ⟨Nat.succ_lt_succ (T6 _),rfl⟩) ?_)))
     exact congrArg (dS λ v=>(0,v)) w.1,T6 _⟩)
  (λ Z9 Z9 Z9 Z9 e h=>⟨by
   unfold px aJ
   refine ru (if_neg (λ q=>absurd (show 3=1 from q.1) (by decide))) (ru (if_neg (λ q=>absurd (show 3=1 from q.1) (by decide))) (ru (if_pos ⟨rfl,rfl,rfl⟩) (ru (show List.getD [gg,lf e,dm] 1 []=lf e from rfl) (ru (h rfl) ?_))))
   rfl,T6 _⟩)
  (λ Z9 Z9 Z9 Z9 Z9=>⟨rfl,N8 _⟩) λ Z9 Z9 Z9 Z9 Z9=>⟨rfl,N8 _⟩
theorem kY {α:Type}(l r:List α)(i:Nat)(d:α):(l++r).getD (l.length+i) d=r.getD i d:=by
 exact ru (Z2) (ru (Z2) (ru (T8 (P1 _ _)) (ru (V9 ..) rfl)))
theorem z7 {a b c d:List Nat}{p:ae}{m:List (List Nat)}{ka kb kc kd:Nat}{q:Nat×PV}(hm:1≤m.length)(ha:aM a p.labs=some ka)(hb:aM b p.labs=some kb)(hc:aM c p.labs=some kc)(hd:aM d p.labs=some kd)(hq:px p m=.ok q):zd p ([a,j6,b]++m++[c,j6,d])=.ok (.tup [ag q.1,ag ka,ag kb,ag kc,ag kd,q.2]):=by
 have hL:([a,j6,b]++m).length=m.length+3:=by refine ru N5 ?_;exact W9 ..
 have cut:ba 3 (([a,j6,b]++m).length) ([a,j6,b]++m++[c,j6,d])=m:=by
  refine ru (N6 ..) (ru hL ?_)
  exact X4
 unfold zd
 (refine ru (N5:([a,j6,b]++m++[c,j6,d]).length=([a,j6,b]++m).length+3) (ru (show ([a,j6,b]++m).length+3-2=([a,j6,b]++m).length+1 from rfl) (ru (show ([a,j6,b]++m).length+3-3=([a,j6,b]++m).length from rfl) (ru (show ([a,j6,b]++m).length+3-1=([a,j6,b]++m).length+2 from rfl) (ru cut ?_))));rewrite [(kY ([a,j6,b]++m) [c,j6,d]) 1,(kY ([a,j6,b]++m) [c,j6,d]) 2];refine ru (show List.getD ([a,j6,b]++m++[c,j6,d]) ([a,j6,b]++m).length []=c from (kY ([a,j6,b]++m) [c,j6,d]) 0 []) (ru (if_neg (λ h=>h.elim (λ h=>W5.mpr (U7 (ri hL (U7 hm 3:4≤_)) 3) h) λ h=>h.elim (λ h=>h rfl) λ h=>h rfl)) ?_))
 unfold aJ
 exact ru ha (ru hb (ru hc (ru hd (ru hq rfl))))
theorem v5 {size:Nat}{lf:Int→List Nat}{b:List Nat}{p:ae}{c:Cl}{k:Int→Nat}(hb:bJ b)(hc:aO size c)(hl:∀ x∈aA c,ak (lf x)=true∧aM (lf x) p.labs=some (k x)):∃ w,zd p (ai (b0 lf b c))=.ok w∧((∀ x∈aA c,(k x:Int)=x)→w=cS c):=by
 have q:=je hl
 refine ru (pK hb hc λ x m=>(hl x m).1) ?_
 refine ⟨_,z7 (xl (lf:=lf) (p:=p) (k:=k) hc λ h=>(hl _ (tE h)).2).2 q.1.2 q.2.1.2 q.2.2.1.2 q.2.2.2.2 (xl (lf:=lf) (p:=p) (k:=k) hc λ h=>(hl _ (tE h)).2).1,λ hk=>?_⟩
 have hs:ag c.s.toNat=.int c.s:=congrArg PV.int (T4 (aO.cs (motive:=λ c=>0≤c.s) hc (λ Z9 Z9 Z9 Z9 Z9 Z9=>(by decide:(0:Int)≤0)) (λ Z9 Z9 Z9 Z9 Z9=>(by decide:(0:Int)≤1)) (λ Z9 Z9 Z9 Z9=>(by decide:(0:Int)≤2)) λ Z9 Z9 Z9 Z9=>(by decide:(0:Int)≤4)))
 have hx:Kv k c=.int c.e:=by
  unfold Kv
  by_cases h:c.s=1
  ·refine ru (if_pos h) ?_;exact congrArg PV.int (hk _ (tE h))
  ·exact ru (if_neg h) rfl
 show PV.tup [ag c.s.toNat,ag _,ag _,ag _,ag _,Kv k c]=_
 unfold ag at hs ⊢
 refine ru hs (ru hx (ru (je hk).1 (ru (je hk).2.1 (ru (je hk).2.2.1 (ru (je hk).2.2.2 ?_)))))
 rfl
end
noncomputable section
theorem BZ (n:Nat):∃ c r,rm n=c::r∧c∈bS:=by
 have m:=qK n
 have ne:=n0 n
 revert m ne
 cases rm n with
 | nil=>exact λ Z9 h=>absurd rfl h
 | cons c r=>exact λ m Z9=>⟨c,r,rfl,m c N2⟩
theorem HL {c:Nat}(h:c∈bS):((45==c)||(43==c))=false:=ri (U2 _) (O2.mp (show (bS.all λ c=>!((45==c)||(43==c)))=true by decide +kernel) c h)
theorem I8 (a c:Nat)(r:List Nat):[a].isPrefixOf (c::r)=(a==c):=z3q _
theorem xM {c:Nat}{r:List Nat}(h:((45==c)||(43==c))=false):cI (c::r)=c::r∧[45].isPrefixOf (c::r)=false:=by
 unfold cI
 refine ru (I8 ..) (ru (I8 ..) (ru h ?_))
 exact ⟨if_neg S8,(z0r.mp h).1⟩
theorem qZ {t:List Nat}{n m lo hi:Int}(h1:cI t≠[])(h2:dJ 0 (cI t)=some n)(h3:(if [45].isPrefixOf t then -n else n)=m)(h0:lo≤m)(h4:m≤hi):dp t lo hi=.ok m:=by
 unfold dp
 refine ru (if_neg h1) (ru h2 ?_)
 show (if (if [45].isPrefixOf t then -n else n)<lo∨(if [45].isPrefixOf t then -n else n) > hi then _ else Except.ok (if [45].isPrefixOf t then -n else n))=_
 refine ru h3 ?_
 exact if_neg λ h=>h.elim (V2.mpr h0) (V2.mpr h4)
theorem tS {pre:List Nat}{i lo hi:Int}(hp:eN pre i)(h0:lo≤i)(h1:i≤hi):dp (pre++aL i) lo hi=.ok i:=by
 cases i with
 | negSucc n =>
  refine ru (hp.elim id λ h=>h.elim (λ h=>absurd h.2 (Y7.mpr (z0x n))) λ h=>absurd h.2 (Y7.mpr (z0x n)):pre=[]) (ru (hO ..) ?_)
  exact qZ (n0 (n+1)) (d5 (n+1)) rfl h0 h1
 | ofNat n =>
  refine ru (show aL (Int.ofNat n)=rm n from d1 n) ?_
  refine (BZ n).elim λ c w1z=>w1z.elim λ r w2z=>w2z.elim λ e hc=>?_
  have w:=xM (r:=r) (HL hc)
  rw [← e] at w
  refine hp.elim (λ h=>?_) λ h=>h.elim (λ h=>?_) λ h=>?_
  ·refine ru h (ru (z1m ..) ?_);exact qZ (ri w.1.symm (n0 n)) (ri w.1.symm (d5 n)) (if_neg (w.2▸S8)) h0 h1
  ·refine ru h.1 ?_;exact qZ (n0 n) (d5 n) rfl h0 h1
  ·refine ru h.1 ?_;exact qZ (t:=48::48::rm n) (R5 _ _) (d5 n) rfl h0 h1
theorem sH (b:List Nat)(l:List (List Nat)):∀ a:List Nat,ah ([44]++b) (a::l)=ah [44] (a::l.map (b++·)):=by
 induction l with
 | nil=>exact λ Z9=>rfl
 | cons x r ih =>
  refine λ a=>(congrArg (a++([44]++b)++·) (ih x)).trans ?_
  show a++([44]++b)++ah [44] (x::r.map (b++·))=a++[44]++ah [44] ((b++x)::r.map (b++·))
  have h:ah [44] ((b++x)::r.map (b++·))=b++ah [44] (x::r.map (b++·)):=by
   cases r with
   | nil=>rfl
   | cons y r=>exact (N6 (b++x) [44] _).trans ((N6 b x _).trans (congrArg (b++·) (N6 x [44] _).symm))
  exact ru h (ri (N6 a [44] b) (ri (N6 ..) rfl))
theorem uO {sep:List Nat}{l:List (List Nat)}:l≠[]→(∀ w∈l,a8 w=true)→a8 (ah sep l)=true:=by
 induction l with
 | nil=>exact λ h Z9=>absurd rfl h
 | cons a r ih=>cases r with
  | nil=>exact λ Z9 h=>h a N2
  | cons b r=>exact λ Z9 h=>(congrArg a8 (N6 a sep _)).trans (d6 (h a N2) (ih (R5 _ _) λ w m=>h w (N9 _ m)) sep)
theorem vA {b:List Nat}(hb:bA b=true):44∉b:=λ m=>absurd (O2.mp hb 44 m) (by decide +kernel)
noncomputable def kN (k:Int→Nat)(r:bo):PV:=if af r.op=5 then ag (k (r.gs.headD 0)) else if af r.op=6 then .tup ((r.gs.map k).map ag) else r.n
theorem jJ {k:Int→Nat}{r:bo}(h5:af r.op≠5)(h6:af r.op≠6):kN k r=r.n:=(if_neg h5).trans (if_neg h6)
theorem Jx {k:Int→Nat}{r:bo}(h:af r.op=6):kN k r=.tup ((r.gs.map k).map ag):=(if_neg (h▸by decide)).trans (if_pos h)
theorem lD {p:ae}{w:List Nat}{k:Nat}(h:aM w p.labs=some k)(hk:k<p.rows.length):bg p w=.ok k:=by
 unfold bg
 refine ru h ?_
 exact if_pos hk
theorem CN {p:ae}{lf:Int→List Nat}{b:List Nat}{gs:List Int}{k:Int→Nat}(hb:bA b=true)(hl:∀ g∈gs,ak (lf g)=true∧aM (lf g) p.labs=some (k g)∧k g<p.rows.length):EX p ([40]++ah ([44]++b) (gs.map lf)++[41])=.ok (gs.map k):=by
 have h2:([40]++ah ([44]++b) (gs.map lf)++[41]).getLast?=some 41:=z0p
 have h3:ba 1 (([40]++ah ([44]++b) (gs.map lf)++[41]).length-1) ([40]++ah ([44]++b) (gs.map lf)++[41])=ah ([44]++b) (gs.map lf):=by
  refine ru N5 ?_
  exact X4
 unfold EX
 refine ru h2 (ru h3 ?_)
 show (if av (ah ([44]++b) (gs.map lf))=[] then .ok [] else nP p (aq 44 (av (ah ([44]++b) (gs.map lf)))))=_
 cases gs with
 | nil=>rfl
 | cons g r =>
  have hc:a8 (ah ([44]++b) ((g::r).map lf))=true:=uO (R5 _ _) λ w m=>(S0.mp m).elim λ x hx=>ri hx.2 (cL (hl x hx.1).1)
  have nl:∀ x∈g::r,44∉lf x:=λ x hx=>A8 (hl x hx).1
  refine ru (bO hc) (ru (if_neg (xm hc)) (ru z1b (ru (sH ..) (ru (dv (R5 _ _) (N7.mpr ⟨nl g N2,λ q m=>(S0.mp m).elim λ y hy=>(S0.mp hy.1).elim λ x hx=>hy.2▸ri hx.2 (λ m=>(R0.mp m).elim (vA hb) (nl x (N9 _ hx.1)))⟩)) ?_))))
  unfold nP
  have hf:∀ x∈g::r,∀ w,av w=lf x→bg p (av w)=.ok (k x):=λ x hx w hw=>ri hw.symm (lD (hl x hx).2.1 (hl x hx).2.2)
  refine ru T0 ?_
  refine ru kG ?_
  refine ru (hf g N2 _ (bO (cL (hl g N2).1))) (ru (nj (f:=λ w=>bg p (av w)) (g:=(b++·)∘lf) (h:=k) (ys:=r) λ x hx=>hf x (N9 _ hx) _ (eJ hb (.inr (cL (hl x (N9 _ hx)).1)))) ?_)
  rfl
noncomputable def MU (t:List Nat):Except (List Nat) (List Nat)→Bool
 | .ok u=>u==t
 | .error _=>false
theorem Fe {t:List Nat}{x:Except (List Nat) (List Nat)}(h:MU t x=true):x=.ok t:=by
 cases x with
 | ok u=>exact congrArg Except.ok (beq_iff_eq.mp h)
 | error=>exact ff h
theorem Dd:∀ t∈jj,Iv (qt t)=.ok t:=λ t m=>Fe (O2.mp (show (jj.all λ t=>MU t (Iv (qt t)))=true by decide +kernel) t m)
theorem BW:Iv Eo=.ok KB:=Fe (by decide +kernel)
theorem qf {l:List (List Nat×PV)}{k:List Nat}{v:PV}(hn:aT l v=some k):ah [32] (ai k)=k∧k≠[]:=(iZ hn).elim λ u w=>⟨of_decide_eq_true (aj w.2.1),of_decide_eq_true (aE w.2.1)⟩
theorem zx {s:Nat}{k:List Nat}{v:PV}(h:(k,v)∈aI s)(hn:aT (aI s) v=some k):bh (aI s) (ah [32] (ai k))=.ok v:=by
 refine ru ((qf hn).1) ?_
 unfold bh
 exact ru (if_neg (qf hn).2) (ru (k8 (pP s) h) rfl)
theorem z4 {p:ae}{s:Nat}{t:List Nat}(hs:s=7∨s=8∨s=9∨s=11):fV p s t=bh (aI s) (ah [32] (ai t)):=yn (P:=λ s=>fV p s t=bh (aI s) (ah [32] (ai t))) hs rfl rfl rfl rfl
theorem z5 {p:ae}{s:Nat}{t:List Nat}(h1:1≤s)(h4:s≤4):fV p s t=dS .int (dp t (ew s) (ey s)):=wh (P:=λ s=>fV p s t=dS .int (dp t (ew s) (ey s))) h1 h4 rfl rfl rfl rfl
theorem v4 {p:ae}{lf:Int→List Nat}{b:List Nat}{r:bo}{size:Nat}{k:Int→Nat}(hr:aB size r)(hb:bA b=true):(∀ g∈r.gs,ak (lf g)=true∧aM (lf g) p.labs=some (k g)∧k g<p.rows.length)→fV p (af r.op) (o3 lf b r)=.ok (kN k r):=by
 induction r,hr using aB.cs with
 | plain ho hs=>exact λ Z9=>by refine ru (dR (hs▸by decide)) (ru (jJ (hs▸by decide) (hs▸by decide)) (ru hs ?_));rfl
 | num ho h1 h2 h3 h4 hp=>
  exact λ Z9=>by
   refine ru (dR (oz h1 h2)) (ru (jJ (oz h1 h2).2.1 (oz h1 h2).1) (ru (z5 h1 h2) ?_))
   exact congrArg (dS PV.int) (tS hp h3 h4)
 | jump ho hs h0 h1=>
  exact λ hl=>by
   refine ru (wb hs) (ru hs ?_)
   exact (congrArg (dS ag) (lD (hl _ N2).2.1 (hl _ N2).2.2)).trans (congrArg Except.ok (if_pos hs).symm)
 | sw ho hs hz hg=>
  exact λ hl=>by
   refine ru (wa hs) (ru hs ?_)
   exact (congrArg (dS λ l=>PV.tup (l.map ag)) (CN hb hl)).trans (congrArg Except.ok (Jx hs).symm)
 | named ho hs hm hn=>
  exact λ Z9=>by
   refine ru (dR (Cy hs)) (ru (jJ (Cy hs).2.1 (Cy hs).1) (ru (z4 hs) ?_))
   exact zx hm hn
 | text ho hs hm=>
  exact λ Z9=>by
   refine ru (pZ hs rfl) (ru (jJ (hs▸by decide) (hs▸by decide)) (ru hs ?_))
   exact congrArg (dS PV.str) (Dd _ hm)
theorem wB {k:Int→Nat}{r:bo}{size:Nat}(hr:aB size r):(∀ g∈r.gs,(k g:Int)=g)→kN k r=r.n:=by
 induction r,hr using aB.cs with
 | plain ho hs=>exact λ Z9=>jJ (ru hs (by decide)) (ru hs (by decide))
 | num ho h1 h2 h3 h4 hp=>exact λ Z9=>jJ (oz h1 h2).2.1 (oz h1 h2).1
 | jump ho hs h0 h1=>exact λ h=>(if_pos hs).trans (congrArg PV.int (h _ N2))
 | sw ho hs hz hg=>exact λ h=>(Jx hs).trans (congrArg PV.tup ((T0 ..).trans (z0v λ g m=>congrArg PV.int (h g m))))
 | named ho hs hm hn=>exact λ Z9=>jJ (Cy hs).2.1 (Cy hs).1
 | text ho hs hm=>exact λ Z9=>jJ (ru hs (by decide)) (ru hs (by decide))
noncomputable def isStr:PV→Bool
 | .str _=>true
 | _=>false
theorem CM {s:Nat}{k:List Nat}{v:PV}(h:(k,v)∈aI s):isStr v=false:=by
 have key:∀ l:List (List Nat×PV),(l.all λ q=>!isStr q.2)=true→(k,v)∈l→isStr v=false:=λ l h m=>ri (U2 _) (O2.mp h _ m)
 unfold aI at h
 split at h
 ·exact key _ (by decide +kernel) h
 ·split at h
  ·exact key _ (by decide +kernel) h
  ·exact key _ (by decide +kernel) h
theorem Gp {p:ae}{r:bo}{size:Nat}{k:Int→Nat}(hr:aB size r):nD r=true→fV p (af r.op) Eo=.ok (kN k r):=by
 refine ru Bj ?_
 induction r,hr using aB.cs with
 | plain=>exact λ h=>ff h
 | num=>exact λ h=>ff h
 | jump=>exact λ h=>ff h
 | sw=>exact λ h=>ff h
 | @named w o v kk ho hs hm hn =>
  have h:=CM hm
  revert h
  cases v with
  | str=>exact λ h=>ff h.symm
  | _=>exact λ Z9 h=>ff h
 | text ho hs hm=>
  exact λ he=>by
   refine ru (jJ (hs▸by decide) (hs▸by decide)) (ru hs ?_)
   exact (congrArg (dS PV.str) BW).trans (congrArg (λ t=>Except.ok (PV.str t)) (beq_iff_eq.mp he).symm)
theorem z3 {p:ae}{v:Int}{r:bo}{size:Nat}{k:Int→Nat}(hr:aB size r)(hl:∀ g∈r.gs,ak (lf v g)=true∧aM (lf v g) p.labs=some (k g)∧k g<p.rows.length):fV p (af r.op) (lw v r)=.ok (kN k r):=by
 unfold lw
 by_cases h:nD r=true
 ·refine ru (if_pos h) ?_;exact Gp hr h
 ·refine ru (if_neg h) ?_;exact v4 hr (dK v).1 hl
end
noncomputable section
noncomputable abbrev PP (lns:List Ln):ae:=⟨cx 0 lns,a6 0 lns,e8 0 lns⟩
noncomputable def tT (p:ae):Except (List Nat×Int) (List (Nat×PV)×List PV):=match bn (iD p) p.rows with
 | .error e=>.error e
 | .ok code=>match bn (jX p) p.cls with
  | .error e=>.error e
  | .ok cl=>.ok (code,cl)
theorem Cn {text:List Nat}{p:ae}(h:bc {} 0 (aq 10 text)=.ok p):lR text=tT p:=by
 unfold lR tT
 refine ru h ?_<;>rfl
theorem lj {ls:List (List Nat)}{lns:List Ln}(hL:cD ls lns)(hne:ls≠[])(hv:∀ l∈bU lns,ak l=true)(hn:(bU lns).Nodup):bc {} 0 (aq 10 (ah [10] ls))=.ok (PP lns) :=
 (congrArg (bc {} 0) (dv hne λ l m=>(xw (hL.c l m)).1)).trans (mF hL hv hn)
theorem r9 {α β γ δ ε:Type}{f:β→Except ε δ}{g:β→γ}{F:α→γ}{V:α→δ}{rows:List α}:(∀ r∈rows,∀ q,g q=F r→f q=.ok (V r))→∀ {l:List β},l.map g=rows.map F→bn f l=.ok (rows.map V):=by
 induction rows with
 | nil=>exact λ _ {l} e=>ri ((z0u.mp e).symm) rfl
 | cons r rows ih =>
  intro h l
  cases l with
  | nil=>exact λ e=>Nx e
  | cons q l=>exact λ e=>(ij (h r (.head _) q (List.cons.inj e).1)).trans (by refine ru (ih (λ x m=>h x (.tail _ m)) (List.cons.inj e).2) ?_;rfl)
theorem j7 {n:Nat}{s:List Nat}(h:s.length≤n):(ai s).length≤n∧∀ w∈ai s,w.length≤n:=by
 refine ⟨N1 (d7 s) h,λ w m=>?_⟩
 rw [d0] at m
 exact N1 (rq s none w m) (N1 (P0 (R9 _)) h)
theorem Al {lns:List Ln}(h1:(bx lns).length≤1000)(h2:(gD lns).length≤1000)(h3:∀ q∈bx lns,(∃ w,(w,q.1)∈bV)∧cN 70 q.2)(h4:∀ ws∈gD lns,ws.length≤1000∧∀ w∈ws,w.length≤1000):okP (PP lns) :=
 ⟨N1 (P0 (iS lns 0)) h1,N1 (P0 ((N3 (·.2)).symm.trans (congrArg List.length (fL lns 0)))) h2,λ q m =>
  have w:=h3 q.2 (ri (eu lns 0) (R6 m))
  ⟨w.1,w.2.1,(xw w.2).2⟩,λ q m=>h4 q.2 (ri (fL lns 0) (R6 m))⟩
section
variable {ls:List (List Nat)} {lns:List Ln} {rows:List bo} {cl:List Cl} {o:bo→List Nat} {f:Int→List Nat} {b:List Nat} {L:List (List Nat)} {K:Int→Prop}
theorem vR (h:B ls lns (rows.map λ r=>(r.op,o r)) (cl.map λ c=>ai (b0 f b c)) L)(nd:L.Nodup)(lv:∀ l∈L,ak l=true)(hne:ls≠[])(hb:bJ b)(nb:cN 2 b)(hz:rows.length≤1000)(hcz:cl.length≤1000)
  (hr:∀ r∈rows,aB rows.length r∧∀ g∈r.gs,K g) (hc:∀ c∈cl,aO rows.length c∧∀ x∈aA c,K x) (hK:∀ x,K x→0≤x→x≤(rows.length:Int)→ak (f x)=true∧cN 6 (f x)∧(f x,x.toNat)∈a6 0 lns)
  (no:∀ r∈rows,cN 70 (o r)) (rd:∀ r∈rows,(∀ g∈r.gs,ak (f g)=true∧aM (f g) (PP lns).labs=some g.toNat∧g.toNat<(PP lns).rows.length)→fV (PP lns) (af r.op) (o r)=.ok r.n) :
  bc {} 0 (aq 10 (ah [10] ls))=.ok (PP lns)∧lR (ah [10] ls)=.ok (rows.map (λ r=>(r.op,r.n)),cl.map cS)∧okP (PP lns):=by
 have hf:∀ x,K x→0≤x→x≤(rows.length:Int)→ak (f x)=true∧aM (f x) (PP lns).labs=some x.toNat:=λ x k h0 h1=>⟨(hK x k h0 h1).1,k7 (ru (eU lns 0) (h.s.nodup nd)) (hK x k h0 h1).2.2⟩
 have hl:(PP lns).rows.length=rows.length:=(iS lns 0).trans (ru h.r (N3 _))
 have m1:bn (iD (PP lns)) (PP lns).rows=.ok (rows.map λ r=>(r.op,r.n)):=r9 (F:=λ r=>(r.op,o r)) (V:=λ r=>(r.op,r.n)) (λ r m q e=>by
  have w:=rd r m λ g hg =>
   have bd:=i5 (hr r m).1 g hg
   ⟨(hf g ((hr r m).2 g hg) bd.1 (U9 bd.2)).1,(hf g ((hr r m).2 g hg) bd.1 (U9 bd.2)).2,ru hl ((Int.toNat_lt bd.1).mpr bd.2)⟩
  unfold iD
  refine ru e (ru w ?_)
  rfl) ((eu lns 0).trans h.r)
 have m2:bn (jX (PP lns)) (PP lns).cls=.ok (cl.map cS):=r9 (F:=λ c=>ai (b0 f b c)) (V:=cS) (λ c m q e=>(v5 (lf:=f) (p:=PP lns) (k:=Int.toNat) hb (hc c m).1 λ x hx=>hf x ((hc c m).2 x hx) (bu (hc c m).1 x hx).1 (bu (hc c m).1 x hx).2).elim λ w e2=>by
  unfold jX
  refine ru e (ru e2.1 (ru (e2.2 λ x hx=>T4 (bu (hc c m).1 x hx).1) ?_))
  rfl) ((fL lns 0).trans h.c)
 refine ⟨(lj h.l hne (λ l m=>lv l (h.s.subset m)) (h.s.nodup nd)),(Cn (lj h.l hne (λ l m=>lv l (h.s.subset m)) (h.s.nodup nd))).trans (by unfold tT;exact ru m1 (ru m2 rfl)),Al ?_ ?_ ?_ ?_⟩
 ·refine ru h.r (ru (N3 ..) ?_);exact hz
 ·refine ru h.c (ru (N3 ..) ?_);exact hcz
 ·refine ru h.r ?_;exact Q5.mpr λ r m=>⟨⟨_,(hr r m).1.mem⟩,no r m⟩
 ·refine ru h.c ?_;exact Q5.mpr λ c m=>j7 (N1 (B8 (hc c m).1 nb λ x hx=>(hK x ((hc c m).2 x hx) (bu (hc c m).1 x hx).1 (bu (hc c m).1 x hx).2).2.1).1 (by decide))
end
theorem yz {v:Int}{rows:List bo}{cl:List Cl}(hz:rows.length≤16)(hcz:cl.length≤60)(hr:∀ r∈rows,aB rows.length r)(hc:∀ c∈cl,aO rows.length c):bc {} 0 (aq 10 (ah [10] (az v rows cl)))=.ok (PP (b7 v rows cl))∧lR (ah [10] (az v rows cl))=.ok (rows.map (λ r=>(r.op,r.n)),cl.map cS)∧okP (PP (b7 v rows cl)) :=
 vR (K:=λ Z9=>True) (eT hz hr hc) (iq v (n:=rows.length) (Q8 hz)).1 (iq v (n:=rows.length) (Q8 hz)).2 (R5 _ _) (dK v) (cC v) (N1 hz (by decide)) (N1 hcz (by decide)) (λ r m=>⟨hr r m,λ Z9 Z9=>trivial⟩) (λ c m=>⟨hc c m,λ Z9 Z9=>trivial⟩) (λ x Z9 h0 h1=>⟨wx hz h1,DE hz h1,kM.1 _ (mE h1)⟩) (λ r m=>Ah (hr r m) hz) λ r m hl=>(z3 (hr r m) hl).trans (congrArg Except.ok (wB (hr r m) λ g hg=>T4 (i5 (hr r m) g hg).1))
end
noncomputable section
theorem tf (a:Int):∀ l:List Int,(ti a l).length=l.length+1
 | []=>rfl
 | b::r=>f7 (P:=λ l:List Int=>l.length=r.length+1+1) (λ Z9=>rfl) λ Z9=>congrArg (·+1) (tf a r)
theorem xX:∀ l:List Int,(aW l).length=l.length
 | []=>rfl
 | a::r=>(tf a _).trans (congrArg (·+1) (xX r))
theorem o9 {x:Int}{v:PV}:∀ {xs:List Int} {vs:List PV},bz x xs vs=some v→∃ j:Nat,xs[j]?=some x∧vs[j]?=some v
 | [],_=>λ h=>nN h
 | _::_,[]=>λ h=>nN h
 | a::xs,u::vs=>by
  show (if x=a then some u else bz x xs vs)=some v→_
  by_cases e:x=a
  ·refine ru (if_pos e) ?_;exact λ h=>⟨0,congrArg some e.symm,h⟩
  ·refine ru (if_neg e) ?_;exact λ h=>(o9 h).elim λ j w=>⟨j+1,w.1,w.2⟩
section
variable {ks:List Int} {x y:Int}
theorem uL (h:x∈ks)(hl:ks.length<64):∃ j:Nat,j<ks.length∧bE ks x=Lk j∧(aW ks)[j]?=some x :=
 (o9 (aV h hl).1).elim λ j w=>(O9.mp ((Q3 ..).symm.trans w.2)).elim λ a u=>(O6.mp u.1).elim λ hj e =>
  ⟨j,z2v hj Q4,(Option.some.inj (congrArg jp u.2)).symm.trans (congrArg Lk (e.symm.trans (Z3 hj))),w.1⟩
theorem KS:∀ j:Nat,j<64→ak (Lk j)=true:=by decide +kernel
theorem Il {i j:Nat}(h:Lk i=Lk j):i=j:=by
 have h:=(List.cons.inj h).2
 rw [d1,d1] at h
 exact Int.ofNat.inj (Option.some.inj ((d5 i).symm.trans ((congrArg (dJ 0) h).trans (d5 j))))
theorem dk (h:x∈ks)(hl:ks.length<64):ak (bE ks x)=true∧cN 6 (bE ks x) :=
 have q:ak (bE ks x)=true:=(uL h hl).elim λ j w=>ru w.2.1 (KS j (P8 w.1 hl))
 ⟨q,tP q (N1 (aV h hl).2 (by decide))⟩
theorem DF (hx:x∈ks)(hy:y∈ks)(hl:ks.length<64)(e:bE ks x=bE ks y):x=y :=
 (uL hx hl).elim λ i w=>(uL hy hl).elim λ j u=>Option.some.inj (w.2.2.symm.trans (ru (Il (w.2.1.symm.trans (e.trans u.2.1))) u.2.2))
end
noncomputable def pS (ks:List Int)(r:bo):List Nat:=o3 (bE ks) [32] (rowS r)
noncomputable def IV (ks:List Int)(rows:List bo)(i:Nat):List Ln:=match rows[i]? with
 | some r=>[⟨if (i:Int)∈ks then [bE ks i] else [],.row r.op (pS ks r)⟩]
 | none=>[]
noncomputable def K9 (ks:List Int)(n:Nat):List Ln:=if (n:Int)∈ks then [⟨[bE ks n],.nil⟩] else []
noncomputable def Na (ks:List Int)(cl:List Cl):List Ln:=cl.map λ c=>⟨[],.cl (ai (b0 (bE ks) [32] c))⟩
noncomputable def hN (ks:List Int)(rows:List bo)(cl:List Cl):List Ln:=(List.range rows.length).flatMap (IV ks rows)++K9 ks rows.length++Na ks cl
noncomputable def sR (ks:List Int)(rows:List bo)(i:Nat):List (Nat×List Nat):=match rows[i]? with | some r=>[(r.op,pS ks r)] | none=>[]
noncomputable def kL (ks:List Int)(i:Nat):List (List Nat):=if (i:Int)∈ks then [bE ks i] else []
section
variable {ks:List Int} {rows:List bo} {cl:List Cl}
theorem kU {i:Nat}{l:List Nat}:l∈kL ks i→(i:Int)∈ks∧l=bE ks i:=by
 exact f7 (P:=λ s=>l∈s→(i:Int)∈ks∧l=bE ks i) (λ q m=>⟨q,P7.mp m⟩) λ Z9 m=>o4 m
theorem Jz (n:Nat)(hk:ks.length<64):((List.range n).flatMap (kL ks)).Nodup :=
 List.pairwise_flatMap.mpr ⟨λ i Z9=>f7 (P:=List.Nodup) (λ Z9=>V3 _ _) λ Z9=>.nil,List.nodup_range.imp λ hne x hx y hy e=>hne (Int.ofNat.inj (DF (kU hx).1 (kU hy).1 hk ((kU hx).2.symm.trans (e.trans (kU hy).2))))⟩
theorem Jy {n:Nat}(hk:ks.length<64):∀ l∈(List.range n).flatMap (kL ks),ak l=true:=List.forall_mem_flatMap.mpr λ Z9 Z9 Z9 m=>ru ((kU m).2) ((dk (kU m).1 hk).1)
theorem E4 {r:bo}(hr:aB rows.length r)(hg:r.gs ⊆ ks)(hk:ks.length<64):cN 70 (pS ks r):=E9 hr.rowS (fo rfl) λ Z9 m=>(dk (hg m) hk).2
theorem ug {i:Nat}{r:bo}(hr:aB rows.length r)(hg:r.gs ⊆ ks)(hk:ks.length<64):B [d8 ks i r] [⟨if (i:Int)∈ks then [bE ks i] else [],.row r.op (pS ks r)⟩] [(r.op,pS ks r)] [] (kL ks i):=by
 have hop:pS ks r=[]∨a8 (pS ks r)=true:=rZ hr.rowS λ g m=>(dk (hg m) hk).1
 have x0:a8 (r.nm++bC [32] (pS ks r))=true∧bF (r.nm++bC [32] (pS ks r)) ⟨[],.row r.op (pS ks r)⟩:=⟨oQ (dE _ hr.mem).2.2.2.2.2.2 hop,pc bN hr.mem hop⟩
 have nt:=zw (b:=[32]) (fo rfl) (E4 hr hg hk)
 unfold d8 ly kL
 by_cases q:(i:Int)∈ks
 ·refine ru (if_pos q) (ru (if_pos q) ?_)
  exact .one (by
   refine ru (show bE ks i++[58,32]++r.nm++bC [32] (o3 (bE ks) [32] (rowS r))=bE ks i++[58]++([32]++(r.nm++bC [32] (pS ks r))) from (N6 _ r.nm _).trans ((congrArg (·++_) (N6 (bE ks i) [58] [32]).symm).trans (N6 ..))) (ru (bO (fE bN (dk q hk).1 x0.1 x0.2).1) ?_)
   exact (fE bN (dk q hk).1 x0.1 x0.2).2) (dh (aD (aD (aD (dk q hk).2 (b:=2) (fo rfl)) (uw _ hr.mem)) nt) rfl)
 ·refine ru (if_neg q) (ru (if_neg q) ?_)
  exact .one (by
   refine ru (show []++r.nm++bC [32] (o3 (bE ks) [32] (rowS r))=r.nm++bC [32] (pS ks r) from rfl) (ru (bO x0.1) ?_)
   exact x0.2) (dh (aD (uw _ hr.mem) nt) rfl)
theorem rB (hk:ks.length<64)(hr:∀ r∈rows,aB rows.length r∧r.gs ⊆ ks)(hc:∀ c∈cl,aO rows.length c∧aA c ⊆ ks):B (a0 ks rows cl) (hN ks rows cl) (rows.map λ r=>(r.op,pS ks r)) (cl.map λ c=>ai (b0 (bE ks) [32] c)) ((List.range (rows.length+1)).flatMap (kL ks)):=by
 have hR:B ((List.range rows.length).map (a5 ks rows)) ((List.range rows.length).flatMap (IV ks rows)) ((List.range rows.length).flatMap (sR ks rows)) [] ((List.range rows.length).flatMap (kL ks)) :=
  X6.symm▸B.flatR (f:=λ i=>[a5 ks rows i]) (List.range rows.length) λ i m=>by
   unfold a5 IV sR
   refine ru (O4 (R4.mp m)) ?_
   exact ug (hr _ (U5 _)).1 (hr _ (U5 _)).2 hk
 have he:B (dY ks rows.length) (K9 ks rows.length) [] [] (kL ks rows.length):=by
  unfold dY K9 kL
  by_cases q:((rows.length:Nat):Int)∈ks
  ·refine ru (if_pos q) (ru (if_pos q) (ru (if_pos q) ?_));exact .one (gT (dk q hk).1) (dh (aD (dk q hk).2 (b:=1) (fo rfl)) rfl)
  ·refine ru (if_neg q) (ru (if_neg q) (ru (if_neg q) ?_));exact .nil
 exact ((hR.app he).app (.flatC cl λ c m=>xr (s:=[]) (hc c m).1 bN rfl jd (fo rfl) (λ x h=>(dk ((hc c m).2 h) hk).1) λ x h=>(dk ((hc c m).2 h) hk).2:B (cl.map (n7 (bE ks) [32])) (Na ks cl) [] (cl.map λ c=>ai (b0 (bE ks) [32] c)) [])).cast ((O3 _).trans ((O3 _).trans ((nU (f:=λ r:bo=>[(r.op,pS ks r)]) λ i c e=>by unfold sR;exact ru e rfl).trans X6.symm))) rfl (by refine ru (O3 ..) (ru Z1 (ru V6 (ru (Y3 ..) ?_)));exact .refl _)
theorem uh {i:Nat}(hi:i≤rows.length)(q:(i:Int)∈ks):(bE ks i,i)∈a6 0 (hN ks rows cl):=by
 have hp:=wz (f:=λ i:Nat=>bE ks i) (g:=IV ks rows) (Q:=λ i:Nat=>(i:Int)∈ks) rows.length λ i hi=>by
  unfold IV
  refine ru (O4 hi) ?_
  exact ⟨rfl,λ q c=>by refine ru (if_pos q) ?_;exact .head _⟩
 refine ru (b8 ..) (ru (b8 ..) (ru hp.1 (ru (R9 ..) ?_)))
 refine O7 _ ((z2u hi).elim (λ h=>O7 _ (hp.2 i h q)) λ e=>O8 _ ?_)
 unfold K9
 refine ri e (ru (if_pos q) ?_)
 exact .head _
theorem uj (hz:rows.length≤16)(h1:1≤rows.length)(hcz:cl.length≤60)(hk:ks.length<64)(hr:∀ r∈rows,aB rows.length r∧r.gs ⊆ ks)(hc:∀ c∈cl,aO rows.length c∧aA c ⊆ ks):bc {} 0 (aq 10 (ah [10] (a0 ks rows cl)))=.ok (PP (hN ks rows cl))∧lR (ah [10] (a0 ks rows cl))=.ok (rows.map (λ r=>(r.op,r.n)),cl.map cS)∧okP (PP (hN ks rows cl)) :=
 vR (K:=(·∈ks)) (rB hk hr hc) (Jz _ hk) (Jy hk) (λ e=>absurd (z2b.mp (z2b.mp e).1).1 λ e=>absurd (List.range_eq_nil.mp (z0u.mp e)) (z0k h1)) bN (fo rfl) (N1 hz (by decide)) (N1 hcz (by decide)) hr hc (λ x m h0 h1=>⟨(dk m hk).1,(dk m hk).2,by
   have w:=uh (rows:=rows) (cl:=cl) (mE h1) (ri ((T4 h0).symm) m)
   rw [T4 h0] at w
   exact w⟩) (λ r m=>E4 (hr r m).1 (hr r m).2 hk) λ r m hl=>(v4 (hr r m).1.rowS bN.1 hl).trans (congrArg Except.ok (wB (hr r m).1.rowS λ g hg=>T4 (i5 (hr r m).1 g hg).1))
end
end
noncomputable section
theorem ID {gs ks:List Int}:gG 6 (.tup (gs.map .int)) ks=.ok ([32,40]++ah [44,32] (gs.map (bE ks))++[41]):=by
 unfold gG
 simp only [T0];rfl
noncomputable def b9 (r:bo):lm:=⟨r.op,r.n,r.gs⟩
theorem nT {β γ ε:Type}{st:β→γ→Except ε β}{F:β→γ→β}{P:γ→Prop}(hst:∀ b g,P g→st b g=.ok (F b g))(gs:List γ):∀ b,(∀ g∈gs,P g)→bi st b gs=.ok (gs.foldl F b):=by
 induction gs with
 | nil=>exact λ Z9 Z9=>rfl
 | cons g r ih =>
  refine λ b h=>?_
  refine ru l6 ?_
  refine ru (hst b g (h g N2)) ?_
  exact ih _ λ x m=>h x (N9 _ m)
theorem uY {size i:Nat}{gs ks:List Int}(h:∀ g∈gs,0≤g∧g<(size:Int)):bi (cM size i) ks gs=.ok (bY ks gs) :=
 nT (P:=λ g=>0≤g∧g<(size:Int)) (F:=λ ks g=>dZ g ks) (λ b g h=>if_neg λ q=>q.elim (V2.mpr h.1) (Y7.mpr h.2)) gs ks h
theorem uZ {size i:Nat}{gs ks:List Int}(h:∀ g∈gs,0≤g∧g≤(size:Int)):bi (dW size i) ks gs=.ok (bY ks gs) :=
 nT (P:=λ g=>0≤g∧g≤(size:Int)) (F:=λ ks g=>dZ g ks) (λ b g h=>if_neg λ q=>q.elim (V2.mpr h.1) (V2.mpr h.2)) gs ks h
theorem BF {γ:Type}{N:γ→List Int}(is:List γ):∀ ks,is.foldl (λ ks i=>bY ks (N i)) ks=bY ks (is.flatMap N):=by
 induction is with
 | nil=>exact λ Z9=>rfl
 | cons i r ih=>exact λ ks=>(ih _).trans ((iy ..).symm.trans (congrArg (bY ks) List.flatMap_cons.symm))
theorem tm {st:Nat→List Int→Int→Except (List Nat×Int) (List Int)}{N:Nat→List Int}{is:List Nat}{ks:List Int}(h:∀ i∈is,∀ ks,bi (st i) ks (N i)=.ok (bY ks (N i))):bi (λ ks i=>bi (st i) ks (N i)) ks is=.ok (bY ks (is.flatMap N)) :=
 (nT (P:=λ i=>i∈is) (F:=λ ks i=>bY ks (N i)) (λ b i m=>h i m b) is ks λ Z9 m=>m).trans (congrArg Except.ok (BF is ks))
theorem Ho {code:List lm}{P:Int→Prop}(h:∀ c∈code,∀ g∈c.gs,P g)(i:Nat):∀ g∈gP code i,P g:=by
 unfold gP
 cases e:code[i]? with
 | none=>exact O1 _
 | some c=>exact h c (Q1 e)
theorem HK {cl:List Cl}{P:Int→Prop}(h:∀ c∈cl,∀ g∈aA c,P g)(i:Nat):∀ g∈jU cl i,P g:=by
 unfold jU
 cases e:cl[i]? with
 | none=>exact O1 _
 | some c=>exact h c (Q1 e)
theorem yx {code:List lm}{cl:List Cl}(hg:∀ c∈code,∀ g∈c.gs,0≤g∧g<(code.length:Int))(he:∀ c∈cl,∀ x∈aA c,0≤x∧x≤(code.length:Int)):cK code cl=.ok (bY [] (code.flatMap (·.gs)++cl.flatMap aA)):=by
 unfold cK
 refine ru (tm (st:=λ i=>cM code.length i) (N:=gP code) λ i m ks=>uY (Ho hg i)) (ru (nU (l:=code) (f:=(·.gs)) (F:=gP code) λ i c h=>by unfold gP;exact ru h rfl) ?_)
 exact (tm (st:=λ i=>dW code.length i) (N:=jU cl) λ i m ks=>uZ (HK he i)).trans (by exact ru (nU (l:=cl) (f:=aA) (F:=jU cl) λ i c h=>by unfold jU;exact ru h rfl) (ru (iy ..) rfl))
theorem jr {r:bo}(h:¬ (1≤af r.op∧af r.op≤4)):rowS r=r:=by
 unfold rowS
 exact ru (if_neg h) rfl
theorem CD {s:Nat}{i:Int}{ks:List Int}(h1:1≤s)(h4:s≤4)(a:ew s≤i)(b:i≤ey s):gG s (.int i) ks=.ok ([32]++aL i) :=
 (wh (P:=λ s=>gG s (.int i) ks=mw (ew s) (ey s) (.int i)) h1 h4 rfl rfl rfl rfl).trans (if_neg λ h=>h.elim (V2.mpr a) (V2.mpr b))
theorem F3 {s:Nat}{v:PV}{k:List Nat}{ks:List Int}(hs:s=7∨s=8∨s=9∨s=11)(h:aT (aI s) v=some k):gG s v ks=.ok ([32]++k) :=
 (yn (P:=λ s=>gG s v ks=match aT (aI s) v with | some k=>.ok ([32]++k) | none=>.error gz) hs rfl rfl rfl rfl).trans (by exact ru h rfl)
theorem jk {s:List Nat}{w:Except (List Nat) (List Nat)}(h:s≠[])(e:w=.ok ([32]++s)):w=.ok (bC [32] s) :=
 e.trans (congrArg Except.ok (if_neg h).symm)
theorem xK {size:Nat}{ks:List Int}{r:bo}(hr:aB size r)(hk:ks.length<64):r.gs ⊆ ks→gG (af r.op) r.n ks=.ok (bC [32] (pS ks r)):=by
 unfold pS
 induction r,hr using aB.cs with
 | plain ho hs=>exact λ Z9=>by refine ru (jr (hs▸by decide)) (ru (dR (hs▸by decide)) (ru hs ?_));rfl
 | @num w o i pre ho h1 h2 h3 h4 hp=>
  exact λ Z9=>by
   have e:rowS ⟨o,w,.int i,pre++aL i,[]⟩=⟨o,w,.int i,aL i,[]⟩:=congrArg (λ w'=>(⟨o,w,.int i,w',[]⟩:bo)) (if_pos ⟨h1,h2⟩)
   refine ru e (ru (dR (oz h1 h2)) ?_)
   exact jk (rK i) (CD h1 h2 h3 h4)
 | jump ho hs h0 h1=>
  exact λ hg=>by
   refine ru (jr (hs▸by decide)) (ru (wb hs) ?_)
   exact jk (jG (dk (hg N2) hk).1) (by refine ru hs ?_;rfl)
 | sw ho hs hz hgs=>
  exact λ hg=>by
   refine ru (jr (hs▸by decide)) (ru (wa hs) ?_)
   exact jk (R5 _ _) (by refine ru hs ?_;exact ID)
 | named ho hs hm hn=>
  exact λ Z9=>by
   refine ru (jr (yn (P:=λ s=>¬ (1≤s∧s≤4)) hs (by decide) (by decide) (by decide) (by decide))) (ru (dR (Cy hs)) ?_)
   exact jk (qf hn).2 (F3 hs hn)
 | text ho hs hm=>
  exact λ Z9=>by
   refine ru (jr (hs▸by decide)) (ru (pZ hs rfl) ?_)
   exact jk (R5 _ _) (by refine ru hs ?_;rfl)
theorem uQ {size i:Nat}{ks:List Int}{r:bo}(hr:aB size r)(hg:r.gs ⊆ ks)(hk:ks.length<64):yH ks i (b9 r)=.ok (d8 ks i r):=by
 unfold yH b9
 refine ru (z0c ..) (ru (bP hr.mem).1 (ru (xK hr hk hg) (ru ((jy hr.mem).2) ?_)))
 show Except.ok (if (i:Int)∈ks then (bE ks i++[58,32])++(r.nm++bC [32] (pS ks r)) else r.nm++bC [32] (pS ks r))=.ok ((if (i:Int)∈ks then bE ks i++[58,32] else [])++r.nm++bC [32] (pS ks r))
 by_cases q:(i:Int)∈ks
 ·refine ru (if_pos q) (ru (if_pos q) ?_);exact congrArg Except.ok (N6 ..).symm
 ·refine ru (if_neg q) (ru (if_neg q) ?_);rfl
theorem y1 {size:Nat}{ks:List Int}{c:Cl}(hc:aO size c):mA ks c=.ok (n7 (bE ks) [32] c) :=
 have go:∀ {c:Cl} {m:List Nat},gO ks c++([32]++m)++iF ks c=[46,116,114,121]++[32]++bE ks c.t0++[32,116,111,32]++bE ks c.t1++[32]++m++[32]++bE ks c.h0++[32,116,111]++[32]++bE ks c.h1:=λ {c m}=>by
  refine ru (KN ..) ?_
  show gO ks c++([32]++m)++([32]++bE ks c.h0++[32,116,111,32]++bE ks c.h1)=_
  (rewrite [Id [32]];refine ru (N6 ..) ?_)
  exact (Id ..).trans rfl
 aO.cs (motive:=λ c=>mA ks c=.ok (n7 (bE ks) [32] c)) hc
  (λ t0 t1 h0 h1 e m=>by
   show (match aT a7 (.int e) with | some k=>_ | none=>_)=_
   refine ru (DJ _ m) ?_
   exact congrArg Except.ok ((congrArg (·++iF ks ⟨0,t0,t1,h0,h1,e⟩) (N6 (gO ks ⟨0,t0,t1,h0,h1,e⟩) [32,99,97,116,99,104,32] (kw e))).trans (go (c:=⟨0,t0,t1,h0,h1,e⟩) (m:=[99,97,116,99,104]++[32]++kw e))))
  (λ t0 t1 h0 h1 e=>congrArg Except.ok ((congrArg (·++iF ks ⟨1,t0,t1,h0,h1,e⟩) (Id (gO ks ⟨1,t0,t1,h0,h1,e⟩) [32,102,105,108,116,101,114,32] (bE ks e) [32,99,97,116,99,104])).trans (go (c:=⟨1,t0,t1,h0,h1,e⟩) (m:=[102,105,108,116,101,114]++[32]++bE ks e++[32,99,97,116,99,104]))))
  (λ t0 t1 h0 h1=>congrArg Except.ok (go (c:=⟨2,t0,t1,h0,h1,0⟩) (m:=[102,105,110,97,108,108,121])))
  λ t0 t1 h0 h1=>congrArg Except.ok (go (c:=⟨4,t0,t1,h0,h1,0⟩) (m:=[102,97,117,108,116]))
theorem vg {rows:List bo}{cl:List Cl}(hz:rows.length≤60)(hr:∀ r∈rows,aB rows.length r)(hc:∀ c∈cl,aO rows.length c):qJ (rows.map b9) cl=.ok (ah [10] (a0 (fh rows cl) rows cl)):=by
 have h1:bn (fH (fh rows cl) (rows.map b9)) (List.range rows.length)=.ok ((List.range rows.length).map (a5 (fh rows cl) rows)):=wn λ i m=>by
  unfold fH a5
  refine ru (Q3) (ru (O4 (R4.mp m)) ?_)
  exact uQ (hr _ (U5 _)) (qu (U5 _)) (O0 (N1 (fX (nB hr hc)) (P3 hz)) (by decide):(fh rows cl).length<64)
 have h2:bn (k9 (fh rows cl) cl) (List.range cl.length)=.ok (cl.map (n7 (bE (fh rows cl)) [32])):=(wn (h:=λ i=>(cl[i]?.map (n7 (bE (fh rows cl)) [32])).getD []) λ i m=>by
  unfold k9
  refine ru (O4 (R4.mp m)) ?_
  exact congrArg (CB (i:Int)) (y1 (hc _ (U5 _)))).trans (congrArg Except.ok (yy λ i c e=>by refine ru e ?_;rfl))
 unfold qJ
 refine ru ((yx (Q5.mpr λ r m=>ri ((N3 (as:=rows) b9).symm) (i5 (hr r m))) λ c m=>ri ((N3 (as:=rows) b9).symm) (bu (hc c m))).trans (congrArg (λ l=>Except.ok (bY [] (l++cl.flatMap aA))) (List.flatMap_map ..)):cK (rows.map b9) cl=.ok (fh rows cl)) (ru (N3 ..) ?_)
 dsimp only
 refine ru h1 ?_
 dsimp only
 refine ru h2 ?_
 rfl
end
noncomputable section
theorem mG {b:List (List Nat)}{p':ae}:∀ {a:List (List Nat)} {p:ae} {k:Nat},bc p k a=.ok p'→bc p k (a++b)=bc p' (k+a.length) b
 | [],p,k=>λ h=>ri (Except.ok.inj h) rfl
 | l::a,p,k=>by
  show (match fc p (av l) (k+1) with | .ok p'=>bc p' (k+1) a | .error e=>.error (e.1,k+1,e.2))=.ok p'→(match fc p (av l) (k+1) with | .ok p'=>bc p' (k+1) (a++b) | .error e=>.error (e.1,k+1,e.2))=_
  cases fc p (av l) (k+1) with
  | error e=>exact λ h=>nomatch h
  | ok q=>exact λ h=>(mG h).trans (congrArg (bc p' · b) (S4 k 1 a.length))
theorem cD.split {b:List (List Nat)}:∀ {a:List (List Nat)} {lns:List Ln},cD (a++b) lns→∃ c d,lns=c++d∧c.length=a.length∧cD a c∧cD b d
 | [],lns,h=>⟨[],lns,rfl,rfl,.nil,h⟩
 | l::a,_,.cons h1 hc h2=>(cD.split h2).elim λ c w=>w.elim λ d w=>⟨_::c,d,congrArg (_::·) w.1,congrArg (·+1) w.2.1,.cons h1 hc w.2.2.1,w.2.2.2⟩
theorem jF (d:Nat):∀ (b:List Ln) (c:Nat),a6 (c+d) b=(a6 c b).map λ q=>(q.1,q.2+d)
 | [],_=>rfl
 | ln::r,c=>by
  show ln.labs.map (·,c+d)++a6 (c+d+(aR ln.act).length) r=(ln.labs.map (·,c)++a6 (c+(aR ln.act).length) r).map _
  (refine ru (S4 ..) ?_;rewrite [jF d r];refine ru P6 (ru T0 ?_))
  rfl
theorem A6 {a b:List Ln}{x:Ln}{l:List Nat}{c j:Nat}:(l,j)∈a6 c (a++b)→∃ j',(l,j')∈a6 c (a++x::b)∧j'≤j+(aR x.act).length∧(a=[]→j'=j+(aR x.act).length):=by
 refine ru (b8 ..) (ru (b8 ..) ?_)
 exact λ h=>(R0.mp h).elim (λ m=>⟨j,O7 _ m,P1 _ _,λ e=>by rw [e] at m;nomatch m⟩) λ m=>⟨j+(aR x.act).length,O8 _ (O8 _ (by
  refine ru (jF ..) ?_
  exact S0.mpr ⟨_,m,rfl⟩)),N8 _,λ Z9=>rfl⟩
theorem mR:∀ (a b:List Ln) (k:Nat),cx k (a++b)=cx k a++cx (k+a.length) b
 | [],b,k=>rfl
 | ln::r,b,k=>(congrArg (_++·) ((mR r b (k+1)).trans (congrArg (λ n=>_++cx n b) (S4 k 1 r.length)))).trans (N6 ..).symm
theorem pC:∀ (a b:List Ln) (k:Nat),e8 k (a++b)=e8 k a++e8 (k+a.length) b
 | [],b,k=>rfl
 | ln::r,b,k=>(congrArg (_++·) ((pC r b (k+1)).trans (congrArg (λ n=>_++e8 n b) (S4 k 1 r.length)))).trans (N6 ..).symm
noncomputable def iP:List (List Nat):=match yL with | .tup vs=>vs.filterMap jp | _=>[]
theorem MM:yL=.tup (iP.map .str)∧iP.length=47:=⟨rfl,rfl⟩
theorem jg (w:List Nat)(m:w∈iP):cN 900 w∧a8 w=true :=
 have q:=an (O2.mp (show iP.all (λ w=>(Nat.ble w.length 900&&w.all CA)&&a8 w)=true by decide +kernel) w m)
 ⟨fo q.1,q.2⟩
noncomputable def M5 (w:List Nat):Bool:=!kQ (ac w).1&&!du (ac w).1&&!decide ((ac w).1=[])&&!decide ((ac w).1=fj)&&(aM (ac w).1 bV).isNone
noncomputable def M4 (w:List Nat):Bool:=kQ (ac w).1&&!ak (ac w).1.dropLast
noncomputable def M3 (w:List Nat):Bool:=kQ (ac w).1&&kQ (ac (ac w).2).1&&decide ((ac (ac w).2).1.dropLast=(ac w).1.dropLast)
theorem yl {b:Bool}(h:(!b)=true):b=false:=(U2 _).mp h
section
variable {w:List Nat} {p:ae} {num:Nat}
theorem IZ (h:M5 w=true):∃ e,fc p w num=.error e :=
 ⟨(Mz,p),jt ((rR (yl (aj (aj (aj (aj h)))))).trans (congrArg some ((if_neg λ q=>(P5.mp q).elim (λ q=>ff ((yl (aE (aj (aj h)))).symm.trans q)) λ q=>ff ((yl (aE (aj (aj (aj h))))).symm.trans q)).trans ((if_neg (of_decide_eq_false (yl (aE (aj h))))).trans (by exact ru (z1q.mp (aE h)) rfl)))))⟩
theorem IY (h:M4 w=true):∃ e,fc p w num=.error e:=⟨(c7,p),jt (kp (aj h) (if_pos (P5.mpr (.inl (aE h)))))⟩
theorem pn {k:List Nat}{n:Nat}:∀ l:List (List Nat×Nat),(aM k (l++[(k,n)])).isSome=true
 | []=>congrArg Option.isSome (if_pos rfl:(if k=k then some n else none)=some n)
 | q::l=>f7 (P:=λ o:Option Nat=>o.isSome=true) (λ Z9=>rfl) λ Z9=>pn l
theorem x7 {p':ae}{l:List Nat}:aP p l=some p'→aP p' l=none :=
 f7 (P:=λ o=>o=some p'→aP p' l=none) (λ Z9 e=>nN e) λ Z9 e=>ri (Option.some.inj e) (if_pos (P5.mpr (.inr (pn p.labs))))
theorem IX:M3 w=true→∃ e,fc p w num=.error e:=by
 cases w with
 | nil=>exact λ h=>ff (aj (aj h))
 | cons c w =>
  intro h
  cases hp:aP p (ac (c::w)).1.dropLast with
  | none=>exact ⟨_,jt (kp (aj (aj h)) hp)⟩
  | some p'=>exact ⟨_,jt ((oW (aj (aj h)) hp).trans (kp (aE (aj h)) (ru (of_decide_eq_true (aE h)) (x7 hp))))⟩
noncomputable def kT (w:List Nat):Bool:=M5 w||M4 w||M3 w
theorem LE (h:kT w=true):∃ e,fc p w num=.error e:=(P5.mp h).elim (λ h=>(P5.mp h).elim IZ IY) IX
theorem zu {k:Nat}{b:List (List Nat)}{e:List Nat×ae}(h:fc p (av w) (k+1)=.error e):bc p k (w::b)=.error (e.1,k+1,e.2):=by
 show (match fc p (av w) (k+1) with | .ok p'=>bc p' (k+1) b | .error e=>.error (e.1,k+1,e.2))=_
 exact ru h rfl
theorem KL {a b:List (List Nat)}{lns:List Ln}(hL:cD a lns)(h10:∀ l∈a++w::b,10∉l)(hv:∀ l∈bU lns,ak l=true)(hn:(bU lns).Nodup)(hw:a8 w=true)(hT:kT w=true):∃ e,bc {} 0 (aq 10 (ah [10] (a++w::b)))=.error e∧e.2.1=a.length+1:=by
 refine ru (dv (U1 _ (R5 _ _)) h10) (ru (mG (mF (p:={}) (k:=0) hL hv hn)) ?_)
 exact (LE hT).elim λ e he=>⟨_,zu ((congrArg (fc _ · _) (bO hw)).trans he),congrArg (·+1) (R9 _)⟩
end
end
noncomputable section
noncomputable def oU:List Nat:=[115,101,108,102]
noncomputable def ym:List Nat:=[110,111,119,104,101,114,101]
noncomputable def xW:List Nat:=[120]
noncomputable def cX (v:Int)(n:Nat):List (List Nat):=oU::bX v n
theorem BB:∀ k:Nat,k<7→∀ n:Nat,n<17→(cX (k:Int) n).Nodup∧(cX (k:Int) n).all ak=true∧ym∉cX (k:Int) n∧xW∉cX (k:Int) n:=by decide +kernel
theorem BC (v:Int){n:Nat}(h:n<17):(cX v n).Nodup∧(cX v n).all ak=true∧ym∉cX v n∧xW∉cX v n:=by
 unfold cX
 refine ru (tj ..) ?_
 exact (mI (P:=λ w=>(cX w n).Nodup∧(cX w n).all ak=true∧ym∉cX w n∧xW∉cX w n) v (k:=7) (by decide) λ k hk=>BB k hk n h)
inductive ER (p:ae):Ir→Prop
 | row {op:Nat} {rest c:List Nat}:fV p (af op) rest=.error c→(∃ w,(w,op)∈bV)∧cN 70 rest→ER p (.row op rest)
 | cl {ws:List (List Nat)} {c:List Nat}:zd p ws=.error c→(ws.length≤1000∧∀ w∈ws,w.length≤1000)→ER p (.cl ws)
theorem ER.ok {p:ae}{x:Ir}(h:ER p x):((∀ q∈aR x,(∃ w,(w,q.1)∈bV)∧cN 70 q.2)∧∀ ws∈aC x,ws.length≤1000∧∀ w∈ws,w.length≤1000)∧(aR x).length≤1∧(aC x).length≤1:=by
 cases h with
 | row _ h=>exact ⟨⟨Z7.mpr h,O1 _⟩,N8 _,P4 _⟩
 | cl _ h=>exact ⟨⟨O1 _,Z7.mpr h⟩,P4 _,N8 _⟩
section
variable {p:ae} {e:List Nat×Int}
theorem Co {l r:List (Nat×Nat×List Nat)}{q:Nat×Nat×List Nat}(hp:p.rows=l++q::r)(he:iD p q=.error e)(hl:∀ y∈l,∃ v,iD p y=.ok v):tT p=.error e:=by
 unfold tT
 exact ru hp (ru (ni he hl) rfl)
theorem EK {l r:List (Nat×List (List Nat))}{q:Nat×List (List Nat)}(hr:∀ y∈p.rows,∃ v,iD p y=.ok v)(hp:p.cls=l++q::r)(he:jX p q=.error e)(hl:∀ y∈l,∃ v,jX p y=.ok v):tT p=.error e:=(wo hr).elim λ vs w=>by
 unfold tT
 exact ru w (ru hp (ru (ni he hl) rfl))
end
structure cR (v:Int) (rows:List bo) (cl:List Cl) (a b:List Ln) (x:Ln):Prop where
 hz:rows.length≤16
 hr:∀ r∈rows,aB rows.length r
 hc:∀ c∈cl,aO rows.length c
 hcz:cl.length≤60
 e:b7 v rows cl=a++b
 hx:x.labs=[]∨a=[]∧x.labs=[oU]
noncomputable abbrev rx (x:Ln):Nat:=(aR x.act).length
section
variable {v:Int} {rows:List bo} {cl:List Cl} {a b:List Ln} {x:Ln}
theorem ip (f:Ln→List α):(a++x::b).flatMap f=a.flatMap f++(f x++b.flatMap f):=V6
theorem cR.sub (H:cR v rows cl a b x):(bU (a++x::b)).Sublist (cX v rows.length):=by
 have hs:(bU a++bU b).Sublist (bX v rows.length):=gZ a b▸ri H.e ((eT H.hz H.hr H.hc).s)
 show (List.flatMap _ _).Sublist _
 refine ru (ip ..) ?_
 exact H.hx.elim (λ h=>by refine ru h ?_;exact .cons _ hs) λ h=>by refine ru h.2 ?_;rw [h.1] at hs ⊢;exact hs.cons₂ _
theorem cR.nd (H:cR v rows cl a b x):(cX v rows.length).Nodup∧(cX v rows.length).all ak=true∧ym∉cX v rows.length∧xW∉cX v rows.length:=BC v (n:=rows.length) (Q8 H.hz)
theorem cR.none (H:cR v rows cl a b x){k:List Nat}(h:k∉cX v rows.length):aM k (a6 0 (a++x::b))=none:=i8 λ m=>h (H.sub.subset (ri (eU _ 0) m))
theorem cR.at (H:cR v rows cl a b x){l:List Nat}{i:Nat}(h:(l,i)∈a6 0 (b7 v rows cl)):∃ j,aM l (a6 0 (a++x::b))=some j∧j≤i+rx x∧(a=[]→j=i+rx x) :=
 (A6 (ri H.e h)).imp λ Z9 w=>⟨k7 (ru (eU _ 0) (H.sub.nodup H.nd.1)) w.1,w.2⟩
theorem cR.find (H:cR v rows cl a b x):∃ k:Int→Nat,∀ g:Int,0≤g→g≤(rows.length:Int)→ak (lf v g)=true∧aM (lf v g) (a6 0 (a++x::b))=some (k g)∧k g≤g.toNat+rx x :=
 ⟨λ g=>(aM (lf v g) (a6 0 (a++x::b))).getD 0,λ g Z9 h1=>(H.at (kM.1 g.toNat (mE h1))).elim λ j w =>
  ⟨wx H.hz h1,w.1.trans (congrArg some (congrArg (·.getD 0) w.1:(aM (lf v g) (a6 0 (a++x::b))).getD 0=j).symm),N1 (P0 (congrArg (·.getD 0) w.1:(aM (lf v g) (a6 0 (a++x::b))).getD 0=j)) w.2.1⟩⟩
theorem cR.rowsE (H:cR v rows cl a b x):bx a++bx b=rows.map λ r=>(r.op,lw v r):=(hP a b).symm.trans (ri H.e ((eT H.hz H.hr H.hc).r))
theorem cR.clsE (H:cR v rows cl a b x):gD a++gD b=cl.map λ c=>ai (b0 (lf v) (ao v) c):=(tM a b).symm.trans (ri H.e ((eT H.hz H.hr H.hc).c))
theorem qn {α:Type}{l m r:List α}{n:Nat}(h:(l++r).length=n):(l++(m++r)).length=n+m.length:=by
 rw [N5] at h ⊢
 exact ru N5 (ru (Nat.add_left_comm ..) (ru h (ru (W9 ..) rfl)))
theorem cR.len (H:cR v rows cl a b x):(PP (a++x::b)).rows.length=rows.length+rx x:=(iS _ 0).trans ((congrArg List.length (ip _)).trans (qn (m:=aR x.act) ((congrArg List.length H.rowsE).trans (N3 _))))
theorem cR.rows_ok (H:cR v rows cl a b x){q:Nat×Nat×List Nat}(h:q.2∈bx a++bx b):∃ w,iD (PP (a++x::b)) q=.ok w :=
 H.find.elim λ k hk=>(S0.mp (ri H.rowsE h)).elim λ r w=>⟨_,by
  unfold iD
  rw [← w.2,z3 (p:=PP (a++x::b)) (k:=k) (H.hr r w.1) λ g hg =>
   have bd:=i5 (H.hr r w.1) g hg
   have u:=hk g bd.1 (U9 bd.2)
   ⟨u.1,u.2.1,ru H.len (O0 u.2.2 (Nat.add_lt_add_right ((Int.toNat_lt bd.1).mpr bd.2) _))⟩]
  rfl⟩
theorem cR.cls_ok (H:cR v rows cl a b x){q:Nat×List (List Nat)}(h:q.2∈gD a++gD b):∃ w,jX (PP (a++x::b)) q=.ok w :=
 H.find.elim λ k hk=>(S0.mp (ri H.clsE h)).elim λ c w=>(v5 (lf:=lf v) (p:=PP (a++x::b)) (k:=k) (dK v) (H.hc c w.1) λ y hy =>
  have bd:=bu (H.hc c w.1) y hy
  have u:=hk y bd.1 bd.2
  ⟨u.1,u.2.1⟩).elim λ u w'=>⟨u,by
   unfold jX
   refine ri w.2 (ru w'.1 ?_)
   rfl⟩
theorem rP {lns:List Ln}{k:Nat}{q:Nat×Nat×List Nat}(h:q∈cx k lns):q.2∈bx lns:=ri (eu lns k) (R6 h)
theorem Ey {lns:List Ln}{k:Nat}{q:Nat×List (List Nat)}(h:q∈e8 k lns):q.2∈gD lns:=ri (fL lns k) (R6 h)
theorem wR {α:Type}{P:α→Prop}{l m r:List α}(h:∀ y∈l++r,P y)(hm:∀ y∈m,P y):∀ y∈l++(m++r),P y:=Q6.mpr ⟨(Q6.mp h).1,Q6.mpr ⟨hm,(Q6.mp h).2⟩⟩
theorem cR.okP (H:cR v rows cl a b x)(hx:ER (PP (a++x::b)) x.act):Mine.okP (PP (a++x::b)):=Al
 (by
  refine ru (show bx (a++x::b)=bx a++(aR x.act++bx b) from ip _) (ru (qn ((congrArg List.length H.rowsE).trans (N3 _))) ?_)
  exact N1 (R7 H.hz hx.ok.2.1) (by decide))
 (by
  refine ru (show gD (a++x::b)=gD a++(aC x.act++gD b) from ip _) (ru (qn ((congrArg List.length H.clsE).trans (N3 _))) ?_)
  exact N1 (R7 H.hcz hx.ok.2.2) (by decide))
 (by
  refine ru (show bx (a++x::b)=bx a++(aR x.act++bx b) from ip _) ?_
  exact wR (ru H.rowsE (Q5.mpr λ r m=>⟨⟨_,(H.hr r m).mem⟩,Ah (H.hr r m) H.hz⟩)) hx.ok.1.1)
 (by
  refine ru (show gD (a++x::b)=gD a++(aC x.act++gD b) from ip _) ?_
  exact wR (ru H.clsE (Q5.mpr λ c m=>j7 (N1 (B8 (H.hc c m) (cC v) λ y hy=>DE H.hz (bu (H.hc c m) y hy).2).1 (by decide)))) hx.ok.1.2)
theorem cR.err (H:cR v rows cl a b x)(hx:ER (PP (a++x::b)) x.act):∃ c,tT (PP (a++x::b))=.error (c,((a.length+1:Nat):Int)):=by
 have er:(PP (a++x::b)).rows=cx 0 a++((aR x.act).map (a.length+1,·)++cx (a.length+1) b):=(mR a (x::b) 0).trans (congrArg (λ n=>cx 0 a++cx n (x::b)) (R9 _))
 have ec:(PP (a++x::b)).cls=e8 0 a++((aC x.act).map (a.length+1,·)++e8 (a.length+1) b):=(pC a (x::b) 0).trans (congrArg (λ n=>e8 0 a++e8 n (x::b)) (R9 _))
 have ra:∀ y∈cx 0 a,∃ w,iD (PP (a++x::b)) y=.ok w:=λ y m=>H.rows_ok (O7 _ (rP m))
 have rb:∀ y∈cx (a.length+1) b,∃ w,iD (PP (a++x::b)) y=.ok w:=λ y m=>H.rows_ok (O8 _ (rP m))
 have ca:∀ y∈e8 0 a,∃ w,jX (PP (a++x::b)) y=.ok w:=λ y m=>H.cls_ok (O7 _ (Ey m))
 revert er ec ra rb ca hx
 generalize PP (a++x::b)=p
 cases x.act with
 | nil=>exact λ h=>nomatch h
 | row op rest=>exact λ | .row h _,er,_,ra,_,_=>⟨_,Co er (by unfold iD;refine ru h ?_;rfl) ra⟩
 | cl ws=>exact λ | .cl h _,er,ec,ra,rb,ca=>⟨_,EK (by refine ru er ?_;exact Q6.mpr ⟨ra,rb⟩) ec (by unfold jX;refine ru h ?_;rfl) ca⟩
theorem cR.asm (H:cR v rows cl a b x){ls:List (List Nat)}(hL:cD ls (a++x::b))(hne:ls≠[])(hx:ER (PP (a++x::b)) x.act) :
  (∀ p,bc {} 0 (aq 10 (ah [10] ls))=.ok p→Mine.okP p)∧∃ c,lR (ah [10] ls)=.error (c,((a.length+1:Nat):Int)):=by
 have ht:=lj hL hne (λ l m=>O2.mp H.nd.2.1 l (H.sub.subset m)) (H.sub.nodup H.nd.1)
 exact ⟨λ p hp=>ri (Except.ok.inj (ht.symm.trans hp)) (H.okP hx),ru (Cn ht) (H.err hx)⟩
end
end
noncomputable section
theorem tp {k:List Nat}{v:Nat}:∀ {l:List (List Nat×Nat)},aM k l=some v→(k,v)∈l
 | []=>λ h=>nN h
 | q::r=>f7 (P:=λ o:Option Nat=>o=some v→(k,v)∈q::r) (λ e h=>Q2.mpr (.inl (Prod.ext e (Option.some.inj h).symm))) λ Z9 h=>.tail _ (tp h)
theorem z6 {p q:ae}{t:List Nat}:∀ s:Nat,s≠5→s≠6→fV p s t=fV q s t
 | 0,_,_=>rfl
 | 1,_,_=>rfl
 | 2,_,_=>rfl
 | 3,_,_=>rfl
 | 4,_,_=>rfl
 | 5,h,_=>absurd rfl h
 | 6,_,h=>absurd rfl h
 | 7,_,_=>rfl
 | 8,_,_=>rfl
 | 9,_,_=>rfl
 | 10,_,_=>rfl
 | n+11,_,_=>rfl
noncomputable def wH {ε α:Type}:Except ε α→Bool
 | .error _=>true
 | .ok _=>false
theorem nC {ε α:Type}{x:Except ε α}(h:wH x=true):∃ c,x=.error c:=by
 cases x with
 | error c=>exact ⟨c,rfl⟩
 | ok a=>exact ff h
noncomputable def cB (n:Nat)(l:List Nat):Bool:=Nat.ble l.length n&&l.all CA
noncomputable def K1 (P:Nat→List Nat→Bool)(w:List Nat):Bool:=match aM (ac w).1 bV with
 | some op=>P op (ac w).2
 | none=>false
theorem Ai {P:Nat→List Nat→Bool}{w:List Nat}:K1 P w=true→∃ op,((ac w).1,op)∈bV∧P op (ac w).2=true:=by
 unfold K1
 cases e:aM (ac w).1 bV with
 | none=>exact λ h=>ff h
 | some op=>exact λ h=>⟨op,tp e,h⟩
noncomputable def kR:List Nat→Bool:=K1 λ op t=>af op !=5&&af op !=6&&wH (fV {} (af op) t)&&cB 70 t
noncomputable def Jd (t:List Nat):Bool:=!ak t||t==ym
noncomputable def kJ:List Nat→Bool:=K1 λ op t=>af op==5&&Jd t&&cB 70 t
theorem kE {v:Int}{rows:List bo}{cl:List Cl}{a b:List Ln}{x:Ln}(H:cR v rows cl a b x){t:List Nat}(h:Jd t=true):bg (PP (a++x::b)) t=.error c7:=by
 unfold bg
 exact ru (show aM t (PP (a++x::b)).labs=none from H.none λ m=>(P5.mp h).elim (λ h=>ff ((yl h).symm.trans (O2.mp H.nd.2.1 t m))) λ h=>H.nd.2.2.1 (ri (beq_iff_eq.mp h) m)) rfl
theorem uf {p:ae}{text x:List Nat}(h0:(!([40].isPrefixOf text)||!(text.getLast?==some 41))=false)(hi:av (ba 1 (text.length-1) text)≠[])(hx:x∈aq 44 (av (ba 1 (text.length-1) text))){c:List Nat}(hg:bg p (av x)=.error c):∃ c,EX p text=.error c:=by
 unfold EX
 refine ru h0 (ru (if_neg S8) ?_)
 refine ru (if_neg hi) ?_
 unfold nP
 cases hm:bn (λ w=>bg p (av w)) (aq 44 (av (ba 1 (text.length-1) text))) with
 | error e=>exact ⟨e,rfl⟩
 | ok vs=>exact (sd hm x hx).elim λ u hu=>nomatch hg.symm.trans hu
noncomputable abbrev Er {ε α:Type}(r:Except ε α):Prop:=∃ c,r=.error c
theorem IB {ε α:Type}{C:Prop}{v:α}(h:Er (Except.ok v:Except ε α)):C:=h.elim λ Z9 w=>nomatch w
noncomputable def Ck (m:List (List Nat)):Bool :=
 !decide (m.length=1∧m.getD 0 []=j0)&&(!decide (m.length=1∧m.getD 0 []=qV)&&(!decide (m.length=3∧m.getD 0 []=gg∧m.getD 2 []=dm)&&(!decide (1<m.length∧m.getD 0 []=dm)||wH (bh a7 (ah [32] (m.drop 1))))))
theorem xi {c:Prop}[Decidable c](h:(!decide c)=true):¬ c:=of_decide_eq_false (yl h)
theorem Eu {p:ae}{m:List (List Nat)}(h:Ck m=true):∃ c,px p m=.error c :=
 f7 (P:=Er) (λ c=>absurd c (xi (aj h))) λ Z9=>f7 (P:=Er) (λ c=>absurd c (xi (aj (aE h)))) λ Z9=>f7 (P:=Er) (λ c=>absurd c (xi (aj (aE (aE h))))) λ Z9=>f7 (P:=Er) (λ c=>(nC ((P5.mp (aE (aE (aE h)))).elim (λ q=>absurd c (xi q)) id)).imp λ e w=>congrArg (dS λ v=>(0,v)) w) λ Z9=>⟨_,rfl⟩
noncomputable def KI (ws:List (List Nat)):Bool:=decide (ws.length<7∨ws.getD 1 []≠[116,111]∨ws.getD (ws.length-2) []≠[116,111])||((ws.getD (ws.length-1) []==xW)||Ck (ba 3 (ws.length-3) ws))
theorem Dc {p:ae}{ws:List (List Nat)}(hx:aM xW p.labs=none)(h:KI ws=true):∃ c,zd p ws=.error c:=by
 refine f7 (P:=Er) (λ Z9=>⟨_,rfl⟩) λ hc=>?_
 have h:=(P5.mp h).resolve_left λ q=>hc (of_decide_eq_true q)
 have e:Er (aJ p (ws.getD (ws.length-1) []))∨Er (px p (ba 3 (ws.length-3) ws)):=(P5.mp h).imp (λ h=>⟨c7,by unfold aJ;exact ru (beq_iff_eq.mp h) (ru hx rfl)⟩) Eu
 clear h hc hx
 revert e
 cases aJ p (ws.getD 0 []) with
 | error c=>exact λ Z9=>⟨c,rfl⟩
 | ok t0=>cases aJ p (ws.getD 2 []) with
  | error c=>exact λ Z9=>⟨c,rfl⟩
  | ok t1=>cases aJ p (ws.getD (ws.length-3) []) with
   | error c=>exact λ Z9=>⟨c,rfl⟩
   | ok h0=>cases aJ p (ws.getD (ws.length-1) []) with
    | error c=>exact λ Z9=>⟨c,rfl⟩
    | ok h1=>cases px p (ba 3 (ws.length-3) ws) with
     | error c=>exact λ Z9=>⟨c,rfl⟩
     | ok q=>exact λ e=>e.elim IB IB
noncomputable def kC (w:List Nat):Bool:=decide ((ac w).1=fj)&&(KI (ai (ac w).2)&&Nat.ble (ac w).2.length 1000)
noncomputable def Cg:List Nat:=[98,114,32,116,104,101,101,110,100]
noncomputable def IQ:List Nat:=[115,119,105,116,99,104,32,40,110,111,119,104,101,114,101,41]
noncomputable def Ge:List Nat:=[115,119,105,116,99,104,32,116,104,101,101,110,100]
noncomputable def zz:List Nat:=[115,101,108,102,58,32,115,119,105,116,99,104,32,40,115,101,108,102,44,41]
noncomputable def swEnd:List Nat:=[115,119,105,116,99,104,32,40,116,104,101,101,110,100,41]
noncomputable def DM (w:List Nat):Bool:=gN [115,119,105,116,99,104] w||w==Cg
noncomputable def Kr:List (List Nat):=[Cg,IQ,Ge,zz,swEnd]
theorem pI:iP.all (λ w=>kT w||(kR w||(kJ w||(kC w||(Kr.contains w&&DM w)))))=true:=by decide +kernel
noncomputable def t4 (v:Int)(rows:List bo)(cl:List Cl)(w:List Nat)(a b:List Ln):Prop:=∃ x,bF w x∧(x.labs=[]∨a=[]∧x.labs=[oU])∧(cR v rows cl a b x→ER (PP (a++x::b)) x.act)
section
variable {v:Int} {rows:List bo} {cl:List Cl} {w:List Nat} {a b:List Ln}
theorem KF (h:kR w=true):t4 v rows cl w a b:=(Ai h).elim λ op q =>
 (nC (aE (aj q.2))).elim λ c e=>⟨⟨[],.row op (ac w).2⟩,.row q.1 rfl,.inl rfl,λ Z9=>.row ((z6 _ (bne_iff_ne.mp (aj (aj (aj q.2)))) (bne_iff_ne.mp (aE (aj (aj q.2))))).trans e) ⟨⟨_,q.1⟩,fo (aE q.2)⟩⟩
theorem KG (h:kJ w=true):t4 v rows cl w a b:=(Ai h).elim λ op q =>
 ⟨⟨[],.row op (ac w).2⟩,.row q.1 rfl,.inl rfl,λ H=>.row (c:=c7) (by
  refine ru (beq_iff_eq.mp (aj (aj q.2))) ?_
  exact congrArg (dS ag) (kE H (aE (aj q.2)))) ⟨⟨_,q.1⟩,fo (aE q.2)⟩⟩
theorem KH (h:kC w=true):t4 v rows cl w a b :=
 ⟨⟨[],.cl (ai (ac w).2)⟩,.cl (rest:=(ac w).2) (Prod.ext (of_decide_eq_true (aj h)) rfl),.inl rfl,λ H=>(Dc (p:=PP (a++⟨[],.cl (ai (ac w).2)⟩::b)) (H.none H.nd.2.2.2) (aj (aE h))).elim λ Z9 e=>.cl e (j7 (P9 (aE (aE h))))⟩
theorem Ja:([115,119,105,116,99,104],69)∈bV:=by decide +kernel
theorem MV:([98,114],56)∈bV:=by decide +kernel
theorem tC {t:List Nat}(op:Nat)(H:cR v rows cl [] b ⟨[],.row op t⟩):bg (PP ([]++⟨[],.row op t⟩::b)) b4=.error mr:=(H.at kM.2).elim λ j q=>by
 unfold bg
 refine ru (show aM b4 (PP ([]++⟨[],.row op t⟩::b)).labs=some j from q.1) ?_
 exact if_neg (W5.mpr (P0 (H.len.trans (q.2.2 rfl).symm)))
theorem qY {p:ae}{t:List Nat}(h:∃ c,EX p t=.error c)(ht:cN 70 t):ER p (.row 69 t):=h.elim λ c e=>.row (c:=c) ((congrArg (fV p · t) (show af 69=6 by decide +kernel)).trans (congrArg (dS λ l:List Nat=>PV.tup (l.map ag)) e)) ⟨⟨_,Ja⟩,ht⟩
theorem Cj:∀ w∈Kr,t4 v rows cl w [] b:=N7.mpr ⟨⟨⟨[],.row 56 b4⟩,.row MV (by decide +kernel),.inl rfl,λ H=>.row (c:=mr) (congrArg (dS ag) (tC 56 H)) ⟨⟨_,MV⟩,fo rfl⟩⟩,
 N7.mpr ⟨⟨⟨[],.row 69 [40,110,111,119,104,101,114,101,41]⟩,.row Ja (by decide +kernel),.inl rfl,λ H=>qY (uf (x:=ym) (by decide) (by decide +kernel) (by decide +kernel) (kE H (by decide +kernel))) (fo rfl)⟩,
 N7.mpr ⟨⟨⟨[],.row 69 b4⟩,.row Ja (by decide +kernel),.inl rfl,λ H=>qY ⟨xu,rfl⟩ (fo rfl)⟩,
 N7.mpr ⟨⟨⟨[oU],.row 69 [40,115,101,108,102,44,41]⟩,.lab (l:=oU) (r:=zz.drop 6) (ln:=⟨[],.row 69 [40,115,101,108,102,44,41]⟩) (by decide +kernel) (by decide +kernel) (.row Ja (by decide +kernel)),.inr ⟨rfl,rfl⟩,λ H=>qY (uf (x:=[]) (by decide) (by decide +kernel) (by decide +kernel) (kE H (by decide +kernel))) (fo rfl)⟩,
 N7.mpr ⟨⟨⟨[],.row 69 [40,116,104,101,101,110,100,41]⟩,.row Ja (by decide +kernel),.inl rfl,λ H=>qY (uf (x:=b4) (by decide) (by decide +kernel) (by decide +kernel) ((congrArg (bg _) (show av b4=b4 by decide +kernel)).trans (tC 69 H))) (fo rfl)⟩,O1 _⟩⟩⟩⟩⟩
theorem xJ (hz:rows.length≤16)(hcz:cl.length≤60)(hr:∀ r∈rows,aB rows.length r)(hc:∀ c∈cl,aO rows.length c)(hw:w∈iP){i:Nat}(hi:i≤(az v rows cl).length)(h0:DM w=true→i=0) :
  (∀ l∈(az v rows cl).take i++w::(az v rows cl).drop i,cN 900 l) ∧
  (∀ p,bc {} 0 (aq 10 (ah [10] ((az v rows cl).take i++w::(az v rows cl).drop i)))=.ok p→okP p)∧∃ c,lR (ah [10] ((az v rows cl).take i++w::(az v rows cl).drop i))=.error (c,((i+1:Nat):Int)):=by
 have hlen:((az v rows cl).take i).length=i:=(V1 ..).trans (V0 hi)
 have hs:cD ((az v rows cl).take i++(az v rows cl).drop i) (b7 v rows cl):=ri ((List.take_append_drop i (az v rows cl)).symm) (eT (v:=v) hz hr hc).l
 have sub:=(eT (v:=v) hz hr hc).s
 have hI:∀ {a b:List Ln} {x:Ln},b7 v rows cl=a++b→(x.labs=[]∨a=[]∧x.labs=[oU])→cR v rows cl a b x:=λ e hx=>⟨hz,hr,hc,hcz,e,hx⟩
 revert hlen hs
 generalize (az v rows cl).take i=A
 generalize (az v rows cl).drop i=D
 intro hlen hs
 obtain ⟨a,b,e,el,hA,hB⟩:=cD.split hs
 have hC:∀ l∈A++w::D,cN 900 l:=Q6.mpr ⟨hA.c,N7.mpr ⟨(jg w hw).1,hB.c⟩⟩
 refine ⟨hC,?_⟩
 have hb:kT w=true∨t4 v rows cl w a b:=(P5.mp (O2.mp pI w hw)).imp id λ h=>(P5.mp h).elim KF λ h=>(P5.mp h).elim KG λ h=>(P5.mp h).elim KH λ h =>
  ri ((U6.mp (el.trans (hlen.trans (h0 (aE h))))).symm) (Cj w (X1.mp (aj h)))
 rw [e,gZ] at sub
 exact hb.elim (λ h=>(KL (b:=D) hA (λ l m=>(xw (hC l m)).1) (λ l m=>(iq v (n:=rows.length) (Q8 hz)).2 l (sub.subset (O7 _ m))) (((z1u _ _).trans sub).nodup (iq v (n:=rows.length) (Q8 hz)).1) (jg w hw).2 h).elim λ e' q=>⟨λ p hp=>(nomatch q.1.symm.trans hp),e'.1,by
  unfold lR
  refine ru q.1 ?_
  exact congrArg (λ n:Nat=>Except.error (e'.1,(n:Int))) (q.2.trans (congrArg (·+1) hlen))⟩) λ h=>h.elim λ x q=>by
  have r:=(hI e q.2.1).asm (hA.app (.cons (ri ((bO (jg w hw).2).symm) q.1) (jg w hw).1 hB)) (U1 _ (R5 _ _)) (q.2.2 (hI e q.2.1))
  rw [el,hlen] at r
  exact r
end
end
noncomputable section
theorem Ag:∀ q∈bV,(((q.2:Nat):Int)=69 ↔ af q.2=6)∧(H2 (q.2:Int)=true ↔ af q.2=5):=by decide +kernel
theorem M7 {a b A B B':Prop}[Decidable a][Decidable b](h:a ↔ b)(q:B'→B):(if b then A else B')→(if a then A else B):=by
 by_cases x:b
 ·refine ru (if_pos x) (ru (if_pos (h.mpr x)) ?_);exact id
 ·refine ru (if_neg x) (ru (if_neg λ y=>x (h.mp y)) ?_);exact q
section
variable {o:Nat} {w:List Nat} {v:PV} {gs:List Int} {i:Int}
noncomputable abbrev pH (o:Nat)(v:PV)(gs:List Int):Prop:=lm.ok ⟨(o:Int),v,gs⟩∧m6 ⟨(o:Int),v,gs⟩
theorem Bt (m:(w,o)∈bV)(nl:aS v=true)(op:lL (af o) v gs)(c:if af o=6 then v=.tup (gs.map .int) else if af o=5 then ∃ g,v=.int g∧gs=[g] else gs=[]):pH o v gs :=
 ⟨⟨nl,M7 (Ag _ m).1 (M7 (Ag _ m).2 id) c⟩,.inl ⟨w,o,m,rfl,op⟩⟩
theorem te (m:(w,o)∈bV)(nl:aS v=true)(op:lL (af o) v [])(h6:af o≠6)(h5:af o≠5):pH o v []:=Bt m nl op ((if_neg h6).mpr ((if_neg h5).mpr rfl))
theorem qy (m:(w,o)∈bV)(h1:1≤af o)(h4:af o≤4)(hi:i.natAbs<10 ^ 25):pH o (.int i) [] :=
 have hx:∃ j,PV.int i=.int j∧m8 j=true∧(aL j).length≤100:=⟨i,rfl,m7 hi,N1 (fA hi) (by decide)⟩
 te m rfl (wh (P:=λ s=>lL s (.int i) []) h1 h4 hx hx hx hx) (oz h1 h4).1 (oz h1 h4).2.1
theorem wS (m:(w,o)∈bV)(hs:af o=7∨af o=8∨af o=9∨af o=11)(nl:aS v=true)(sh:shal 8 v=true):pH o v []:=te m nl (yn (P:=λ s=>lL s v []) hs sh sh sh sh) (Cy hs).1 (Cy hs).2.1
theorem wT (m:(w,o)∈bV)(hs:af o=5):pH o (.int i) [i]:=Bt m rfl (ru hs (⟨i,rfl,.head _⟩)) ((if_neg (hs▸by decide)).mpr ((if_pos hs).mpr ⟨i,rfl,rfl⟩))
theorem FB (m:(w,o)∈bV)(hs:af o=6)(hz:gs.length≤3):pH o (.tup (gs.map .int)) gs:=Bt m (ay λ Z9=>rfl) (ru hs (⟨gs,rfl,N1 hz (by decide),λ Z9 m=>m⟩)) ((if_pos hs).mpr rfl)
end
theorem aB.ins {size:Nat}{r:bo}(h:aB size r):(b9 r).ok∧m6 (b9 r):=by
 induction r,h using aB.cs with
 | plain ho hs=>exact te ho rfl (ru hs (⟨0,rfl⟩)) (ru hs (by decide)) (ru hs (by decide))
 | num ho h1 h2 h3 h4 hp=>exact qy ho h1 h2 (lX _ (Q8 h2) _ h3 h4)
 | jump ho hs h0 h1=>exact wT ho hs
 | sw ho hs hz hg=>exact FB ho hs hz
 | named ho hs hm hn=>exact wS ho hs (hM _ (k8 (pP _) hm)) (cz _ _ hm).1
 | text ho hs hm=>exact te ho rfl (ru hs (⟨_,rfl,N1 (ke _ hm) (by decide)⟩)) (ru hs (by decide)) (ru hs (by decide))
theorem qh {γ δ ε:Type}{f:γ→Except ε δ}{y:γ}(hy:Er (f y)):∀ {l:List γ},y∈l→Er (bn f l)
 | [],m=>o4 m
 | x::r,m=>by
  have q:Er (f x)∨Er (bn f r):=(Q2.mp m).imp (λ e:y=x=>ri e hy) λ m=>qh hy m
  revert q
  show _→Er (match f x with | .error e=>.error e | .ok v=>match bn f r with | .error e=>.error e | .ok vs=>.ok (v::vs))
  cases f x with
  | error c=>exact λ Z9=>⟨c,rfl⟩
  | ok v=>exact λ q=>q.elim IB λ q=>q.imp λ c w=>by exact ru w rfl
theorem gR {β γ ε:Type}{st:β→γ→Except ε β}{y:γ}(hy:∀ b,Er (st b y)):∀ {l:List γ} {b:β},y∈l→Er (bi st b l)
 | [],_,m=>o4 m
 | x::r,b,m=>by
  have q:Er (st b x)∨∀ b,Er (bi st b r):=(Q2.mp m).imp (λ e:y=x=>ri e (hy b)) λ m Z9=>gR hy m
  revert q
  show _→Er (match st b x with | .ok b'=>bi st b' r | .error e=>.error e)
  cases st b x with
  | error c=>exact λ Z9=>⟨c,rfl⟩
  | ok v=>exact λ q=>q.elim IB λ q=>q v
section
variable {code:List lm} {cl:List Cl} {i:Nat} {g:Int}
theorem yw (hi:i<code.length)(hg:g∈gP code i)(h:g<0∨g ≥ (code.length:Int)):Er (cK code cl):=by
 exact (gR (st:=λ ks i=>bi (cM code.length i) ks (gP code i)) (λ Z9=>gR (st:=cM code.length i) (λ Z9=>⟨_,if_pos h⟩) hg) (R4.mpr hi):Er (bi (λ ks i=>bi (cM code.length i) ks (gP code i)) [] (List.range code.length))).imp λ c w=>by
  unfold cK
  exact ru w rfl
theorem yv (hi:i<cl.length)(hg:g∈jU cl i)(h:g<0∨g > (code.length:Int)):Er (cK code cl):=by
 unfold cK
 cases bi (λ ks i=>bi (cM code.length i) ks (gP code i)) [] (List.range code.length) with
 | error c=>exact ⟨c,rfl⟩
 | ok k=>exact gR (st:=λ ks i=>bi (dW code.length i) ks (jU cl i)) (λ Z9=>gR (st:=dW code.length i) (λ Z9=>⟨_,if_pos h⟩) hg) (R4.mpr hi)
theorem qI (h:Er (cK code cl)∨∀ ks,Er (bn (fH ks code) (List.range code.length))∨Er (bn (k9 ks cl) (List.range cl.length))):Er (qJ code cl):=by
 unfold qJ
 revert h
 cases cK code cl with
 | error c=>exact λ Z9=>⟨c,rfl⟩
 | ok ks =>
  refine λ h=>h.elim IB λ h=>?_
  have h:=h ks
  revert h
  show _→Er (match bn (fH ks code) (List.range code.length) with | .error e=>.error e | .ok ls=>match bn (k9 ks cl) (List.range cl.length) with | .error e=>.error e | .ok cs=>.ok (ah [10] (ls++dY ks code.length++cs)))
  cases bn (fH ks code) (List.range code.length) with
  | error c=>exact λ Z9=>⟨c,rfl⟩
  | ok ls=>exact λ h=>h.elim IB λ h=>h.imp λ c w=>by exact ru w rfl
end
theorem zf {v:PV}{ks js:List Int}:∀ s:Nat,s≠5→s≠6→gG s v ks=gG s v js
 | 0,_,_=>rfl
 | 1,_,_=>rfl
 | 2,_,_=>rfl
 | 3,_,_=>rfl
 | 4,_,_=>rfl
 | 5,h,_=>absurd rfl h
 | 6,_,h=>absurd rfl h
 | 7,_,_=>rfl
 | 8,_,_=>rfl
 | 9,_,_=>rfl
 | 10,_,_=>rfl
 | n+11,_,_=>rfl
noncomputable def Cm (e:lm):Bool:=(bz e.op mL lJ).isNone||(af e.op.toNat !=5&&af e.op.toNat !=6&&wH (gG (af e.op.toNat) e.n []))
theorem vC {e:lm}(h:Cm e=true){ks:List Int}{i:Nat}:Er (yH ks i e):=(P5.mp h).elim (λ h=>⟨_,if_neg (by refine ru (z1q.mp h) ?_;exact S8)⟩) λ h=>f7 (P:=Er) (λ Z9=>(nC (aE h)).elim λ c w=>⟨_,by (rewrite [zf _ (bne_iff_ne.mp (aj (aj h))) (bne_iff_ne.mp (aE (aj h)))];exact ru w rfl)⟩) λ Z9=>⟨_,rfl⟩
noncomputable def Mu (n:Nat):List lm:=[⟨36,.int 0,[]⟩,⟨32,.int 2147483648,[]⟩,⟨140,.int 99,[]⟩,⟨0,.int 1,[]⟩,⟨56,.int ((n:Int)+1),[(n:Int)+1]⟩,⟨69,.tup [.int 0,.int (-1)],[0,-1]⟩,⟨65036,.int 65535,[]⟩,⟨123,.tup [.int 20,.int 99],[]⟩,⟨140,.int 44,[]⟩,⟨33,.int (-9223372036854775809),[]⟩]
noncomputable def Ll (n:Nat):List Cl:=[⟨3,0,0,0,0,0⟩,⟨2,0,0,0,0,7⟩,⟨0,0,0,0,0,99⟩,⟨4,0,(n:Int)+1,0,0,0⟩,⟨1,0,0,0,0,-1⟩,⟨4,0,0,0,0,7⟩]
theorem qE {n:Nat}:∀ e∈Mu n,(Cm e=true∨∃ g∈e.gs,g<0∨g ≥ (n:Int)+1)∧e.ok∧m6 e :=
 N7.mpr ⟨⟨.inl (by decide +kernel),⟨rfl,rfl⟩,.inr rfl⟩,
 N7.mpr ⟨⟨.inl (by decide +kernel),qy (o:=32) (w:=ye 32) (by decide +kernel) (by decide +kernel) (by decide +kernel) (by decide)⟩,
 N7.mpr ⟨⟨.inl (by decide +kernel),wS (o:=140) (w:=ye 140) (by decide +kernel) (by decide +kernel) rfl rfl⟩,
 N7.mpr ⟨⟨.inl (by decide +kernel),te (o:=0) (w:=ye 0) (by decide +kernel) rfl (ri (show af 0=0 by decide +kernel) (⟨1,rfl⟩)) (by decide +kernel) (by decide +kernel)⟩,
 N7.mpr ⟨⟨.inr ⟨_,.head _,.inr (Int.le_refl _)⟩,wT (o:=56) (w:=ye 56) (by decide +kernel) (by decide +kernel)⟩,
 N7.mpr ⟨⟨.inr ⟨-1,.tail _ (.head _),.inl (by decide)⟩,FB (o:=69) (w:=ye 69) (gs:=[0,-1]) (by decide +kernel) (by decide +kernel) (by decide)⟩,
 N7.mpr ⟨⟨.inl (by decide +kernel),qy (o:=65036) (w:=ye 65036) (by decide +kernel) (by decide +kernel) (by decide +kernel) (by decide)⟩,
 N7.mpr ⟨⟨.inl (by decide +kernel),wS (o:=123) (w:=ye 123) (by decide +kernel) (by decide +kernel) rfl rfl⟩,
 N7.mpr ⟨⟨.inl (by decide +kernel),wS (o:=140) (w:=ye 140) (by decide +kernel) (by decide +kernel) rfl rfl⟩,
 N7.mpr ⟨⟨.inl (by decide +kernel),qy (o:=33) (w:=ye 33) (by decide +kernel) (by decide +kernel) (by decide +kernel) (by decide)⟩,O1 _⟩⟩⟩⟩⟩⟩⟩⟩⟩⟩
theorem CH {n:Nat}:∀ c∈Ll n,(∀ ks,Er (mA ks c))∨∃ g∈aA c,g<0∨g > (n:Int) :=
 N7.mpr ⟨.inl λ Z9=>⟨_,rfl⟩,N7.mpr ⟨.inl λ Z9=>⟨_,rfl⟩,N7.mpr ⟨.inl λ Z9=>⟨_,rfl⟩,N7.mpr ⟨.inr ⟨_,.tail _ (.head _),.inr (Int.lt_succ _)⟩,N7.mpr ⟨.inr ⟨-1,.tail _ (.tail _ (.tail _ (.tail _ (.head _)))),.inl (by decide)⟩,N7.mpr ⟨.inl λ Z9=>⟨_,rfl⟩,O1 _⟩⟩⟩⟩⟩⟩
theorem z0 {code:List lm}{cl:List Cl}{e:lm}(h:e∈Mu code.length):∃ x,qJ (code++[e]) cl=.error x:=by
 have hl:(code++[e]).length=code.length+1:=N5
 have hi:code.length<(code++[e]).length:=ru hl (U0 _)
 exact (qE e h).1.elim (λ q=>qI (.inr λ ks=>.inl (qh (y:=code.length) (by
  unfold fH
  refine ru (S9) ?_
  exact vC q) (R4.mpr hi)))) λ q=>q.elim λ g w=>qI (.inl (yw (g:=g) hi (by
  unfold gP
  refine ru (S9) ?_
  exact w.1) (ru hl w.2)))
theorem Db {code:List lm}{cl:List Cl}{c:Cl}(h:c∈Ll code.length):∃ x,qJ code (cl++[c])=.error x:=by
 have hi:cl.length<(cl++[c]).length:=ri ((N5 (as:=cl) (bs:=[c])).symm) (U0 _)
 exact (CH c h).elim (λ q=>qI (.inr λ ks=>.inr (qh (y:=cl.length) (by
  unfold k9
  refine ru (S9) ?_
  exact (q ks).elim λ x w=>⟨_,congrArg (CB _) w⟩) (R4.mpr hi)))) λ q=>q.elim λ g w=>qI (.inl (yv (g:=g) hi (by
  unfold jU
  refine ru (S9) ?_
  exact w.1) w.2))
end
noncomputable section
theorem BT (n:Nat):∀ v,shal n v=true→xb v v=true:=by
 induction n with
 | zero =>
  intro v h
  cases v with
  | int i=>exact beq_self_eq_true i
  | str s=>exact beq_self_eq_true (aG s)
  | _=>exact rh h
 | succ n ih =>
  have all:∀ l:List PV,l.all (shal n)=true→PyData.eqvAll (pds l) (pds l)=true:=λ l=>by
   induction l with
   | nil=>exact λ Z9=>rfl
   | cons a r ihl=>exact λ h=>have h:=N4.mp h;N4.mpr ⟨ih a h.1,ihl h.2⟩
  intro v h
  cases v with
  | int i=>exact beq_self_eq_true i
  | str s=>exact beq_self_eq_true (aG s)
  | tup vs=>exact all vs h
  | lst vs=>exact all vs h
  | _=>exact rh h
theorem tw {v:PV}(h:shal 8 v=true):BS v v=some true:=by
 unfold BS
 refine ru h ?_
 exact congrArg some (BT 8 v h)
theorem aB.shal5 {size:Nat}{r:bo}(h:aB size r):Mine.shal 5 r.n=true:=by
 induction r,h using aB.cs with
 | plain _ _=>rfl
 | num _ _ _ _ _ _=>rfl
 | jump _ _ _ _=>rfl
 | text _ _ _=>rfl
 | sw _ _ _ _ =>
  show (List.map PV.int _).all (Mine.shal 4)=true
  refine ru z2g ?_
  exact O2.mpr λ Z9 Z9=>rfl
 | @named w o v k ho hs hm hn =>
  revert hm
  generalize af o=s
  have q:∀ q∈aI s,Mine.shal 5 q.2=true:=by
   exact f7 (P:=λ l:List (List Nat×PV)=>∀ q∈l,Mine.shal 5 q.2=true) (λ Z9=>O2.mp (by decide +kernel)) λ Z9=>f7 (P:=λ l:List (List Nat×PV)=>∀ q∈l,Mine.shal 5 q.2=true) (λ Z9=>O2.mp (by decide +kernel)) λ Z9=>O2.mp (by decide +kernel)
  exact q _
noncomputable def cZ (rows:List bo):PV:=.lst (rows.map λ r=>cA (b9 r))
noncomputable def c6 (cl:List Cl):PV:=.lst (cl.map cS)
theorem y4 {rows:List bo}{cl:List Cl}:H9 (rows.map (λ r=>(r.op,r.n)),cl.map cS)=.tup [cZ rows,c6 cl]:=by
 unfold H9 cZ c6
 refine ru T0 ?_
 rfl
theorem Ej {rows:List bo}{cl:List Cl}(hr:∀ r∈rows,aB rows.length r):BS (.tup [cZ rows,c6 cl]) (.tup [cZ rows,c6 cl])=some true:=by
 refine tw ?_
 show ([cZ rows,c6 cl].all (Mine.shal 7))=true
 have h1:Mine.shal 7 (cZ rows)=true:=by
  show (rows.map λ r=>cA (b9 r)).all (Mine.shal 6)=true
  refine ru z2g ?_
  refine O2.mpr λ r m=>?_
  show ([PV.int (r.op:Int),r.n].all (Mine.shal 5))=true
  refine ru Y9 (ru Y9 (ru ((hr r m).shal5) ?_))
  rfl
 have h2:Mine.shal 7 (c6 cl)=true:=by
  show (cl.map cS).all (Mine.shal 6)=true
  refine ru z2g ?_
  exact O2.mpr λ Z9 Z9=>rfl
 refine ru Y9 (ru Y9 (ru h1 (ru h2 ?_)))
 rfl
theorem Ex {γ δ:Type}{T:PV→List PV→Prop}{g:γ→PV}{r:δ→PV}{Q:δ→Prop}(ys:List γ)(h:∀ y∈ys,∃ d,Q d∧T (g y) [r d]):∃ ds:List δ,ds.length=ys.length∧(∀ d∈ds,Q d)∧lI T (ys.map g) (ds.map r):=by
 induction ys with
 | nil=>exact ⟨[],rfl,O1 _,rfl⟩
 | cons y ys ih =>
  exact (h y (.head _)).elim λ d w=>(ih λ x m=>h x (.tail _ m)).elim λ ds u=>⟨d::ds,congrArg (·+1) u.1,N7.mpr ⟨w.1,u.2.1⟩,_,_,w.2,u.2.2,rfl⟩
end
noncomputable section
section
variable {n:Nat} {rows:List bo} {cl:List Cl} {turn:Int} {σ:aa}
theorem sy:(jE σ (cZ rows)).map (λ n:Nat=>PV.int (n:Int))=some (ag rows.length):=congrArg (λ k:Nat=>some (ag k)) (N3 _)
theorem lF {A B:PV}{code:List lm}{cl:List Cl}(h:free σ)(hA:bw σ A=some (code.map cA))(hB:bw σ B=some (cl.map cS))(hi:∀ i∈code,i.ok∧m6 i)(hz:code.length≤60)(hc:cl.length≤60)(hd:∃ x,qJ code cl=.error x):∃ c a,ar (n+4) 28 [A,B,aH] σ (.exc c a σ):=by
 refine hd.elim λ x e=>?_
 have C:=fN (n:=n) h hA hB hi hz hc
 rw [e] at C
 exact ⟨_,_,C⟩
theorem yG {l:List lm}(h:∀ i∈l,i.ok):noLocs (l.map cA)=true:=by
 induction l with
 | nil=>rfl
 | cons i r ih=>exact N4.mpr ⟨N4.mpr ⟨(h i N2).1,rfl⟩,ih λ i m=>h i (N9 _ m)⟩
theorem qS (h:free σ)(hz:rows.length≤16)(hcz:cl.length≤2)(hr:∀ r∈rows,aB rows.length r):ar (n+5) 38 [cZ rows,c6 cl,aH,.int turn] σ (.ok (.bool true) σ):=by
 have hin:∀ i∈rows.map b9,i.ok∧m6 i:=Q5.mpr λ r m=>(hr r m).ins
 have hcode:(rows.map λ r=>cA (b9 r))=(rows.map b9).map cA:=by refine ru T0 ?_;rfl
 have hl:(rows.map b9).length=rows.length:=N3 _
 obtain ⟨e,he,ge⟩:=cb (g:=.tup ((Mu rows.length).map cA)) rfl turn (k:=10) (by decide) rfl
 obtain ⟨w,hw,gw⟩:=cb (g:=.tup ((Ll rows.length).map cS)) rfl (turn / 20) (k:=6) (by decide) rfl
 cases hb:(turn / 10 % 2 !=0) with
 | true =>
  obtain ⟨c,a,D⟩:=lF (n:=n) (A:=.loc σ.length) (B:=c6 cl) (code:=rows.map b9++[e]) (cl:=cl) (σ:=σ++[.lst ((rows.map b9++[e]).map cA)]) (br h (yG (Q6.mpr ⟨λ i m=>(hin i m).1,N7.mpr ⟨(qE e he).2.1,O1 _⟩⟩))) bk rfl (Q6.mpr ⟨hin,N7.mpr ⟨(qE e he).2,O1 _⟩⟩) (by refine ru N5 (ru hl ?_);exact N1 (P3 hz) (by decide)) (N1 hcz (by decide)) (z0 (by refine ru hl ?_;exact he))
  rw [P6,← hcode] at D
  exact (al rfl rfl (ov (ag rows.length) (ov (cA e) (ob true (.l (rows.map λ r=>cA (b9 r)) [cA e]::(aw 2 (.x c a (σ++[aN.lst ((rows.map λ r=>cA (b9 r))++[cA e])])::[])))))) λ H=>(H:_→_→_→_→_→_→_→_→_→_→_→_) sy (⟨rfl,by decide⟩) (by decide) (ge σ) (by decide) (by decide) (congrArg some hb) rfl rfl (by refine ru (N3 ..) ?_;exact N1 (P3 hz) (by decide)) D _ (oy h rfl))
 | false =>
  obtain ⟨c,a,D⟩:=lF (n:=n) (A:=cZ rows) (B:=.loc σ.length) (code:=rows.map b9) (cl:=cl++[w]) (σ:=σ++[.lst ((cl++[w]).map cS)]) (br h (ay λ Z9=>rfl)) (congrArg some hcode) bk hin (by refine ru hl ?_;exact N1 hz (by decide)) (by refine ru N5 ?_;exact N1 (P3 hcz) (by decide)) (Db (by refine ru hl ?_;exact hw))
  rw [P6] at D
  exact (al rfl rfl (ov (ag rows.length) (ov (cA e) (ob false (ov (cS w) (.l (cl.map cS) [cS w]::(aw 2 (.x c a (σ++[aN.lst (cl.map cS++[cS w])])::[]))))))) λ H=>(H:_→_→_→_→_→_→_→_→_→_→_→_→_→_→_) sy (⟨rfl,by decide⟩) (by decide) (ge σ) (by decide) (by decide) (congrArg some hb) (by decide) (by decide) (gw _) rfl rfl (by refine ru (N3 ..) ?_;exact N1 (P3 hcz) (by decide)) D _ (oy h rfl))
end
end
noncomputable section
theorem sG {ls:List (List Nat)}(hc:∀ l∈ls,cN 900 l)(hn:ls.length≤100):(ah [10] ls).length≤ax:=by
 exact N1 (cr (m:=900) [10] ls λ w m=>(hc w m).1) (N1 (Z5 hn (N8 _)) (by decide))
theorem tR {n:Nat}{ls:List (List Nat)}{σ:aa}(h:free σ)(hne:ls≠[])(hc:∀ l∈ls,cN 900 l)(hn:ls.length≤100)(hp:∀ p,bc {} 0 (aq 10 (ah [10] ls))=.ok p→okP p):ar (n+5) 22 [.str (ah [10] ls),aH] σ (KM σ (lR (ah [10] ls))):=by
 have e:=dv (c:=10) hne λ l m=>(xw (hc l m)).1
 exact oK h (by refine ru e ?_;exact N1 hn (by decide)) (by refine ru e ?_;exact λ l m=>O0 (hc l m).1 (by decide)) hp
theorem tQ {n:Nat}{ls:List (List Nat)}{rows:List bo}{cl:List Cl}{p:ae}{σ:aa}(h:free σ)(hne:ls≠[])(hc:∀ l∈ls,cN 900 l)(hn:ls.length≤60)(H:bc {} 0 (aq 10 (ah [10] ls))=.ok p∧lR (ah [10] ls)=.ok (rows.map (λ r=>(r.op,r.n)),cl.map cS)∧okP p):ar (n+5) 22 [.str (ah [10] ls),aH] σ (.ok (.tup [cZ rows,c6 cl]) σ):=by
 have C:=tR (n:=n) h hne hc (N1 hn (by decide)) λ q hq=>ri (Except.ok.inj (H.1.symm.trans hq)) H.2.2
 rw [H.2.1] at C
 exact ri y4 C
theorem o7 {v:Int}{rows:List bo}{cl:List Cl}(hz:rows.length≤16)(hc:cl.length≤2):(az v rows cl).length≤60∧1≤(az v rows cl).length:=by
 have h2:∀ c:Prop,[Decidable c]→(if c then cJ v cl else []).length≤2∧(if c then [] else cJ v cl).length≤2:=λ c Z9=>⟨f7 (P:=λ l:List (List Nat)=>l.length≤2) (λ Z9=>N1 (P0 (N3 _)) hc) λ Z9=>P4 _,f7 (P:=λ l:List (List Nat)=>l.length≤2) (λ Z9=>P4 _) λ Z9=>N1 (P0 (N3 _)) hc⟩
 refine ru N5 (ru N5 (ru N5 (ru N5 (ru N5 ?_))))
 exact ⟨N1 (R7 (U7 (U7 (R7 (S5 (h2 _).2 2) (N1 (FH _) (U3 2 (N1 (P0 Q4) hz)):((List.range rows.length).flatMap (bK v rows)).length≤32)) 1) 1) (h2 _).1) (by decide),N1 (P9 rfl:1≤2) (N1 (P1 2 _) (N1 (P1 _ _) (N1 (P1 _ _) (N1 (P1 _ _) (P1 _ _)))))⟩
theorem vt {n:Nat}{v:Int}{rows:List bo}{cl:List Cl}{σ:aa}(h:free σ)(hz:rows.length≤16)(hcz:cl.length≤2)(hr:∀ r∈rows,aB rows.length r)(hc:∀ c∈cl,aO rows.length c):ar (n+5) 22 [.str (ah [10] (az v rows cl)),aH] σ (.ok (.tup [cZ rows,c6 cl]) σ) :=
 tQ h (R5 _ _) (eT hz hr hc).l.c (o7 hz hcz).1 (yz hz (N1 hcz (by decide)) hr hc)
theorem tN {n:Nat}{ks:List Int}{rows:List bo}{cl:List Cl}{σ:aa}(h:free σ)(hz:rows.length≤16)(h1:1≤rows.length)(hcz:cl.length≤2)(hk:ks.length<64)(hr:∀ r∈rows,aB rows.length r∧r.gs ⊆ ks)(hc:∀ c∈cl,aO rows.length c∧aA c ⊆ ks):ar (n+5) 22 [.str (ah [10] (a0 ks rows cl)),aH] σ (.ok (.tup [cZ rows,c6 cl]) σ) :=
 have e:(a0 ks rows cl).length=rows.length+(dY ks rows.length).length+cl.length:=by
  exact ru N5 (ru N5 (ru (N3 ..) (ru (N3 ..) (ru Q4 rfl))))
 tQ h (λ q=>absurd (N1 h1 (N1 (P1 _ _) (P1 _ _))) (Nat.not_le.mpr (O0 (P0 (e.symm.trans (congrArg List.length q))) Nat.zero_lt_one))) (rB hk hr hc).l.c (N1 (P0 e) (N1 (R7 (R7 hz (f7 (P:=λ l:List (List Nat)=>l.length≤1) (λ Z9=>N8 _) λ Z9=>P4 _:(dY ks rows.length).length≤1)) hcz) (by decide))) (uj hz h1 (N1 hcz (by decide)) hk hr hc)
theorem Cb {n:Nat}{rows:List bo}{cl:List Cl}{σ:aa}(h:free σ)(hz:rows.length≤16)(hcz:cl.length≤2)(hr:∀ r∈rows,aB rows.length r)(hc:∀ c∈cl,aO rows.length c):ar (n+4) 28 [cZ rows,c6 cl,aH] σ (.ok (.str (ah [10] (a0 (fh rows cl) rows cl))) σ):=by
 have C:=fN (n:=n) (A:=cZ rows) (B:=c6 cl) (code:=rows.map b9) (cl:=cl) h (by unfold cZ;refine ru T0 ?_;rfl) rfl (Q5.mpr λ r m=>(hr r m).ins) (by refine ru (N3 ..) ?_;exact N1 hz (by decide)) (N1 hcz (by decide))
 rw [vg (N1 hz (by decide)) hr hc] at C
 exact C
end
noncomputable section
section
variable {scr:List Int} {ρ:am}
theorem zm (h:cT ρ 0=some (.lst (scr.map .int))):∃ t:Int,Ev 10 (.ite (.tru (.v 0)) (.idx (.v 0) (.c (.int 0))) (.c (.int 0))) ρ [] (.ok (.int t) []):=by
 cases scr with
 | nil=>exact ⟨0,dU (.inl ⟨_,_,qF (.inl ⟨_,_,dG h,_,pN rfl,rfl⟩),.inr ⟨rfl,dI⟩⟩)⟩
 | cons a r=>exact ⟨a,dU (.inl ⟨_,_,qF (.inl ⟨_,_,dG h,_,pN rfl,rfl⟩),.inl ⟨rfl,i9 (.inl ⟨_,_,dG h,.inl ⟨_,_,dI,_,i6 (cF (i:=0) rfl),rfl⟩⟩)⟩⟩)⟩
theorem AY {k:Nat}(h:cT ρ 0=some (.lst (scr.map .int))):Ev 10 (.cmp .Gt (.fn .len (.v 0)) (.c (.int (k:Int)))) ρ [] (.ok (.bool (decide (k<scr.length))) []):=bq (e6 (P:=(scr.length:Int) > (k:Int)) R8) (gS (.inl ⟨_,_,BP (.inl ⟨_,_,dG h,_,AX (congrArg some (N3 _)),rfl⟩),.inl ⟨_,_,dI,_,dl rfl,rfl⟩⟩))
theorem I6 (h:cT ρ 0=some (.lst (scr.map .int))):∃ t:Int,Ev 10 (.ite (.cmp .Gt (.fn .len (.v 0)) (.c (.int 1))) (.idx (.v 0) (.c (.int 1))) (.c (.int 1))) ρ [] (.ok (.int t) []):=by
 have c:=AY (k:=1) h
 by_cases q:1<scr.length
 ·rw [decide_eq_true q] at c
  exact ⟨scr[1],dU (.inl ⟨_,_,c,.inl ⟨rfl,i9 (.inl ⟨_,_,dG h,.inl ⟨_,_,dI,_,i6 (cF (i:=1) (by refine ru (Q3) (ru (O4 q) ?_);rfl)),rfl⟩⟩)⟩⟩)⟩
 ·rw [decide_eq_false q] at c
  exact ⟨1,dU (.inl ⟨_,_,c,.inr ⟨rfl,dI⟩⟩)⟩
theorem An (h:cT ρ 0=some (.lst (scr.map .int))):∃ ns:List Int,(1≤ns.length∧ns.length≤16)∧Ev 10 (.ite (.cmp .Gt (.fn .len (.v 0)) (.c (.int 2))) (.slice (.v 0) (.c (.int 2)) (.c (.int 18))) (.lst (.cs (.bin .Add (.c (.int 2)) (.bin .Mult (.c (.int 9)) (.c (.int 9)))) (.cs (.c (.int 5)) (.cs (.bin .Add (.c (.int 8)) (.bin .Mult (.c (.int 9)) (.c (.int 3)))) .nl))))) ρ [] (.ok (.lst (ns.map .int)) []):=by
 have c:=AY (k:=2) h
 by_cases q:2<scr.length
 ·rw [decide_eq_true q] at c
  refine ⟨ba 2 (min 18 scr.length) scr,?_,dU (.inl ⟨_,_,c,.inl ⟨rfl,tr (.inl ⟨_,_,dG h,.inl ⟨_,_,dI,.inl ⟨_,_,dI,_,rJ (?_:dN _ _ _=some (.lst ((ba 2 (min 18 scr.length) scr).map .int))),rfl⟩⟩⟩)⟩⟩)⟩
  ·refine ru V1 (ru V4 ?_)
   exact ⟨Nat.le_min.mpr ⟨Y8 (Nat.le_min.mpr ⟨by decide,q⟩:3≤min 18 scr.length) 2,Y8 q 2⟩,N1 (Z0 _ _) (Y8 (Z0 18 _) 2)⟩
  ·show some (PV.lst (ba (min 2 (scr.map PV.int).length) (min 18 (scr.map PV.int).length) (scr.map PV.int)))=_
   refine ru (N3 ..) (ru (V0 (T3 q)) ?_)
   exact ru z1w (ru z1x rfl)
 ·rw [decide_eq_false q] at c
  exact ⟨[83,5,35],by decide,dU (.inl ⟨_,_,c,.inr ⟨rfl,(cG [] λ H=>(H:_→_→_→_→_) rfl rfl rfl rfl)⟩⟩)⟩
theorem y0 (q:Int)(n:Nat):(n6 q n).length≤2∧∀ c∈n6 q n,aO n c:=by
 refine ⟨?_,Q5.mpr λ j Z9=>vl q n j⟩
 refine ru (N3 ..) (ru Q4 ?_)
 exact mI (P:=λ k=>k.toNat≤2) q (k:=3) (by decide) λ i h=>Y5 h
theorem ze (turn:Int):∃ W∈iP,∀ σ,bp yL (.int (turn % 47)) σ=some (.str W):=cb MM.1 turn (k:=47) (by decide) MM.2
noncomputable def La (S N:PV)(turn q:Int)(rows:List bo)(cl:List Cl)(T:List Nat)(p:Int):am:=[some S,some (.int turn),some (.int q),some N,some (.lst (rows.map a9)),some (c6 cl),some (cZ rows),some aH,some (.loc 0),some (.str T),some (.int p),none]
end
end
noncomputable section
section
variable {S N:PV} {turn q:Int} {rows:List bo} {cl:List Cl} {T W:List Nat} {p:Int} {σ:aa}
theorem r6 {x:PV}(h:BS x x=some true):bT .NotEq x x σ=some false:=congrArg (Option.map (!·)) h
theorem HG {a b:List Nat}:bT .Eq (.str a) (.str b) σ=some (b==a):=congrArg some (z0o.mpr (beq_iff_eq.trans (Iff.trans ⟨λ q=>(cU q).symm,λ q=>congrArg aG q.symm⟩ beq_iff_eq.symm)):(aG a==aG b)=(b==a))
theorem Mt:(0:Int)<47∧(47:Int)<2000000000000:=by decide
theorem ya (hW:∀ σ,bp yL (.int (turn % 47)) σ=some (.str W))(hp:0≤p):St 10 Bn (La S N turn q rows cl T p) σ (.ok (.next (La S N turn q rows cl T ((if DM W then 0 else p.toNat:Nat):Int))) σ):=by
 have c:Ev 10 (.or (.cmp .In (.c (.str [115,119,105,116,99,104])) (.idx (.g 34) (.bin .Mod (.v 1) (.c (.int 47))))) (.cmp .Eq (.c (.str [98,114,32,116,104,101,101,110,100])) (.idx (.g 34) (.bin .Mod (.v 1) (.c (.int 47)))))) (La S N turn q rows cl T p) σ (.ok (.bool (DM W)) σ):=BN (p:=gN [115,119,105,116,99,104] W) (cG (ov (.str W) (ob (gN [115,119,105,116,99,104] W) [])) λ H=>(H:_→_→_→_) Mt (hW σ) rfl) (λ e=>by
  unfold DM
  refine ru e ?_
  exact (cG (ov (.str W) (ob (W==Cg) [])) λ H=>(H:_→_→_→_) Mt (hW σ) HG)) λ e=>by unfold DM;refine ru e ?_;rfl
 revert c
 cases DM W with
 | true=>exact λ c=>ee (.inl ⟨_,_,c,.inl ⟨rfl,(be [] λ H=>H)⟩⟩)
 | false=>exact λ c=>ee (.inl ⟨_,_,c,.inr ⟨rfl,ri ((T4 hp).symm) gj⟩⟩)
noncomputable def Nj:IS:=match nE with
 | .sq _ (.sq _ (.sq _ (.sq _ (.sq _ (.sq _ (.sq _ (.sq _ (.sq _ (.sq _ (.sq _ (.sq _ (.sq _ r))))))))))))=>r
 | _=>.sk
theorem A4 {LL:List (List Nat)}{i:Nat}{c:List Nat}(hW:∀ σ,bp yL (.int (turn % 47)) σ=some (.str W))(hi:i≤LL.length)(hz:LL.length≤60)(hJ:(ah [10] (LL.take i++W::LL.drop i)).length≤ax)(C:ar 10 22 [.str (ah [10] (LL.take i++W::LL.drop i)),aH] [.lst ((LL.take i++W::LL.drop i).map .str)] (.exc c ((i+1:Nat):Int) [.lst ((LL.take i++W::LL.drop i).map .str)]))(R:ar 10 38 [cZ rows,c6 cl,aH,.int turn] [.lst ((LL.take i++W::LL.drop i).map .str)] (.ok (.bool true) [.lst ((LL.take i++W::LL.drop i).map .str)])):∃ σ',St 10 Nj (La S N turn q rows cl T (i:Int)) [.lst (LL.map .str)] (.ok (.ret (.bool true)) σ'):=by
 have I:Hj [.lst (LL.map .str)] (.loc 0) (.int (i:Int)) (.str W)=some (.none,[.lst ((LL.take i++W::LL.drop i).map .str)]):=by
  refine (if_pos ⟨by refine ru (N3 ..) ?_;exact O0 hz (by decide),Q7 i,by refine ru (N3 ..) ?_;exact V5.mpr hi⟩).trans ?_
  refine ru P6 (ru z1b (ru z1w (ru z1x ?_)))
  rfl
 exact ⟨_,(be (aw 1 (ov (.str W) (.r .none [aN.lst ((LL.take i++W::LL.drop i).map PV.str)]::(ov (.str (ah [10] (LL.take i++W::LL.drop i))) (.x c ((i+1:Nat):Int) [aN.lst ((LL.take i++W::LL.drop i).map PV.str)]::(aw 1 (ob true (ov (.bool true) [])))))))) λ H=>(H:_→_→_→_→_→_→_→_) Mt (hW _) I ((cq (σ:=[.lst ((LL.take i++W::LL.drop i).map .str)]) (x:=.loc 0) (sep:=[10]) (l:=LL.take i++W::LL.drop i) rfl (by decide) hJ)) C (qO rfl) R)⟩
end
end
noncomputable section
theorem z9 (scr:List Int):∃ σ',St 10 nE (some (.lst (scr.map .int))::List.replicate 11 none) [] (.ok (.ret (.bool true)) σ'):=by
 obtain ⟨turn,E0⟩:=zm (scr:=scr) (ρ:=some (.lst (scr.map .int))::List.replicate 11 none) rfl
 obtain ⟨q,E1⟩:=I6 (scr:=scr) (ρ:=some (.lst (scr.map .int))::some (.int turn)::List.replicate 10 none) rfl
 obtain ⟨ns,⟨n1,n16⟩,E2⟩:=An (scr:=scr) (ρ:=some (.lst (scr.map .int))::some (.int turn)::some (.int q)::List.replicate 9 none) rfl
 obtain ⟨rows,rl,hr,T1⟩:=Ex (T:=e7 (ΓS 10) (.call 29 (.cs (.v 12) (.cs (.fn .len (.v 3)) .nl))) .nl true 1 [false,false,false,true,false,false,false,false,false,false,false,false] (some (.lst (scr.map .int))::some (.int turn)::some (.int q)::some (.lst (ns.map .int))::List.replicate 8 none) []) (g:=PV.int) (r:=a9) (Q:=aB ns.length) ns λ y m=>by
  obtain ⟨r,hr,C⟩:=CZ (n:=9) (v:=y) (σ:=[]) rfl (size:=ns.length) ⟨n1,N1 n16 (by decide)⟩
  exact ⟨r,hr,_,rfl,_,rfl,(cG (ov (ag ns.length) (ov (a9 r) [])) λ H=>(H:_→_→_) (congrArg (λ k:Nat=>some (ag k)) (N3 _)) C)⟩
 rw [← rl] at hr n1 n16
 obtain ⟨c2,cg⟩:=y0 q rows.length
 have CG:=lP (n:=9) (q:=q) (σ:=[]) (size:=rows.length) rfl (N1 n16 (by decide))
 revert c2 cg CG
 generalize n6 q rows.length=cl
 intro c2 cg CG
 have hk:=nB hr cg
 have kl:(fh rows cl).length<64:=O0 (N1 (fX hk) (P3 n16)) (by decide)
 have LO:=oH (n:=7) (v:=turn) (σ:=[]) rfl hr cg (N1 n16 (by decide)) (N1 c2 (by decide))
 obtain ⟨l1,l2⟩:=o7 (v:=turn) (rows:=rows) n16 c2
 have hC:=(eT (v:=turn) n16 hr cg).l.c
 have hf:free [aN.lst ((az turn rows cl).map .str)]:=br (σ:=[]) rfl (b6 _)
 have C1:=vt (n:=5) (v:=turn) hf n16 c2 hr cg
 have C2:=Cb (n:=6) hf n16 c2 hr cg
 have C3:=oa (n:=7) hf hr cg (N1 n16 (by decide)) (N1 c2 (by decide))
 have C4:=tN (n:=5) hf n16 n1 c2 kl (λ r m=>⟨hr r m,qu m⟩) λ c m=>⟨cg c m,wD m⟩
 have J1:=cq (σ:=[aN.lst ((az turn rows cl).map .str)]) (x:=.loc 0) (sep:=[10]) (l:=az turn rows cl) rfl (by decide) (sG hC (N1 l1 (by decide)))
 have NE:=r6 (σ:=[aN.lst ((az turn rows cl).map .str)]) (Ej (rows:=rows) (cl:=cl) hr)
 obtain ⟨W,mW,hW⟩:=ze turn
 have lb:=md (turn / 47) (k:=(az turn rows cl).length) l2
 have hi:(if DM W then 0 else (turn / 47 % ((az turn rows cl).length:Int)).toNat)≤(az turn rows cl).length:=by
  split
  ·exact P4 _
  ·exact z1g.mpr (U9 lb.2)
 obtain ⟨wC,wP,c,hasm⟩:=xJ (v:=turn) n16 (N1 c2 (by decide)) hr cg mW hi λ h=>if_pos h
 have PL:=λ T=>ya (S:=.lst (scr.map .int)) (N:=.lst (ns.map .int)) (q:=q) (rows:=rows) (cl:=cl) (T:=T) (σ:=[aN.lst ((az turn rows cl).map .str)]) hW lb.1
 revert hi wC wP hasm PL
 generalize (if DM W then 0 else (turn / 47 % ((az turn rows cl).length:Int)).toNat)=i
 intro hi wC wP hasm PL
 have wl:((az turn rows cl).take i++W::(az turn rows cl).drop i).length≤100:=by
  refine ru N5 (ru z3j (ru V1 (ru V4 ?_)))
  exact N1 (U7 (Z0 i _) _) (N1 (P0 (congrArg (·+1) (z2o hi))) (N1 (P3 l1) (by decide)))
 have wf:free [aN.lst (((az turn rows cl).take i++W::(az turn rows cl).drop i).map .str)]:=br (σ:=[]) rfl (b6 _)
 have C5:=tR (n:=5) wf (U1 _ (R5 _ _)) wC wl wP
 rw [hasm] at C5
 have C6:=qS (n:=5) (turn:=turn) wf n16 c2 hr
 obtain ⟨σ',LR⟩:=A4 (S:=.lst (scr.map .int)) (N:=.lst (ns.map .int)) (q:=q) (T:=ah [10] (a0 (fh rows cl) rows cl)) hW hi (N1 l1 (by decide)) (sG wC wl) C5 C6
 have T2:=eA (T:=e7 (ΓS 10) (.tup (.cs (.idx (.v 12) (.c (.int 0))) (.cs (.idx (.v 12) (.c (.int 2))) .nl))) .nl true 1 [false,false,false,false,false,false,false,false,false,false,false,false] [some (.lst (scr.map .int)),some (.int turn),some (.int q),some (.lst (ns.map .int)),some (.lst (rows.map a9)),some (c6 cl),none,none,none,none,none,none] []) (g:=a9) (r:=λ r=>cA (b9 r)) rows λ r m=>⟨_,rfl,_,rfl,(cG [] λ H=>H)⟩
 exact ⟨σ',(be (.e (.int turn)::(.e (.int q)::(.e (.lst (ns.map .int))::(.l (rows.map a9) []::(ov (ag rows.length) (ov (c6 cl) (.l (rows.map λ r=>cA (b9 r)) []::(ov aH (.r (.loc 0) [aN.lst ((az turn rows cl).map PV.str)]::(ov (.str (ah [10] (az turn rows cl))) (ov (.tup [cZ rows,c6 cl]) (ob false (ov (.str (ah [10] (a0 (fh rows cl) rows cl))) (ov (.str (ah [10] (a0 (fh rows cl) rows cl))) (ob false (ov (.tup [cZ rows,c6 cl]) (ob false (ov (ag (az turn rows cl).length) (.s (.ok (.ret (.bool true)) σ')::[]))))))))))))))))))) λ H=>(H:_→_→_→_→_→_→_→_→_→_→_→_→_→_→_→_→_→_→_→_→_→_→_→_) E0 E1 E2 T1 (by refine ru (N3 ..) ?_;exact N1 n16 (by decide)) (congrArg (λ k:Nat=>some (ag k)) (N3 _)) CG T2 (by refine ru (N3 ..) ?_;exact N1 n16 (by decide)) (vq (n:=9)) LO J1 C1 NE C2 C3 (r6 (tw rfl)) C4 NE (by decide) (congrArg (λ k:Nat=>some (ag k)) (N3 _)) (⟨Y0.mpr l2,R8.mpr (O0 l1 (by decide))⟩) (dD (.inl ⟨_,_,PL _,LR⟩)))⟩
end
noncomputable section
open PySem.W PyProof.Rows PySem.Calls
theorem DV {S:Sy}{β:Fz}{vals:List Value}{scr:List Int}(h:IntsAre vals scr):RepL S β (scr.map .int) vals:=by
 induction h with
 | nil=>exact rfl
 | cons n t h ih=>exact ⟨_,_,rfl,⟨t,rfl⟩,ih⟩
theorem A2 {K:Frag}{prog:Program}{w:World}{s₁:Shared}{mg mb:Str→Option Value}{h₁:Heap}{tk:Nat}{L:Addr}{vals:List Value}{scr:List Int}{env:Env}{cv:Option Value}{m:Str→Option Value}(H:ot K w)(F:xF K)
  (KX:K.In s₁.heap) (g:s₁.heap.Ns mainGlobals mg) (b:s₁.heap.Ns builtinsNs mb) (hl:s₁.heap.NoLimit) (hb:∀ x:Str,x≠"__name__"→mb x=bootBuiltins x)
  (hL:s₁.heap.IsList L vals.toArray) (hI:IntsAre vals scr) (hlen:scr.length≤63)
  (keep:s₁.heap.StaysIn h₁) (ns:h₁.Ns s₁.heap.objs.size m) (hm:m (Str.ofString "script")=some (.ref L)) (cell:h₁.IsCell (s₁.heap.objs.size+1) cv)
  (eS:env.scope=(iU K 529).scope) (eL:env.locals=s₁.heap.objs.size) (eG:env.globals=mainGlobals) (eC:env.cells=cellsFrom (s₁.heap.objs.size+1) (iU K 529).scope.names []) (eF:env.frame=some s₁.heap.objs.size) (eB:env.builtins=builtinsNs) :
  PySem.wpAny (model prog w) (callerA.deeper env) (execs (iU K 529).body env) (λ f s'=>f=.ret (.bool true)∧(s'.os=s₁.os∧s'.gens=s₁.gens)∧s₁.heap.StaysIn s'.heap) (λ Z9 Z9=>False) ⟨h₁,s₁.gens,s₁.drawn,tk,s₁.os⟩:=by
 have FC:=wZ F.rel39
 rw [H.c39] at eC
 have eK:∀ x,env.kindOf x=(iU K 529).scope.names.lookup x:=λ x=>by refine ri eS ?_;rfl
 refine (z9 scr).elim λ σ' ps=>?_
 have hc:∀ c∈env.cells,c=(("numbers":Str),s₁.heap.objs.size+1):=λ c m=>P7.mp (ri eC m)
 let X:Cx:=⟨oB prog w K,mg,mb,s₁.heap,s₁.os,s₁.gens,env,callerA.deeper env,[env],(iU K 529).slots,10⟩
 have ok:re X []:=by
  refine ⟨(⟨ru eS H.s39,eG,eB,Around.frames_deeper rfl,by show callerA.units+3+40*10+200<cLine;decide,by show callerA.depth+1+10+5<recursionLimit;decide,H.top F KX g b hl hb,λ Z9 e=>b2 e⟩:lq X),FC.nds,λ x h=>z1t.mp (by show (env.cells.lookup x).isSome=true;refine ru eC (ri (H.c39 ..) ?_);exact cellsFrom_some _ _ _ (.inl ((eK x).symm.trans h))),λ c m=>(eK c.1).trans (FC.celk (("numbers":Str),0) (ru (H.c39 0) (List.mem_singleton_self _)) |> λ e=>ru (hc c m) e),by refine ru eC ?_;exact V3 _ _,⟨[],rfl,λ e m=>o4 m⟩,eF.trans (congrArg some eL.symm)⟩
 have at_:∀ {P:Str→Bool} {q:Str×PV},q∈c8 X (some (.lst (scr.map .int))::List.replicate 11 none) P→q=(("script":Str),.lst (scr.map .int)):=λ {P q} h=>(fB h).elim λ i z=>by
  cases i with
  | zero=>exact Prod.ext (Option.some.inj (z.1.symm.trans (by show (vY (iU K 529).scope (iU K 529).ps)[0]?=_;refine ru H.p39 ?_;rfl:(iU K 529).slots[0]?=some ("script":Str)))) (Option.some.inj (q8 (fd:=⟨1,12,false,nE⟩) (vs:=[.lst (scr.map .int)]) z.2.1)).symm
  | succ=>exact b2 (q8 (fd:=⟨1,12,false,nE⟩) (vs:=[.lst (scr.map .int)]) z.2.1)
 have ea:dL (bM X (some (.lst (scr.map .int))::List.replicate 11 none) 0)=[s₁.heap.objs.size,s₁.heap.objs.size+1]:=by
  refine ru fb ?_
  refine ru eL (ru eC ?_);rfl
 have A0:At X ⟨h₁,s₁.gens,s₁.drawn,tk,s₁.os⟩ ⟨s₁.heap,[]⟩ [] (bM X (some (.lst (scr.map .int))::List.replicate 11 none) 0++[]):=by
  refine ⟨⟨rfl,rfl⟩,(⟨λ Z9 Z9 e=>e,λ Z9 Z9 e=>e,rfl,List.Pairwise.nil,λ a (m:a∈([]:List Addr))=>(o4 m),λ l a o e=>(b2 e),λ q m=>(o4 m)⟩:cy X.S s₁.heap s₁.heap ⟨s₁.heap,[]⟩ [] []).addL keep ?_ (λ a m=>⟨λ (q:a∈([]:List Addr))=>(o4 q),(λ a h=>Heap.get?_none_of_le h:∀ a,s₁.heap.objs.size≤a→s₁.heap.get? a=none) a ?_⟩) λ q m=>?_⟩
  ·refine ru ea ?_
   exact Q9.mpr ⟨λ m=>absurd (P7.mp m) (V7 (U0 _)),V3 _ _⟩
  ·rw [ea] at m
   exact (Q2.mp m).elim (λ e=>ri e (N8 _)) λ m=>ru (P7.mp m) (U4 _)
  ·rcases Q2.mp m with e | m
   ·exact e▸lH.now ((pG (show h₁.Ns env.locals _ from ru eL ns)).imp λ o w=>⟨w.1,_,w.2,λ q m=>ru (at_ m) (⟨_,hm,(λ e=>⟨by refine ru (N3 ..) ?_;exact N1 hlen (by decide),L,vals,rfl,ru e hL,DV hI⟩:∀ {β:Fz},β.B=s₁.heap→bj X.S β (.lst (scr.map .int)) (.ref L)) rfl⟩)⟩)
   ·obtain ⟨c,mc,rfl⟩:=S0.mp m
    cases hc c mc
    exact lH.now (cell.elim λ o w=>⟨o,w.1,_,λ h e=>⟨o,e,w.2⟩,λ q m=>(fB m).elim λ i z=>by have z:=z.2.2;rw [at_ m] at z;exact rh z⟩)
 exact ps.ss X (iU K 529).body [] ok rfl (λ Z9=>rfl) (by show (lK nE (B9 env.scope (iU K 529).slots)).ss _=true;refine ru eS ?_;exact FC.rel) _ _ _ _ _ A0 trivial λ v s' β' ρ' k a l r=>⟨congrArg _ r,a.1,λ a' o e=>a.2.st a' o (l.b a' o e)⟩
end
end Mine
end
section
end
set_option tactic.hygienic true
open PySem PySem.W PyProof.Rows PySem.Calls
set_option maxRecDepth 100000
set_option maxHeartbeats 0
set_option tactic.hygienic true
namespace Mine
noncomputable def top.tw14337219130427606186:PySem.Program:=PySem.Challenge.pw_sa0231_01
theorem top.te14337219130427606186:PySem.Challenge.pw_sa0231_01=top.tw14337219130427606186:=rfl
theorem top.tw10006222313960134694:0=0:=rfl
theorem top.tw10008474027749305400:0=0:=rfl
theorem top.tw10079171474624433434:0=0:=rfl
theorem top.tw10090393231696489298:0=0:=rfl
theorem top.tw1016984595167383106:0=0:=rfl
theorem top.tw10187264123177260123:0=0:=rfl
theorem top.tw10187724287525710026:0=0:=rfl
theorem top.tw10194810499950245846:0=0:=rfl
theorem top.tw10195997230039290492:0=0:=rfl
theorem top.tw10341860258655708415:0=0:=rfl
theorem top.tw10399464001100048223:0=0:=rfl
theorem top.tw10404823597219466188:0=0:=rfl
theorem top.tw104434173382791472:0=0:=rfl
theorem top.tw10448899703829047738:0=0:=rfl
theorem top.tw1047907039808853306:0=0:=rfl
theorem top.tw1051483542818363118:0=0:=rfl
theorem top.tw105208000716104510:0=0:=rfl
theorem top.tw10548783162686979305:0=0:=rfl
theorem top.tw10567129059001840431:0=0:=rfl
theorem top.tw10574840078274726829:0=0:=rfl
theorem top.tw10648311167861321448:0=0:=rfl
theorem top.tw10657950659306570408:0=0:=rfl
theorem top.tw10665585003947065092:0=0:=rfl
theorem top.tw1068965626710143233:0=0:=rfl
theorem top.tw10773188271377071773:0=0:=rfl
theorem top.tw10774637447528242797:0=0:=rfl
theorem top.tw10783980745131425670:0=0:=rfl
theorem top.tw10797620697341660853:0=0:=rfl
theorem top.tw10801874191123338550:0=0:=rfl
theorem top.tw10864713392326063847:0=0:=rfl
theorem top.tw1088946173253831356:0=0:=rfl
theorem top.tw10915162052029792233:0=0:=rfl
theorem top.tw10936122117785486979:0=0:=rfl
theorem top.tw10956490626425055710:0=0:=rfl
theorem top.tw10987319290404115282:0=0:=rfl
theorem top.tw10996937224433265937:0=0:=rfl
theorem top.tw11011315864526344451:0=0:=rfl
theorem top.tw1108800333578037850:0=0:=rfl
theorem top.tw11116745826364501430:0=0:=rfl
theorem top.tw1112988674713690477:0=0:=rfl
theorem top.tw11133666699803404755:0=0:=rfl
theorem top.tw11141966352661209427:0=0:=rfl
theorem top.tw11199532085631943738:0=0:=rfl
theorem top.tw11199710921928265848:0=0:=rfl
theorem top.tw11203750815551599093:0=0:=rfl
theorem top.tw11215447202461467011:0=0:=rfl
theorem top.tw1123975283337734383:0=0:=rfl
theorem top.tw11240886729373846589:0=0:=rfl
theorem top.tw1124271682379634556:0=0:=rfl
theorem top.tw11334203419191126389:0=0:=rfl
theorem top.tw11334415319851112604:0=0:=rfl
theorem top.tw1139600151236580504:0=0:=rfl
theorem top.tw11423202765487971197:0=0:=rfl
theorem top.tw1142415686869020238:0=0:=rfl
theorem top.tw11430207588045935325:0=0:=rfl
theorem top.tw11443710868159068359:0=0:=rfl
theorem top.tw11459358961799972967:0=0:=rfl
theorem top.tw11466170419677230873:0=0:=rfl
theorem top.tw11520865232209809239:0=0:=rfl
theorem top.tw11546936639936008217:0=0:=rfl
theorem top.tw11582926029173025856:0=0:=rfl
theorem top.tw11613256710310857696:0=0:=rfl
theorem top.tw11634041833544832627:0=0:=rfl
theorem top.tw11760055953109336660:0=0:=rfl
theorem top.tw11762496359356365647:0=0:=rfl
theorem top.tw11858546649754279707:0=0:=rfl
theorem top.tw11922380849998532372:0=0:=rfl
theorem top.tw1195175773429642966:0=0:=rfl
theorem top.tw11960245374511038805:0=0:=rfl
theorem top.tw11994683656316670133:0=0:=rfl
theorem top.tw12080426169559351053:0=0:=rfl
theorem top.tw12105128591322288922:0=0:=rfl
theorem top.tw1212798325632107971:0=0:=rfl
theorem top.tw12166907935582030026:0=0:=rfl
theorem top.tw12209182163369298222:0=0:=rfl
theorem top.tw12256363837256957063:0=0:=rfl
theorem top.tw12318557346453588183:0=0:=rfl
theorem top.tw12342655685612074800:0=0:=rfl
theorem top.tw12376051458212225564:0=0:=rfl
theorem top.tw12385144161495827662:0=0:=rfl
theorem top.tw12392516345856041104:0=0:=rfl
theorem top.tw12415523145999629524:0=0:=rfl
theorem top.tw12425085872883035938:0=0:=rfl
theorem top.tw12427389293880184781:0=0:=rfl
theorem top.tw1245559373397905713:0=0:=rfl
theorem top.tw12483720753089274532:0=0:=rfl
theorem top.tw12535971307161669396:0=0:=rfl
theorem top.tw12540527436937284434:0=0:=rfl
theorem top.tw12545222027267286695:0=0:=rfl
theorem top.tw125726821825481252:0=0:=rfl
theorem top.tw12622177474791663080:0=0:=rfl
theorem top.tw12643491718579748851:0=0:=rfl
theorem top.tw12718909917080609646:0=0:=rfl
theorem top.tw12764151676501842404:0=0:=rfl
theorem top.tw12787338502077490372:0=0:=rfl
theorem top.tw12819366960792805191:0=0:=rfl
theorem top.tw1284575025550258836:0=0:=rfl
theorem top.tw1291508964198565346:0=0:=rfl
theorem top.tw12958502747184954254:0=0:=rfl
theorem top.tw12958664272152378060:0=0:=rfl
theorem top.tw13001836021917841797:0=0:=rfl
theorem top.tw13044034144603486326:0=0:=rfl
theorem top.tw1306697619066116301:0=0:=rfl
theorem top.tw13068111086705522682:0=0:=rfl
theorem top.tw13090165191389475591:0=0:=rfl
theorem top.tw13134186033006778460:0=0:=rfl
theorem top.tw13160728816969591200:0=0:=rfl
theorem top.tw13177472732611162249:0=0:=rfl
theorem top.tw1321871150748368714:0=0:=rfl
theorem top.tw13223034962123697568:0=0:=rfl
theorem top.tw13264354339760550358:0=0:=rfl
theorem top.tw13272337422414781067:0=0:=rfl
theorem top.tw13303987763403120937:0=0:=rfl
theorem top.tw13307591127769906961:0=0:=rfl
theorem top.tw13326734554550294991:0=0:=rfl
theorem top.tw13345470168829271861:0=0:=rfl
theorem top.tw13359135706311490777:0=0:=rfl
theorem top.tw13369591340354186047:0=0:=rfl
theorem top.tw13370750898655102155:0=0:=rfl
theorem top.tw13420762306968818387:0=0:=rfl
theorem top.tw13501252493785611398:0=0:=rfl
theorem top.tw13706816188851595723:0=0:=rfl
theorem top.tw13710211086531791108:0=0:=rfl
theorem top.tw13799840507378627052:0=0:=rfl
theorem top.tw13822267516522204269:0=0:=rfl
theorem top.tw13829181886748113429:0=0:=rfl
theorem top.tw13889484949932952446:0=0:=rfl
theorem top.tw13896958669275611876:0=0:=rfl
theorem top.tw13928562000808390012:0=0:=rfl
theorem top.tw13968125046926948103:0=0:=rfl
theorem top.tw13983857475226248213:0=0:=rfl
theorem top.tw13994475860397038760:0=0:=rfl
theorem top.tw1400011881503588481:0=0:=rfl
theorem top.tw14142502885225118848:0=0:=rfl
theorem top.tw14145802354927516647:0=0:=rfl
theorem top.tw14168018189251442112:0=0:=rfl
theorem top.tw14218365931652832948:0=0:=rfl
theorem top.tw14263998999751124003:0=0:=rfl
theorem top.tw14349089067433371257:0=0:=rfl
theorem top.tw14371913498598963198:0=0:=rfl
theorem top.tw14372152842798730730:0=0:=rfl
theorem top.tw14374289702345001990:0=0:=rfl
theorem top.tw14390669486469195807:0=0:=rfl
theorem top.tw14399976873020721970:0=0:=rfl
theorem top.tw14453841093610474573:0=0:=rfl
theorem top.tw14459580976405569124:0=0:=rfl
theorem top.tw14502225709538309166:0=0:=rfl
theorem top.tw14537839394382259888:0=0:=rfl
theorem top.tw14597223018079223185:0=0:=rfl
theorem top.tw14611434983143301774:0=0:=rfl
theorem top.tw14615657086365298920:0=0:=rfl
theorem top.tw14632489290957082403:0=0:=rfl
theorem top.tw14657780768301432306:0=0:=rfl
theorem top.tw14697636140705633519:0=0:=rfl
theorem top.tw14747140909534839006:0=0:=rfl
theorem top.tw14762295962024373759:0=0:=rfl
theorem top.tw14789260269991461300:0=0:=rfl
theorem top.tw14796646475526232899:0=0:=rfl
theorem top.tw14823308797102314842:0=0:=rfl
theorem top.tw14826035006057030972:0=0:=rfl
theorem top.tw14839182381909581876:0=0:=rfl
theorem top.tw14901070454687303710:0=0:=rfl
theorem top.tw15058813355848621054:0=0:=rfl
theorem top.tw15092371282622821202:0=0:=rfl
theorem top.tw15095372191486117680:0=0:=rfl
theorem top.tw15131181735567767105:0=0:=rfl
theorem top.tw15169761463676818070:0=0:=rfl
theorem top.tw15177526630643400193:0=0:=rfl
theorem top.tw15240379268576122478:0=0:=rfl
theorem top.tw15245507539482535896:0=0:=rfl
theorem top.tw15254643099363442306:0=0:=rfl
theorem top.tw15286249088069653756:0=0:=rfl
theorem top.tw15299407806266782574:0=0:=rfl
theorem top.tw15304316869575863853:0=0:=rfl
theorem top.tw15349318334595610263:0=0:=rfl
theorem top.tw15361541807878343388:0=0:=rfl
theorem top.tw15362295582089109014:0=0:=rfl
theorem top.tw15503665604740900718:0=0:=rfl
theorem top.tw15569959144833144457:0=0:=rfl
theorem top.tw15722756333993289495:0=0:=rfl
theorem top.tw15740088241188596515:0=0:=rfl
theorem top.tw1585457916280141200:0=0:=rfl
theorem top.tw15860264024139754761:0=0:=rfl
theorem top.tw15918733279669447828:0=0:=rfl
theorem top.tw1601500998369573665:0=0:=rfl
theorem top.tw16044733080236030384:0=0:=rfl
theorem top.tw16054190913257422852:0=0:=rfl
theorem top.tw16058212318047004132:0=0:=rfl
theorem top.tw16104615914030681952:0=0:=rfl
theorem top.tw16155163154822807229:0=0:=rfl
theorem top.tw1617357707322924660:0=0:=rfl
theorem top.tw16174758807025615021:0=0:=rfl
theorem top.tw16196420915677631385:0=0:=rfl
theorem top.tw16273406610938067001:0=0:=rfl
theorem top.tw16352630495959832749:0=0:=rfl
theorem top.tw16415559393655328363:0=0:=rfl
theorem top.tw16439428074185983240:0=0:=rfl
theorem top.tw16453443671601555132:0=0:=rfl
theorem top.tw16541100652227675460:0=0:=rfl
theorem top.tw16550210197400561554:0=0:=rfl
theorem top.tw1655259298481077034:0=0:=rfl
theorem top.tw16597617366809209970:0=0:=rfl
theorem top.tw16713831800681072344:0=0:=rfl
theorem top.tw16719718919923625709:0=0:=rfl
theorem top.tw1676862907878916244:0=0:=rfl
theorem top.tw16782997733028217545:0=0:=rfl
theorem top.tw16795567611416646642:0=0:=rfl
theorem top.tw16800595933775061595:0=0:=rfl
theorem top.tw16821654228018055803:0=0:=rfl
theorem top.tw16878204669230926818:0=0:=rfl
theorem top.tw16885616592811714743:0=0:=rfl
theorem top.tw16900427199656544559:0=0:=rfl
theorem top.tw1697544655201012999:0=0:=rfl
theorem top.tw17022078359063049780:0=0:=rfl
theorem top.tw17030962893124633753:0=0:=rfl
theorem top.tw1703601967441896915:0=0:=rfl
theorem top.tw17046948494117081484:0=0:=rfl
theorem top.tw17089494485692210459:0=0:=rfl
theorem top.tw17103177528636943170:0=0:=rfl
theorem top.tw17219337458794519322:0=0:=rfl
theorem top.tw17315540178315561739:0=0:=rfl
theorem top.tw1732150942055357024:0=0:=rfl
theorem top.tw17323899518341599180:0=0:=rfl
theorem top.tw17342085116792181814:0=0:=rfl
theorem top.tw17355269125676882429:0=0:=rfl
theorem top.tw1736530178072539846:0=0:=rfl
theorem top.tw17428532607074087071:0=0:=rfl
theorem top.tw17469865338272021226:0=0:=rfl
theorem top.tw17470836177267949868:0=0:=rfl
theorem top.tw17492772389151264855:0=0:=rfl
theorem top.tw17542608870123051758:0=0:=rfl
theorem top.tw1754339480302792767:0=0:=rfl
theorem top.tw17620759639134147866:0=0:=rfl
theorem top.tw17781115878593249900:0=0:=rfl
theorem top.tw17795014544551873601:0=0:=rfl
theorem top.tw17810072253543177317:0=0:=rfl
theorem top.tw17886615442053742456:0=0:=rfl
theorem top.tw17953984050398360512:0=0:=rfl
theorem top.tw18034075008235765660:0=0:=rfl
theorem top.tw18063644159110109576:0=0:=rfl
theorem top.tw18064794426631996164:0=0:=rfl
theorem top.tw18085771088847121727:0=0:=rfl
theorem top.tw18086089286151905521:0=0:=rfl
theorem top.tw18177719399980262173:0=0:=rfl
theorem top.tw18237780215024852062:0=0:=rfl
theorem top.tw18245740138792012028:0=0:=rfl
theorem top.tw18289109515434150305:0=0:=rfl
theorem top.tw1833847959688406909:0=0:=rfl
theorem top.tw18367679650794681301:0=0:=rfl
theorem top.tw1843344800811705456:0=0:=rfl
theorem top.tw1886144042066472794:0=0:=rfl
theorem top.tw196536941598035525:0=0:=rfl
theorem top.tw1971433849790844608:0=0:=rfl
theorem top.tw1988063486488863061:0=0:=rfl
theorem top.tw2007660962349395123:0=0:=rfl
theorem top.tw2057334267981633021:0=0:=rfl
theorem top.tw2093333464667377861:0=0:=rfl
theorem top.tw2126296398998916975:0=0:=rfl
theorem top.tw2145171640123136144:0=0:=rfl
theorem top.tw216529984938456764:0=0:=rfl
theorem top.tw2220570432770164149:0=0:=rfl
theorem top.tw2249405535684624136:0=0:=rfl
theorem top.tw2267912224990424062:0=0:=rfl
theorem top.tw227720230686144328:0=0:=rfl
theorem top.tw2287823674025257028:0=0:=rfl
theorem top.tw2312856594315299383:0=0:=rfl
theorem top.tw2369445192022557226:0=0:=rfl
theorem top.tw2377541652452675900:0=0:=rfl
theorem top.tw2405475915293451298:0=0:=rfl
theorem top.tw2443449257678562572:0=0:=rfl
theorem top.tw2462062305354472974:0=0:=rfl
theorem top.tw2464713573024523455:0=0:=rfl
theorem top.tw2506305409684761478:0=0:=rfl
theorem top.tw2514443458684651071:0=0:=rfl
theorem top.tw2515962861023736851:0=0:=rfl
theorem top.tw2555065506035805374:0=0:=rfl
theorem top.tw2581206410525282061:0=0:=rfl
theorem top.tw2617719716777270872:0=0:=rfl
theorem top.tw2665807947273092163:0=0:=rfl
theorem top.tw2683898200743741643:0=0:=rfl
theorem top.tw2686433634493928565:0=0:=rfl
theorem top.tw2722852734226103192:0=0:=rfl
theorem top.tw2727672472851901052:0=0:=rfl
theorem top.tw2731995056826638727:0=0:=rfl
theorem top.tw2732273902793177162:0=0:=rfl
theorem top.tw2758071753971750899:0=0:=rfl
theorem top.tw2782073688633401757:0=0:=rfl
theorem top.tw2812155379371279736:0=0:=rfl
theorem top.tw2822501910515967889:0=0:=rfl
theorem top.tw283044589724301:0=0:=rfl
theorem top.tw2835187731363253809:0=0:=rfl
theorem top.tw2847958352784047137:0=0:=rfl
theorem top.tw2867133514656366558:0=0:=rfl
theorem top.tw2878843996050045342:0=0:=rfl
theorem top.tw2907113945770861938:0=0:=rfl
theorem top.tw2924597203103170677:0=0:=rfl
theorem top.tw294160598199564215:0=0:=rfl
theorem top.tw297971269722091814:0=0:=rfl
theorem top.tw2988451766255067171:0=0:=rfl
theorem top.tw3002795768020413707:0=0:=rfl
theorem top.tw3195522803047326042:0=0:=rfl
theorem top.tw3195968871104189447:0=0:=rfl
theorem top.tw3207569582813703071:0=0:=rfl
theorem top.tw3254097082911018636:0=0:=rfl
theorem top.tw3261557481417251176:0=0:=rfl
theorem top.tw3315250197877816394:0=0:=rfl
theorem top.tw3378803678994701225:0=0:=rfl
theorem top.tw339143206060000330:0=0:=rfl
theorem top.tw3422688185749166683:0=0:=rfl
theorem top.tw342308947776675178:0=0:=rfl
theorem top.tw3484022092364678248:0=0:=rfl
theorem top.tw3584897518013459382:0=0:=rfl
theorem top.tw3669314199184481253:0=0:=rfl
theorem top.tw370947364307004932:0=0:=rfl
theorem top.tw3712731000106771831:0=0:=rfl
theorem top.tw3730354652608582461:0=0:=rfl
theorem top.tw3739144386018749749:0=0:=rfl
theorem top.tw3767615275625035234:0=0:=rfl
theorem top.tw3776753064480771068:0=0:=rfl
theorem top.tw390997316461189296:0=0:=rfl
theorem top.tw3969286963782609292:0=0:=rfl
theorem top.tw3976154599441133093:0=0:=rfl
theorem top.tw3995942328266245912:0=0:=rfl
theorem top.tw4047667213573674445:0=0:=rfl
theorem top.tw4076138812419527698:0=0:=rfl
theorem top.tw4134505453457115739:0=0:=rfl
theorem top.tw4159251561096739476:0=0:=rfl
theorem top.tw4205137553216949640:0=0:=rfl
theorem top.tw4213018616267185653:0=0:=rfl
theorem top.tw427420600052151026:0=0:=rfl
theorem top.tw4299629679881509495:0=0:=rfl
theorem top.tw4321519831107876412:0=0:=rfl
theorem top.tw4383139521930768336:0=0:=rfl
theorem top.tw4392038535549328194:0=0:=rfl
theorem top.tw4526881389914513428:0=0:=rfl
theorem top.tw453181688931711583:0=0:=rfl
theorem top.tw4555866861457887817:0=0:=rfl
theorem top.tw4597200072644226624:0=0:=rfl
theorem top.tw4655869559712951663:0=0:=rfl
theorem top.tw4656485037274611717:0=0:=rfl
theorem top.tw4699463449715708850:0=0:=rfl
theorem top.tw47109162367338493:0=0:=rfl
theorem top.tw4713442408853163898:0=0:=rfl
theorem top.tw4736427724481360342:0=0:=rfl
theorem top.tw4784893810139332661:0=0:=rfl
theorem top.tw4828031223510198475:0=0:=rfl
theorem top.tw4835499133494076262:0=0:=rfl
theorem top.tw4840481374290595910:0=0:=rfl
theorem top.tw487173335965325826:0=0:=rfl
theorem top.tw4916261283513009128:0=0:=rfl
theorem top.tw4940147422707163885:0=0:=rfl
theorem top.tw501154541418245514:0=0:=rfl
theorem top.tw5088376156974544275:0=0:=rfl
theorem top.tw5105846836358774362:0=0:=rfl
theorem top.tw5118827330378232414:0=0:=rfl
theorem top.tw5155950481276406077:0=0:=rfl
theorem top.tw5225153198818245361:0=0:=rfl
theorem top.tw5225916559131626549:0=0:=rfl
theorem top.tw5245862010334584759:0=0:=rfl
theorem top.tw5278709424875269971:0=0:=rfl
theorem top.tw5303079699428457377:0=0:=rfl
theorem top.tw53344730913325255:0=0:=rfl
theorem top.tw5398424786039705171:0=0:=rfl
theorem top.tw5434309568573575005:0=0:=rfl
theorem top.tw5476889619067714990:0=0:=rfl
theorem top.tw5581607755468803823:0=0:=rfl
theorem top.tw5597187220613765494:0=0:=rfl
theorem top.tw5609151216138764652:0=0:=rfl
theorem top.tw5667650583090716360:0=0:=rfl
theorem top.tw5724797396398055869:0=0:=rfl
theorem top.tw5766051744304087583:0=0:=rfl
theorem top.tw5860347150701562758:0=0:=rfl
theorem top.tw5868845118606482295:0=0:=rfl
theorem top.tw5889316905344633881:0=0:=rfl
theorem top.tw5915399644114372684:0=0:=rfl
theorem top.tw5938664839603501006:0=0:=rfl
theorem top.tw594810645892935528:0=0:=rfl
theorem top.tw5969682004907312646:0=0:=rfl
theorem top.tw5983031951866500094:0=0:=rfl
theorem top.tw6042063481754889096:0=0:=rfl
theorem top.tw6124053682588569230:0=0:=rfl
theorem top.tw6176384092110617959:0=0:=rfl
theorem top.tw6180947092584011162:0=0:=rfl
theorem top.tw6187478851450931391:0=0:=rfl
theorem top.tw6189502492464219833:0=0:=rfl
theorem top.tw6196800358849779857:0=0:=rfl
theorem top.tw6211089042160764376:0=0:=rfl
theorem top.tw6240723676877644813:0=0:=rfl
theorem top.tw6265701101103706036:0=0:=rfl
theorem top.tw6292954644110606532:0=0:=rfl
theorem top.tw6333448901615975916:0=0:=rfl
theorem top.tw6370870915552960936:0=0:=rfl
theorem top.tw6430265229019958763:0=0:=rfl
theorem top.tw6431110157172167083:0=0:=rfl
theorem top.tw6438537300738474071:0=0:=rfl
theorem top.tw6487610083215253720:0=0:=rfl
theorem top.tw6491118196486620199:0=0:=rfl
theorem top.tw649111842878565636:0=0:=rfl
theorem top.tw649594095290182367:0=0:=rfl
theorem top.tw6505410396798821541:0=0:=rfl
theorem top.tw6520327441239513222:0=0:=rfl
theorem top.tw6572447435987645144:0=0:=rfl
theorem top.tw6624316729101989866:0=0:=rfl
theorem top.tw6662652255960138227:0=0:=rfl
theorem top.tw6664487174759623829:0=0:=rfl
theorem top.tw6674990990233134667:0=0:=rfl
theorem top.tw6694047246710070196:0=0:=rfl
theorem top.tw672699306608606093:0=0:=rfl
theorem top.tw6749217079512962374:0=0:=rfl
theorem top.tw6756868429301003459:0=0:=rfl
theorem top.tw6761616313442571491:0=0:=rfl
theorem top.tw6812286434817487243:0=0:=rfl
theorem top.tw6883741973766446791:0=0:=rfl
theorem top.tw6885214360128481674:0=0:=rfl
theorem top.tw6919701780365589675:0=0:=rfl
theorem top.tw6930518751129746686:0=0:=rfl
theorem top.tw6973401727384321114:0=0:=rfl
theorem top.tw7008692893051332821:0=0:=rfl
theorem top.tw705360758644809490:0=0:=rfl
theorem top.tw708234853630380328:0=0:=rfl
theorem top.tw7198060816514059695:0=0:=rfl
theorem top.tw7204493036743257322:0=0:=rfl
theorem top.tw7250933059871147345:0=0:=rfl
theorem top.tw7260941619817147077:0=0:=rfl
theorem top.tw728428047077509346:0=0:=rfl
theorem top.tw7297446738713254254:0=0:=rfl
theorem top.tw7313339093194340965:0=0:=rfl
theorem top.tw7381879191629600215:0=0:=rfl
theorem top.tw7386116660499605909:0=0:=rfl
theorem top.tw7414872774492366064:0=0:=rfl
theorem top.tw7429413206186439793:0=0:=rfl
theorem top.tw7458633546980236471:0=0:=rfl
theorem top.tw7467877400375527591:0=0:=rfl
theorem top.tw7527032243904285869:0=0:=rfl
theorem top.tw7600245330811189008:0=0:=rfl
theorem top.tw76412952228603488:0=0:=rfl
theorem top.tw7652560490529028683:0=0:=rfl
theorem top.tw7671549972530922468:0=0:=rfl
theorem top.tw7673058066778466091:0=0:=rfl
theorem top.tw7681529838311687354:0=0:=rfl
theorem top.tw7715697345341360870:0=0:=rfl
theorem top.tw7743179893348639699:0=0:=rfl
theorem top.tw7830913209206220567:0=0:=rfl
theorem top.tw7847352863974893604:0=0:=rfl
theorem top.tw7847650389618582240:0=0:=rfl
theorem top.tw7855079511596107753:0=0:=rfl
theorem top.tw788273225186049534:0=0:=rfl
theorem top.tw795583310449317561:0=0:=rfl
theorem top.tw7990429038631628895:0=0:=rfl
theorem top.tw8025738503920905074:0=0:=rfl
theorem top.tw8043003576528973991:0=0:=rfl
theorem top.tw8107780213005350392:0=0:=rfl
theorem top.tw8139039716903228087:0=0:=rfl
theorem top.tw8140125068956082859:0=0:=rfl
theorem top.tw814325599930780420:0=0:=rfl
theorem top.tw8143265674769528471:0=0:=rfl
theorem top.tw8148004212497801138:0=0:=rfl
theorem top.tw8184561461823581802:0=0:=rfl
theorem top.tw8204474986945543665:0=0:=rfl
theorem top.tw8212240652046128837:0=0:=rfl
theorem top.tw8237333600419904120:0=0:=rfl
theorem top.tw8265191368974092141:0=0:=rfl
theorem top.tw8265311939077410998:0=0:=rfl
theorem top.tw8281120267493503204:0=0:=rfl
theorem top.tw8311017846404947139:0=0:=rfl
theorem top.tw8321918168302905379:0=0:=rfl
theorem top.tw8369368087495890639:0=0:=rfl
theorem top.tw8410488445778877200:0=0:=rfl
theorem top.tw84136930442132756:0=0:=rfl
theorem top.tw8435561252592420358:0=0:=rfl
theorem top.tw8472579005086612782:0=0:=rfl
theorem top.tw8507776931139520737:0=0:=rfl
theorem top.tw8523463495250067690:0=0:=rfl
theorem top.tw8538268897159353584:0=0:=rfl
theorem top.tw8560541052185303311:0=0:=rfl
theorem top.tw8598144960395782539:0=0:=rfl
theorem top.tw860223938195835975:0=0:=rfl
theorem top.tw8613191699965854469:0=0:=rfl
theorem top.tw8622502720953521162:0=0:=rfl
theorem top.tw8640399195822439974:0=0:=rfl
theorem top.tw8645369167282567922:0=0:=rfl
theorem top.tw864819663365544661:0=0:=rfl
theorem top.tw8657480035899644758:0=0:=rfl
theorem top.tw8689318265317240412:0=0:=rfl
theorem top.tw8729362747519067210:0=0:=rfl
theorem top.tw8735323631387419056:0=0:=rfl
theorem top.tw877433047237710547:0=0:=rfl
theorem top.tw8813761850579938390:0=0:=rfl
theorem top.tw8874702517807110003:0=0:=rfl
theorem top.tw8968299171318014206:0=0:=rfl
theorem top.tw8973803690348224638:0=0:=rfl
theorem top.tw8974921116410688616:0=0:=rfl
theorem top.tw9059672392935016618:0=0:=rfl
theorem top.tw9059832203979395877:0=0:=rfl
theorem top.tw908825868028484722:0=0:=rfl
theorem top.tw9108098604805947806:0=0:=rfl
theorem top.tw9165953624949470791:0=0:=rfl
theorem top.tw9166809390415177425:0=0:=rfl
theorem top.tw9178861053002065721:0=0:=rfl
theorem top.tw9195894827357321740:0=0:=rfl
theorem top.tw9227057690007400460:0=0:=rfl
theorem top.tw9227541089923242437:0=0:=rfl
theorem top.tw9229161468869434483:0=0:=rfl
theorem top.tw9233335307524088747:0=0:=rfl
theorem top.tw9233715247699887402:0=0:=rfl
theorem top.tw9259421805112917234:0=0:=rfl
theorem top.tw9272544492142499777:0=0:=rfl
theorem top.tw9305691244287143441:0=0:=rfl
theorem top.tw9335426496214029073:0=0:=rfl
theorem top.tw9361663168868926718:0=0:=rfl
theorem top.tw9366391650621772374:0=0:=rfl
theorem top.tw9378254376102152143:0=0:=rfl
theorem top.tw9442318146202087700:0=0:=rfl
theorem top.tw9503340733035011235:0=0:=rfl
theorem top.tw956942650209027819:0=0:=rfl
theorem top.tw9589608677651300831:0=0:=rfl
theorem top.tw9601329371697537090:0=0:=rfl
theorem top.tw9631074621892390191:0=0:=rfl
theorem top.tw9739860059890490050:0=0:=rfl
theorem top.tw9743097575036673082:0=0:=rfl
theorem top.tw9759319705405543751:0=0:=rfl
theorem top.tw9768079942903668216:0=0:=rfl
theorem top.tw9800703332001039478:0=0:=rfl
theorem top.tw9843447840031818808:0=0:=rfl
theorem top.tw9851269098105209369:0=0:=rfl
theorem top.tw987869383939708018:0=0:=rfl
theorem top.tw9913501989792142831:0=0:=rfl
theorem top.tw9919435345466941130:0=0:=rfl
theorem top.tw9951221954081769418:0=0:=rfl
theorem top.tw9953747333497923681:0=0:=rfl
theorem top.tw9962302188120564619:0=0:=rfl
theorem top:PySem.Challenge.rw_sa0231_01.Holds:=by
 w_on;o_law;k_head;(case hw=>w_witness2)
 w_strict (
  k_go0;(all_goals try k_fold)
  rename_i w s₀ s₁ mg mb G Y fa o pm doc ho hg KX X V GL T B TE TW w10 w9 M w8 w7 hcd scr hs hlay0 hL1 hr1 hl2 w5 w4 L vals w1 hL ra ww1 r0 hI hr hcond1 hcond2 K0 hD h₁ tk₁ F wobj right N0 X0
  refine PySem.wpAny_mono (A2 {
   d3:=⟨_,_,rfl,rfl⟩
   gv:=by kernel_rfl
   nm:=by kernel_rfl
   d17:=⟨by kernel_rfl,by kernel_rfl,by kernel_rfl,by kernel_rfl,by kernel_rfl⟩
   d18:=⟨by kernel_rfl,by kernel_rfl,by kernel_rfl,by kernel_rfl,by kernel_rfl⟩
   d21:=⟨by kernel_rfl,by kernel_rfl,by kernel_rfl,by kernel_rfl,by kernel_rfl⟩
   d22:=⟨by kernel_rfl,by kernel_rfl,by kernel_rfl,by kernel_rfl,by kernel_rfl⟩
   d23:=⟨by kernel_rfl,by kernel_rfl,by kernel_rfl,by kernel_rfl,by kernel_rfl⟩
   bv:=by kernel_rfl
   fv:=by kernel_rfl
   c0:=B7 (by kernel_rfl) (by kernel_rfl) (by kernel_rfl) (by kernel_rfl) (by kernel_rfl) (by kernel_rfl) (by kernel_rfl) (by kernel_rfl) (by kernel_rfl) (by decide +kernel) (by decide +kernel)
   c1:=B7 (by kernel_rfl) (by kernel_rfl) (by kernel_rfl) (by kernel_rfl) (by kernel_rfl) (by kernel_rfl) (by kernel_rfl) (by kernel_rfl) (by kernel_rfl) (by decide +kernel) (by decide +kernel)
   i:=by kernel_rfl
   t:=by kernel_rfl
   ps:=by kernel_rfl
   loc:=by kernel_rfl
   b:=by kernel_rfl
   ex:=⟨_,rfl,.mk _ _ _ _ _ _ _ _ _ _ _ _ _ _ _ rfl (by decide +kernel) (by decide +kernel) (by decide +kernel) (by decide +kernel) (by decide +kernel) λ self=>by rw [refuseLoop_ref];exact PySem.F.store_Exception.passes self⟩
   ck:=λ prog a b=>by kernel_rfl
   sa:=by kernel_rfl
   tc:=by kernel_rfl
   ta:=by kernel_rfl
   keep:=by kernel_rfl
   ga:=by kernel_rfl
   gn:=by kernel_rfl
   sub:=by kernel_rfl
   dict:=by kernel_rfl
   at_:=by kernel_rfl
   ng:=by kernel_rfl
   p39:=by kernel_rfl
   c39:=λ n=>by kernel_rfl
   s39:=by kernel_rfl
   } ⟨by kernel_rfl,λ f=>by kernel_rfl,by kernel_rfl,by kernel_rfl,by kernel_rfl⟩ KX T.g T.b T.nolimit T.builtins hL hI (by omega) F.keep F.ns (by rfl) ⟨wobj,(N0 _ N2).1,right⟩ (by kernel_rfl) rfl rfl (by kernel_rfl) rfl rfl) (λ f s' q=>?_) λ _ _ f=>f.elim
  obtain ⟨rfl,m,k⟩:=q
  exact ⟨.inl ⟨_,.bool true,[],rfl,λ cls=>by first | rfl | kernel_rfl,.bool true,by first | rfl | kernel_rfl,λ _=>⟨.nil,λ a m=>nomatch m⟩⟩,k,m.1,m.2.trans hg⟩)
end Mine
theorem PySem.Challenge.cw_sa0231_01_holds : PySem.Challenge.rw_sa0231_01.Holds :=
 Mine.top
