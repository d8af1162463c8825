import PyProof.Rows.All
import Wide.All
import OpenK.AllK
import Wide.FinOn
import PySem.Challenge.RW_whosecancel_k08_rules_as_data
import HandS.Head2
import HandS.HeadEnd
import HandS.HeadHook4
import HandS.ForMost
import HandS.TupAny
import HandS.TupMul
import HandS.Deep
import HandS.OwnEq
import HandS.DeepEq
import HandS.ForDict
import HandS.TupLe
import HandS.IsInst
import HandS.ListItems
import HandS.HeadWalk
import HandS.MakeKwOnly
import HandS.Small
import HandS.DictComp
import HandS.Star
import HandS.Conv
import HandS.ExcValue
import KE.GoesEnumKw
import HandS.SetBool
import HandS.SetKeys
import HandS.Style
import HandS.StrMore
import HandS.FStr
import HandS.CallLocal
import HandS.ReplaceLit
import HandS.ReplaceDef
import HandS.Strs
import HandS.Property
import HandS.ClsMeth
set_option Elab.async false
set_option linter.all false
set_option maxRecDepth 100000
set_option maxHeartbeats 0
noncomputable section
open Array renaming getElem?_eq_none_iff→JT,mk→JV,getElem?_toList→JW,length_toList→J5,getElem?_eq_some_iff→J6
open Bool renaming and_eq_true→Ji,false_eq_true→Jp,or_eq_true→JC,not_eq_true'→JF,false_ne_true→J9,not_true→Kk,eq_false_iff→Ks,or_false→KC,and_eq_false_iff→KO,or_eq_false_iff→KR,eq_iff_iff→K0,and_eq_true_iff→LL,and_self→L1,true_or→Mi,false_or→MH,or_comm→M0,or_self→M4
open ClX renaming CRead→Mv,CMet→MO,pin_at→Ni
open Classical renaming byContradiction→Kv
open False renaming elim→JQ
open GQ renaming call_here→MV
open HT renaming sIx→Nd
open He renaming ga→Jo,eqO_ok→K4,fAd→LQ,glo_ok→L6,eqO→Mw,cls_ok→Mx,DefD→MR,SaysX→MU,frT→Ng,Dv→Nj,Fa→Nk,Tab→Nn,FnW→Np,ba→Nq
open He.Dv renaming v→Nb
open He.Fa renaming cls→L5,glo→Nr
open Int renaming natAbs_of_nonneg→LM,le_of_lt→Mm
open L2 renaming start→KH,St→KJ
open L2.Vals renaming append→MB
open List renaming getElem?_eq_some_iff→Jl,all_eq_true→Jm,length_cons→Jn,length_map→Jq,all_cons→Jt,replicate→Ju,mem_cons→Jv,getElem?_eq_getElem→Jz,mem_append_right→JB,mem_cons_of_mem→JI,getElem?_set_ne→JJ,mem_of_getElem?→JK,getElem?_map→JN,mem_cons_self→JO,set_cons_zero→JP,mem_flatMap→JR,mem_map→JS,map_cons→JU,length_append→JY,set_cons_succ→JZ,length_take→J0,mem_append_left→J2,length_range→J4,lookup_cons→J7,mem_singleton→J8,getElem?_append_left→Kc,getElem?_eq_none_iff→Kd,size_toArray→Kg,length_nil→Ki,flatMap_cons→Kj,not_mem_nil→Kl,lookup→Kp,range→Kt,mem_filter→KD,drop_zero→KG,mem_range→KI,replicate_succ→KW,of_mem_zip→KY,mem_append→KZ,getElem?_range→K5,ext_getElem?→Lb,length_filterMap_le→Lc,getElem?_take_of_lt→Le,getElem_inj→Lk,length_drop→Ll,zipIdx_cons→Ln,any_eq_true→Lo,append_nil→Lv,dropLast_eq_take→Lw,zipIdx_nil→Ly,forIn_cons→Lz,contains_iff_mem→LH,getElem?_eq_none→LI,map_append→LJ,drop_drop→LN,forIn_nil→LO,filterMap_cons→LR,eraseDups_cons→LS,findIdx?_cons→LY,getElem?_drop→LZ,filterMap_nil→L0,eraseDups_nil→L3,nodup_append→L9,find?→Ma,flatten_cons→Mb,take_add_one→Md,reverse_cons→Me,map_inj_left→Mg,take_length→Mp,head?_cons→Mu,length_set→My,map→MQ,take→MY,filter→Na
open List.Perm renaming eq_of_pairwise→MD
open Nat renaming le_of_ble_eq_true→Jk,le_trans→Js,le_refl→Jw,ne_of_lt→Jx,lt_succ_self→Jy,lt_of_lt_of_le→JL,ble→Ke,lt_succ_of_lt→Kh,ble_eq_true_of_le→Kq,beq→Kw,ne_of_gt→Kz,not_lt_zero→KA,le_add_right→KQ,zero_le→K1,le_succ→Lf,min_le_right→Lm,le_of_eq→Mj,le_max_right→Mn,div→Mr,le_max_left→Mt,lt_irrefl→ML,zero_add→MX,mod→Nl,sub→Nm,blt→Nt,succ→Nu
open Ne renaming symm→La
open Option renaming isSome_iff_exists→JE,some→Kx,none→KU,map_some→K2,map_eq_some_iff→Lr,getD_some→Mo,bind_some→Mq
open Option.some renaming inj→Lx,injEq→Mh
open Prod renaming ext→Nf,fst→Nv
open Prod.mk renaming injEq→L4
open PyProof.Rows renaming tail_any→KL,room_in_shaped→Ms,boot_zip→MZ
open PySem renaming Str→Jh,mem_of_lookup→K3
open PySem.Calls renaming loadGlobal_builtin→Ml
open PySem.Challenge renaming pw_whosecancel_k08_rules_as_data→Kb,rw_whosecancel_k08_rules_as_data→K9
open PySem.F renaming called_set→Jr,plainAttrs_list→JH,plainAttrs_str→Ko,slot_dict_getitem→Ku,slot_dict_update→Ld,entry_type_call→Lg,slot_dict_clear→Li,plainAttrs_dict→Lj,typeCall_set_1→Lp,entry_set_init→Lq,slot_tuple_eq→Ls,slot_tuple_ne→Lu,slot_list_pop→LD,type_list_pop→LF,slot_dict_ne→LK
open PySem.SB renaming mul→Nw
open PySem.W renaming Frag→Jj,findIn→JA,notFirst→JD,methodObj→JG,ksEnv→JM,nsIn→JX,kitOne→J3,mroIn→Ka,callWith_KW0→Kf,keepIn→Km,InstAt→Kn,subIn→Kr,callWith_KW→Ky,specialIn→KE,methodCall_KW→KN,KeqHitsP→KP,recIn→KS,codeRec_of→K6,fnIn→K7,ks_superIn→K8,clsIn→Lh,isFn→LA,CmpBack→LB,takesIn→LC,fnOf→LG,codeIn→LP,plainGet_of→LU,looks_mroIn→LV,looks_subIn→LW,method_call→LX,stepT→L7,rcP_dicts→Mc,ifBound_K→Mf,typeIn→Mz,CFound→MC,BT→MF,Looks→MM,cmp_K→MN,ksFn→M8,Hook→M9
open PySem.W.BT renaming beq_eq→L8
open PySem.W.OpenLaw renaming row→Nc
open True renaming intro→Nh
namespace WC
open PySem L2
inductive AV where
 | non | bl (b:Bool) | int (i:Int) | str (x:Str) | tup (xs:List AV) | ref (n:Nat) | scr | glo (x:Str) | ty (n:String)
 deriving Inhabited
inductive AO where
 | lst (xs:List AV)
 | bA (kvs:List (Key×AV))
 | ins (C:Str) (fs:List (Str×AV))
 | iY (kvs:List (Key×AV))
 deriving Inhabited
inductive Tr where
 | nil
 | node (v:Option AO) (l r:Tr)
def Tr.Fy(t:Tr)(i:Nat):Option AO:=match t with
 | .nil=>none
 | .node v l r=>if i=0 then v else if i % 2=1 then l.Fy (i / 2)else r.Fy (i / 2 - 1)
def Tr.get(t:Tr)(i:Nat):Option AO :=
 Tr.rec (motive:=fun _=>Nat→Option AO) (fun _=>none)
  (fun v _ _ gl gr i=>cond (Kw i 0) v (cond (Kw (Nl i 2) 1) (gl (Mr i 2)) (gr (Nm (Mr i 2) 1)))) t i
def Tr.val:Tr→Option AO
 | .nil=>none
 | .node v _ _=>v
def Tr.left:Tr→Tr
 | .nil=> .nil
 | .node _ l _=>l
def Tr.right:Tr→Tr
 | .nil=> .nil
 | .node _ _ r=>r
def Tr.putF(f:Nat)(t:Tr)(i:Nat)(o:AO):Tr :=
 Nat.rec (motive:=fun _=>Tr→Nat→Tr) (fun t _=>t)
  (fun _ ih t i=>Tr.casesOn (motive:=fun _=>Tr) t
   (cond (Kw i 0) (.node (some o) .nil .nil) (cond (Kw (Nl i 2) 1) (.node none (ih .nil (Mr i 2)) .nil) (.node none .nil (ih .nil (Nm (Mr i 2) 1)))))
   (fun v l r=>cond (Kw i 0) (.node (some o) l r) (cond (Kw (Nl i 2) 1) (.node v (ih l (Mr i 2)) r) (.node v l (ih r (Nm (Mr i 2) 1)))))) f t i
def Tr.put(t:Tr)(i:Nat)(o:AO):Tr:=t.putF (Nu i) i o
theorem Tr.jZ(v:Option AO)(l r:Tr):(Tr.node v l r).val=v:=rfl
theorem Tr.iP(v:Option AO)(l r:Tr):(Tr.node v l r).left=l:=rfl
theorem Tr.gW(v:Option AO)(l r:Tr):(Tr.node v l r).right=r:=rfl
theorem beq_eq(a b:Nat):Kw a b=decide (a=b):=L8 a b
theorem dZ{α:Type}(i j:Nat)(a b:α):cond (Kw i j) a b=if i=j then a else b:=by
 rw[beq_eq];by_cases h:i=j<;>simp [h]
theorem Tr.get_eq(t:Tr)(i:Nat):t.get i=if i=0 then t.val else if i % 2=1 then t.left.get (i / 2)else t.right.get (i / 2 - 1):=by
 cases t with
 | nil=>
  show none=_;by_cases h:i=0<;>by_cases q:i % 2=1<;>simp [h,q,val,left,right]<;>rfl
 | node v l r=>
  show cond (Kw i 0) v (cond (Kw (i % 2) 1) (l.get (i / 2)) (r.get (i / 2 - 1)))=_;rw[dZ,dZ];rfl
theorem Tr.zA(f:Nat)(t:Tr)(i:Nat)(o:AO):t.putF (f+1) i o=if i=0 then .node (some o) t.left t.right else if i % 2=1 then .node t.val (t.left.putF f (i / 2) o) t.right else .node t.val t.left (t.right.putF f (i / 2 - 1) o):=by
 cases t with
 | nil=>
  show cond (Kw i 0) (Tr.node (some o) .nil .nil) (cond (Kw (i % 2) 1) (Tr.node none (Tr.nil.putF f (i / 2) o) .nil) (Tr.node none .nil (Tr.nil.putF f (i / 2 - 1) o)))=_;rw[dZ,dZ];rfl
 | node v l r=>
  show cond (Kw i 0) (Tr.node (some o) l r) (cond (Kw (i % 2) 1) (Tr.node v (l.putF f (i / 2) o) r) (Tr.node v l (r.putF f (i / 2 - 1) o)))=_;rw[dZ,dZ];rfl
theorem Tr.kJ:∀(f:Nat) (t:Tr) (i j:Nat) (o:AO),i<f→(t.putF f i o).get j=if j=i then some o else t.get j
 | 0,_,_,_,_,h=>absurd h (KA _)
 | f+1,t,i,j,o,h=>by
  rw[zA,get_eq,get_eq t j];by_cases hi:i=0
  ·subst hi;rw[if_pos rfl];by_cases hj:j=0<;>simp [hj,jZ,iP,gW]
  ·rw[if_neg hi];by_cases q:i % 2=1
   ·rw[if_pos q];have ih:=kJ f t.left (i / 2) (j / 2) o (by omega)
    by_cases hj:j=0
    ·subst hj;have:¬ (0=i):=fun e=>hi e.symm
     simp [jZ,this]
    ·by_cases p:j % 2=1
     ·simp only[hj,p,if_false,if_true,iP];rw[ih];by_cases e:j=i
      ·simp [e]
      ·have:¬ j / 2=i / 2:=by omega
       simp [e,this]
     ·have:¬ j=i:=fun e=>p (e ▸ q)
      simp [hj,p,this,gW]
   ·rw[if_neg q];have ih:=kJ f t.right (i / 2 - 1) (j / 2 - 1) o (by omega)
    by_cases hj:j=0
    ·subst hj;have:¬ (0=i):=fun e=>hi e.symm
     simp [jZ,this]
    ·by_cases p:j % 2=1
     ·have:¬ j=i:=fun e=>q (e ▸ p)
      simp [hj,p,this,iP]
     ·simp only[hj,p,if_false,gW];rw[ih];by_cases e:j=i
      ·simp [e]
      ·have:¬ j / 2 - 1=i / 2 - 1:=by omega
       simp [e,this]
theorem Tr.rE(t:Tr)(i j:Nat)(o:AO):(t.put i o).get j=if j=i then some o else t.get j:=Tr.kJ _ t i j o (Jy _)
structure AH where
 n:Nat
 t:Tr
 scr:List Int
def AH.get(h:AH)(i:Nat):Option AO:=h.t.get i
def AH.set(h:AH)(i:Nat)(o:AO):AH:=⟨h.n,h.t.put i o,h.scr⟩
def AH.push(h:AH)(o:AO):AH:=⟨h.n+1,h.t.put h.n o,h.scr⟩
theorem AH.get_set(h:AH)(i j:Nat)(o:AO):(h.set i o).get j=if j=i then some o else h.get j:=Tr.rE ..
theorem AH.cM(h:AH)(j:Nat)(o:AO):(h.push o).get j=if j=h.n then some o else h.get j:=Tr.rE ..
structure Wd where
 K:Jj
 a0:Addr
mutual
inductive Rl(W:Wd)(μ:List Addr)(H:Hp):AV→V→Prop where
 | non:Rl W μ H .non .non
 | bl {b}:Rl W μ H (.bl b) (.bl b)
 | int {i}:Rl W μ H (.int i) (.int i)
 | str {x}:Rl W μ H (.str x) (.str x)
 | tup {xs a ys}:SqT W.K H a ys→aV W μ H xs ys→Rl W μ H (.tup xs) (.ref a)
 | ref {n a}:μ[n]? = some a→Rl W μ H (.ref n) (.ref a)
 | scr:Rl W μ H .scr (.ref W.a0)
 | glo {x}:Rl W μ H (.glo x) (.ref (Jo W.K x))
 | ty {n}:Rl W μ H (.ty n) (.ty n)
inductive aV(W:Wd)(μ:List Addr)(H:Hp):List AV→List V→Prop where
 | nil:aV W μ H [] []
 | cons {x y xs ys}:Rl W μ H x y→aV W μ H xs ys→aV W μ H (x::xs) (y::ys)
end
structure Ext(W:Wd)(μ:List Addr)(H:Hp)(μ':List Addr)(H':Hp):Prop where
 pre:∀(n:Nat) (a:Addr),μ[n]? = some a→ μ'[n]? = some a
 tup:∀(a:Addr) (ys:List V),SqT W.K H a ys→SqT W.K H' a ys
 frz:∀(a:Addr) (o:Obj) (u:HO),H a=some (.frz o u)→H' a=some (.frz o u)
 xt:∀(a:Addr) (φ:Heap→Prop),H a=some (.ext φ)→H' a=some (.ext φ)
theorem Ext.refl{W μ H}:Ext W μ H μ H:=⟨fun _ _ h=>h,fun _ _ h=>h,fun _ _ _ h=>h,fun _ _ h=>h⟩
theorem Ext.trans{W μ H μ1 H1 μ2 H2}(a:Ext W μ H μ1 H1)(b:Ext W μ1 H1 μ2 H2):Ext W μ H μ2 H2 :=
 ⟨fun n x h=>b.pre n x (a.pre n x h),fun x ys h=>b.tup x ys (a.tup x ys h),fun x o u h=>b.frz x o u (a.frz x o u h),fun x f h=>b.xt x f (a.xt x f h)⟩
mutual
theorem Rl.ext{W μ H μ' H'}(e:Ext W μ H μ' H'):∀{v x},Rl W μ H v x→Rl W μ' H' v x
 | _,_,.non=> .non
 | _,_,.bl=> .bl
 | _,_,.int=> .int
 | _,_,.str=> .str
 | _,_,.tup h r=> .tup (e.tup _ _ h) (aV.ext e r)
 | _,_,.ref h=> .ref (e.pre _ _ h)
 | _,_,.scr=> .scr
 | _,_,.glo=> .glo
 | _,_,.ty=> .ty
theorem aV.ext{W μ H μ' H'}(e:Ext W μ H μ' H'):∀{v x},aV W μ H v x→aV W μ' H' v x
 | _,_,.nil=> .nil
 | _,_,.cons r t=> .cons (Rl.ext e r) (aV.ext e t)
end
mutual
theorem Rl.keep{W μ H H'}(e:∀ a ys,SqT W.K H a ys→SqT W.K H' a ys):∀{v x},Rl W μ H v x→Rl W μ H' v x
 | _,_,.non=> .non
 | _,_,.bl=> .bl
 | _,_,.int=> .int
 | _,_,.str=> .str
 | _,_,.tup h r=> .tup (e _ _ h) (aV.keep e r)
 | _,_,.ref h=> .ref h
 | _,_,.scr=> .scr
 | _,_,.glo=> .glo
 | _,_,.ty=> .ty
theorem aV.keep{W μ H H'}(e:∀ a ys,SqT W.K H a ys→SqT W.K H' a ys):∀{v x},aV W μ H v x→aV W μ H' v x
 | _,_,.nil=> .nil
 | _,_,.cons r t=> .cons (Rl.keep e r) (aV.keep e t)
end
section
variable {W:Wd}{μ:List Addr}{H:Hp}
theorem aV.length:∀{xs ys},aV W μ H xs ys→xs.length=ys.length
 | _,_,.nil=>rfl
 | _,_,.cons _ t=>by simp [aV.length t]
theorem aV.get:∀{xs ys} {i:Nat} {x},aV W μ H xs ys→xs[i]? = some x→∃ y,ys[i]? = some y∧Rl W μ H x y
 | _,_,_,_,.nil,h=>by simp at h
 | _,_,0,_,.cons r _,h=>by simp at h; subst h; exact⟨_,rfl,r⟩
 | _,_,i+1,x,.cons _ t,h=>by
  obtain⟨y,h1,h2⟩:=aV.get (i:=i) (x:=x) t (by simpa using h)
  exact⟨y,by simpa using h1,h2⟩
theorem aV.append:∀{xs ys us vs},aV W μ H xs us→aV W μ H ys vs→aV W μ H (xs++ys) (us++vs)
 | _,_,_,_,.nil,s=>s
 | _,_,_,_,.cons r t,s=> .cons r (aV.append t s)
theorem aV.set:∀{xs ys x y} (i:Nat),aV W μ H xs ys→Rl W μ H x y→aV W μ H (xs.set i x) (ys.set i y)
 | _,_,_,_,_,.nil,_=> .nil
 | _,_,_,_,0,.cons _ t,q=> .cons q t
 | _,_,_,_,i+1,.cons r t,q=> .cons r (aV.set i t q)
theorem aV.take:∀{xs ys} (n:Nat),aV W μ H xs ys→aV W μ H (xs.take n) (ys.take n)
 | _,_,0,_=> .nil
 | _,_,_+1,.nil=> .nil
 | _,_,n+1,.cons r t=> .cons r (aV.take n t)
theorem aV.drop:∀{xs ys} (n:Nat),aV W μ H xs ys→aV W μ H (xs.drop n) (ys.drop n)
 | _,_,0,r=>r
 | _,_,_+1,.nil=> .nil
 | _,_,n+1,.cons _ t=>aV.drop n t
theorem aV.ints:∀ ns:List Int,aV W μ H (ns.map AV.int) (ns.map V.int)
 | []=> .nil
 | _::r=> .cons .int (aV.ints r)
theorem aV.strs:∀ ns:List Str,aV W μ H (ns.map AV.str) (ns.map V.str)
 | []=> .nil
 | _::r=> .cons .str (aV.strs r)
end
inductive bj(W:Wd)(μ:List Addr)(H:Hp){κ:Type}:List (κ × AV)→List (κ × V)→Prop where
 | nil:bj W μ H [] []
 | cons {k x y xs ys}:Rl W μ H x y→bj W μ H xs ys→bj W μ H ((k,x)::xs) ((k,y)::ys)
theorem bj.ext{W μ H μ' H'}{κ:Type}(e:Ext W μ H μ' H'):∀{v x},bj (κ:=κ) W μ H v x→bj W μ' H' v x
 | _,_,.nil=> .nil
 | _,_,.cons r t=> .cons (r.ext e) (bj.ext e t)
theorem bj.keep{W μ H H'}{κ:Type}(e:∀ a ys,SqT W.K H a ys→SqT W.K H' a ys):∀{v x},bj (κ:=κ) W μ H v x→bj W μ H' v x
 | _,_,.nil=> .nil
 | _,_,.cons r t=> .cons (r.keep e) (bj.keep e t)
def OR(W:Wd)(μ:List Addr)(H:Hp):AO→Addr→Prop
 | .lst xs,a=>∃ ys,H a=some (.lst ys)∧aV W μ H xs ys
 | .bA kvs,a=>∃ kv',H a=some (.dK kv')∧bj W μ H kvs kv'
 | .ins C fs,a=>∃ dx fs',H a=some (.ins (Jo W.K C) dx fs')∧bj W μ H fs fs'
 | .iY kvs,a=>∃ o kv',H a=some (.frz o (.dK kv'))∧bj W μ H kvs kv'
theorem OR.xM{W μ H ao a}(h:OR W μ H ao a):∃ o,H a=some o∧(∀ xs,o≠ .tup xs)∧(∀ ob xs,o≠ .frz ob (.tup xs)):=by
 cases ao with
 | lst xs=>obtain⟨ys,e,_⟩:=h; exact⟨_,e,fun _ z=>(nomatch z),fun _ _ z=>(nomatch z)⟩
 | bA xs=>obtain⟨ys,e,_⟩:=h; exact⟨_,e,fun _ z=>(nomatch z),fun _ _ z=>(nomatch z)⟩
 | ins C xs=>obtain⟨dx,ys,e,_⟩:=h; exact⟨_,e,fun _ z=>(nomatch z),fun _ _ z=>(nomatch z)⟩
 | iY xs=>obtain⟨o,ys,e,_⟩:=h; exact⟨_,e,fun _ z=>(nomatch z),fun _ _ z=>(nomatch z)⟩
theorem OR.mut{W μ H ao a}(h:OR W μ H ao a)(hm:∀ kvs,ao≠ .iY kvs:=by intro _ z; cases z):∃ o,H a=some o∧(∀ xs,o≠ .tup xs)∧(∀ ob u,o≠ .frz ob u)∧(∀ f,o≠ .ext f):=by
 cases ao with
 | lst xs=>obtain⟨ys,e,_⟩:=h; exact⟨_,e,fun _ z=>(nomatch z),fun _ _ z=>(nomatch z),fun _ z=>(nomatch z)⟩
 | bA xs=>obtain⟨ys,e,_⟩:=h; exact⟨_,e,fun _ z=>(nomatch z),fun _ _ z=>(nomatch z),fun _ z=>(nomatch z)⟩
 | ins C xs=>obtain⟨dx,ys,e,_⟩:=h; exact⟨_,e,fun _ z=>(nomatch z),fun _ _ z=>(nomatch z),fun _ z=>(nomatch z)⟩
 | iY xs=>exact absurd rfl (hm xs)
def A9(W:Wd)(H:Hp)(ns:List Int):Prop :=
 (∃ o,H W.a0=some (.frz o (.lst (ns.map V.int))))∨
  ∃(o:Obj) (its:Array Value) (n:Nat),W.K.lookup W.a0=some o∧o.cls = .type "list" ∧ o.dict=none∧o.data = .seq its n∧its.size≤sizeLine∧Vals (ns.map V.int) its.toList
theorem A9.sq{W H ns}(h:A9 W H ns):SqL W.K H W.a0 (ns.map V.int):=h.elim (fun⟨o,e⟩=> .inl (.inr ⟨o,e⟩)) .inr
structure HR(W:Wd)(μ:List Addr)(ah:AH)(H:Hp):Prop where
 sz:ah.n = μ.length
 full:∀ n,n<ah.n→∃ ao,ah.get n=some ao
 nd:μ.Nodup
 obj:∀ n ao,ah.get n=some ao→∃ a,μ[n]? = some a∧OR W μ H ao a
 scr:A9 W H ah.scr
section
variable {W:Wd}{μ:List Addr}{H:Hp}{ah:AH}
theorem OR.xl{ao a p o}(h:OR W μ H ao a)(hp:H p=none):upd H p o a=H a:=by
 obtain⟨ob,e,_⟩:=h.xM;exact upd_ne (ne_of_none e hp)
theorem SqT.upd{a p:Addr}{o:HO}{ys:List V}(h:SqT W.K H a ys)(hp:∀ u,H p=some u→(∀ xs,u≠ .tup xs)∧(∀ ob v,u≠ .frz ob v)):SqT W.K (upd H p o) a ys:=by
 rcases h with h | h
 ·left;have ne:a≠p:=by
   rintro rfl;rcases h with h | ⟨ob,h⟩
   ·exact(hp _ h).1 _ rfl
   ·exact(hp _ h).2 _ _ rfl
  unfold Rd;rw[upd_ne ne];exact h
 ·exact .inr h
theorem A9.upd{p:Addr}{o:HO}{ns:List Int}(h:A9 W H ns)(hp:∀ u,H p=some u→(∀ ob v,u≠ .frz ob v)):A9 W (upd H p o) ns:=by
 rcases h with ⟨ob,h⟩ | h
 ·left;refine⟨ob, ?_⟩;rw[upd_ne]
  ·exact h
  ·rintro rfl;exact hp _ h _ _ rfl
 ·exact .inr h
theorem Ext.cb{p:Addr}{o:HO}(hp:H p=none):Ext W μ H (μ ++ [p]) (upd H p o) :=
 ⟨fun n a h=>by rw[Kc (Jl.mp h).1]; exact h,fun a ys h=>SqT.upd h fun u e=>(by rw[hp]at e; cases e),fun a o u h=>by rw[upd_ne (ne_of_none h hp)]; exact h,fun a f h=>by rw[upd_ne (ne_of_none h hp)]; exact h⟩
theorem Ext.fW{p:Addr}{o:HO}(hp:H p=none):Ext W μ H μ (upd H p o) :=
 ⟨fun n a h=>h,fun a ys h=>SqT.upd h fun u e=>(by rw[hp]at e; cases e),fun a o u h=>by rw[upd_ne (ne_of_none h hp)]; exact h,fun a f h=>by rw[upd_ne (ne_of_none h hp)]; exact h⟩
theorem Ext.ee{a:Addr}{o:HO}{ao:AO}(h:OR W μ H ao a)(hm:∀ kvs,ao≠ .iY kvs:=by intro _ z; cases z):Ext W μ H μ (upd H a o):=by
 obtain⟨ob,e,h1,h2,h3⟩:=h.mut hm;exact⟨fun n a h=>h,fun b ys hb=>SqT.upd hb fun u eu=>(by rw[e]at eu; cases eu; exact⟨h1,h2⟩),fun b o' u hb=>by
  rw[upd_ne]
  ·exact hb
  ·rintro rfl;rw[e]at hb; cases hb;exact h2 _ _ rfl,fun b f hb=>by
  rw[upd_ne]
  ·exact hb
  ·rintro rfl;rw[e]at hb; cases hb;exact h3 _ rfl⟩
theorem OR.keep{μ' H'}{ao:AO}{a:Addr}(h:OR W μ H ao a)(e:Ext W μ H μ' H')(ha:H' a=H a):OR W μ' H' ao a:=by
 cases ao with
 | lst xs=>obtain⟨ys,e1,r⟩:=h; exact⟨ys,ha.trans e1,r.ext e⟩
 | bA xs=>obtain⟨ys,e1,r⟩:=h; exact⟨ys,ha.trans e1,r.ext e⟩
 | ins C xs=>obtain⟨dx,ys,e1,r⟩:=h; exact⟨dx,ys,ha.trans e1,r.ext e⟩
 | iY xs=>obtain⟨o,ys,e1,r⟩:=h; exact⟨o,ys,ha.trans e1,r.ext e⟩
theorem HR.addr(R:HR W μ ah H){n:Nat}{a:Addr}(h:μ[n]? = some a):∃ ao,ah.get n=some ao∧OR W μ H ao a:=by
 have hl:=(Jl.mp h).1;obtain⟨ao,e⟩:=R.full n (R.sz ▸ hl);obtain⟨b,hb,o⟩:=R.obj n ao e;rw[h]at hb; cases hb;exact⟨ao,e,o⟩
theorem HR.Ba(R:HR W μ ah H){p:Addr}(hp:H p=none):p∉ μ:=fun hm=>by
 obtain⟨n,hn⟩:=List.getElem?_of_mem hm;obtain⟨ao,_,o⟩:=R.addr hn;obtain⟨ob,e,_⟩:=o.xM;rw[hp]at e; cases e
theorem HR.tup(R:HR W μ ah H){p:Addr}{o:HO}(hp:H p=none):HR W μ ah (upd H p o) :=
 ⟨R.sz,R.full,R.nd,fun n ao e=>let ⟨a,h1,h2⟩:=R.obj n ao e; ⟨a,h1,h2.keep (Ext.fW hp) (h2.xl hp)⟩,R.scr.upd fun u e=>by rw[hp]at e; cases e⟩
theorem HR.push(R:HR W μ ah H){p:Addr}{o:HO}{ao:AO}(hp:H p=none)(ho:OR W (μ ++ [p]) (upd H p o) ao p):HR W (μ ++ [p]) (ah.push ao) (upd H p o):=by
 refine⟨by simp [AH.push,R.sz],fun n hn=> ?_, ?_,fun n ao' e=> ?_,R.scr.upd fun u e=>by rw[hp]at e; cases e⟩
 ·rw[AH.cM];by_cases h:n=ah.n
  ·exact⟨ao,by simp [h]⟩
  ·rw[if_neg h];exact R.full n (by have:n<ah.n+1:=hn; omega)
 ·refine L9.mpr ⟨R.nd,by simp,fun a ha b hb=> ?_⟩
  rw[J8]at hb;subst hb;exact fun z=>R.Ba hp (z ▸ ha)
 ·rw[AH.cM]at e;by_cases h:n=ah.n
  ·rw[if_pos h]at e; cases e;refine⟨p, ?_,ho⟩;rw[h,R.sz]; simp
  ·rw[if_neg h]at e;obtain⟨a,h1,h2⟩:=R.obj n ao' e;exact⟨a,(Ext.cb (W:=W) (o:=o) hp).pre n a h1,h2.keep (Ext.cb hp) (h2.xl hp)⟩
theorem HR.set(R:HR W μ ah H){n:Nat}{a:Addr}{o:HO}{ao0 ao:AO}(h0:ah.get n=some ao0)(ha:μ[n]? = some a)(ho:OR W μ (upd H a o) ao a)(hm:∀ kvs,ao0≠ .iY kvs:=by intro _ z; cases z):HR W μ (ah.set n ao) (upd H a o):=by
 obtain⟨b,hb,o0⟩:=R.obj n ao0 h0;rw[ha]at hb; cases hb;refine⟨R.sz,fun m hm=> ?_,R.nd,fun m ao' e=> ?_,R.scr.upd fun u e=> ?_⟩
 ·rw[AH.get_set];by_cases h:m=n
  ·exact⟨ao,by simp [h]⟩
  ·rw[if_neg h]; exact R.full m hm
 ·rw[AH.get_set]at e;by_cases h:m=n
  ·rw[if_pos h]at e; cases e;exact⟨a,h ▸ ha,ho⟩
  ·rw[if_neg h]at e;obtain⟨c,h1,h2⟩:=R.obj m ao' e;refine⟨c,h1,h2.keep (Ext.ee o0 hm) (upd_ne fun z=>h ?_)⟩
   subst z;have l1:=(Jl.mp h1);have l2:=(Jl.mp ha);exact(Lk R.nd).mp (l1.2.trans l2.2.symm)
 ·obtain⟨ob,e1,_,h2,_⟩:=o0.mut hm;rw[e1]at e; cases e;exact h2
theorem HR.lock(R:HR W μ ah H){n:Nat}{a:Addr}{kvs kv' ob}(h0:ah.get n=some (.bA kvs))(ha:μ[n]? = some a)(hH:H a=some (.dK kv'))(r:bj W μ H kvs kv') :
  Ext W μ H μ (upd H a (.frz ob (.dK kv')))∧HR W μ (ah.set n (.iY kvs)) (upd H a (.frz ob (.dK kv'))):=by
 have o0:OR W μ H (.bA kvs) a:=⟨kv',hH,r⟩;have e:Ext W μ H μ (upd H a (.frz ob (.dK kv'))):=Ext.ee o0;exact⟨e,R.set (ao:=.iY kvs) h0 ha ⟨ob,kv',upd_same,r.ext e⟩⟩
theorem HR.unlock(R:HR W μ ah H){n:Nat}{a:Addr}{kvs kv' ob}(h0:ah.get n=some (.iY kvs))(ha:μ[n]? = some a)(hH:H a=some (.frz ob (.dK kv')))(hs:W.a0≠a∨∀ o xs,H W.a0≠some (.frz o (.lst xs))) :
  HR W μ (ah.set n (.bA kvs)) (upd H a (.dK kv')):=by
 obtain⟨b,hb,o0⟩:=R.obj n _ h0;rw[ha]at hb; cases hb;obtain⟨ob',kv2,e2,r2⟩:=o0;rw[hH]at e2;have e3:kv'=kv2:=by cases e2; rfl
 subst e3;have keepT:∀ c ys,SqT W.K H c ys→SqT W.K (upd H a (.dK kv')) c ys:=fun c ys h=>by
  rcases h with h | h
  ·left;have ne:c≠a:=by
    rintro rfl;rcases h with h | ⟨ob,h⟩
    ·rw[hH]at h; cases h
    ·rw[hH]at h; cases h
   unfold Rd;rw[upd_ne ne];exact h
  ·exact .inr h
 have rl:∀{v x},Rl W μ H v x→Rl W μ (upd H a (.dK kv')) v x:=fun r=>by
  exact Rl.keep keepT r
 refine⟨R.sz,fun m hm=> ?_,R.nd,fun m ao' e=> ?_, ?_⟩
 ·rw[AH.get_set];by_cases h:m=n
  ·exact⟨_,by rw[if_pos h]⟩
  ·rw[if_neg h]; exact R.full m hm
 ·rw[AH.get_set]at e;by_cases h:m=n
  ·rw[if_pos h]at e; cases e;exact⟨a,h ▸ ha,kv',upd_same,bj.keep keepT r2⟩
  ·rw[if_neg h]at e;obtain⟨c,h1,h2⟩:=R.obj m ao' e;have ne:c≠a:=fun z=>h (by
    subst z;have l1:=(Jl.mp h1);have l2:=(Jl.mp ha);exact(Lk R.nd).mp (l1.2.trans l2.2.symm))
   refine⟨c,h1, ?_⟩;cases ao' with
   | lst xs=>obtain⟨ys,e1,r⟩:=h2; exact⟨ys,(upd_ne ne).trans e1,aV.keep keepT r⟩
   | bA xs=>obtain⟨ys,e1,r⟩:=h2; exact⟨ys,(upd_ne ne).trans e1,bj.keep keepT r⟩
   | ins C xs=>obtain⟨dx,ys,e1,r⟩:=h2; exact⟨dx,ys,(upd_ne ne).trans e1,bj.keep keepT r⟩
   | iY xs=>obtain⟨o,ys,e1,r⟩:=h2; exact⟨o,ys,(upd_ne ne).trans e1,bj.keep keepT r⟩
 ·rcases R.scr with ⟨o,h⟩ | h
  ·left;refine⟨o, ?_⟩;rw[upd_ne]
   ·exact h
   ·rcases hs with hs | hs
    ·exact hs
    ·exact absurd h (hs _ _)
  ·exact .inr h
end
inductive SR(W:Wd)(μ:List Addr)(H:Hp):List (Option AV)→St→Prop where
 | nil:SR W μ H [] []
 | some {v x s σ}:Rl W μ H v x→SR W μ H s σ → SR W μ H (some v::s) (some x:: σ)
 | none {s o σ}:SR W μ H s σ → SR W μ H (none::s) (o:: σ)
section
variable {W:Wd}{μ:List Addr}{H:Hp}
theorem SR.ext{μ' H'}(e:Ext W μ H μ' H'):∀{s σ},SR W μ H s σ → SR W μ' H' s σ
 | _,_,.nil=> .nil
 | _,_,.some r t=> .some (r.ext e) (SR.ext e t)
 | _,_,.none t=> .none (SR.ext e t)
theorem SR.get:∀{s σ} {i:Nat} {v},SR W μ H s σ → s[i]? = Kx (Kx v)→∃ x,σ[i]? = Kx (Kx x)∧Rl W μ H v x
 | _,_,_,_,.nil,h=>by simp at h
 | _,_,0,_,.some r _,h=>by simp at h; subst h; exact⟨_,rfl,r⟩
 | _,_,0,_,.none _,h=>by simp at h
 | _,_,i+1,v,.some _ t,h=>by
  obtain⟨y,h1,h2⟩:=SR.get (i:=i) (v:=v) t (by simpa using h)
  exact⟨y,by simpa using h1,h2⟩
 | _,_,i+1,v,.none t,h=>by
  obtain⟨y,h1,h2⟩:=SR.get (i:=i) (v:=v) t (by simpa using h)
  exact⟨y,by simpa using h1,h2⟩
theorem SR.set:∀{s σ v x} (i:Nat),SR W μ H s σ → Rl W μ H v x→SR W μ H (s.set i (Kx v)) (σ.set i (Kx x))
 | _,_,_,_,_,.nil,_=> .nil
 | _,_,_,_,0,.some _ t,q=> .some q t
 | _,_,_,_,0,.none t,q=> .some q t
 | _,_,_,_,i+1,.some r t,q=> .some r (SR.set i t q)
 | _,_,_,_,i+1,.none t,q=> .none (SR.set i t q)
theorem SR.unset:∀{s σ o} (i:Nat),SR W μ H s σ → SR W μ H (s.set i KU) (σ.set i o)
 | _,_,_,_,.nil=> .nil
 | _,_,_,0,.some _ t=> .none t
 | _,_,_,0,.none t=> .none t
 | _,_,_,i+1,.some r t=> .some r (SR.unset i t)
 | _,_,_,i+1,.none t=> .none (SR.unset i t)
theorem SR.start:∀{vs xs} (n:Nat),aV W μ H vs xs→SR W μ H (vs.map Kx++Ju n KU) (xs.map Kx++Ju n KU)
 | _,_,n,.nil=>by
  induction n with
  | zero=>exact .nil
  | succ n ih=>exact .none ih
 | _,_,n,.cons r t=> .some r (SR.start n t)
end
inductive Ex(α:Type) where
 | ok (a:α) (h:AH)
 | stuck
def Ex.bind{α β:Type}(r:Ex α)(k:α → AH→Ex β):Ex β:=match r with
 | .ok a h=>k a h
 | .stuck=> .stuck
abbrev az:=List (Option AV)
abbrev AE:=az→AH→Ex AV
abbrev AT:=az→AH→Ex Bool
abbrev AL:=az→AH→Ex (List AV)
inductive Fl where
 | nx (s:az) | bk (s:az) | ct (s:az) | rt (v:AV)
abbrev AS:=az→AH→Ex Fl
def ag{α β:Type}(W:Wd)(rel:List Addr→Hp→ α → β → Prop)(μ:List Addr)(H:Hp)(r:Ex α)(Q:β → Hp→Prop):Prop:=match r with
 | .stuck=>False
 | .ok a h=>∀ μ' H' b,Ext W μ H μ' H'→HR W μ' h H'→rel μ' H' a b→Q b H'
abbrev bh(W:Wd):=ag W (Rl W)
abbrev Ej(W:Wd):=ag W (aV W)
def jq(_:List Addr)(_:Hp)(a b:Bool):Prop:=a=b
abbrev wO(W:Wd):=ag W jq
def aQ(W:Wd)(μ:List Addr)(H:Hp)(r:Ex Fl)(D:Ends):Prop:=match r with
 | .stuck=>False
 | .ok (.nx s) h=>∀ μ' H' σ',Ext W μ H μ' H'→HR W μ' h H'→SR W μ' H' s σ'→D.nx σ' H'
 | .ok (.bk s) h=>∀ μ' H' σ',Ext W μ H μ' H'→HR W μ' h H'→SR W μ' H' s σ'→D.bk σ' H'
 | .ok (.ct s) h=>∀ μ' H' σ',Ext W μ H μ' H'→HR W μ' h H'→SR W μ' H' s σ'→D.ct σ' H'
 | .ok (.rt v) h=>∀ μ' H' x,Ext W μ H μ' H'→HR W μ' h H'→Rl W μ' H' v x→D.rt x H'
section
variable {α β γ δ:Type}{W:Wd}{μ μ1:List Addr}{H H1:Hp}{rel:List Addr→Hp→ α → β → Prop}{rel':List Addr→Hp→ γ → δ → Prop}
theorem ag.ext{r:Ex α}{Q:β → Hp→Prop}(p:ag W rel μ H r Q)(e:Ext W μ H μ1 H1):ag W rel μ1 H1 r Q:=by
 cases r with
 | stuck=>exact p
 | ok a h=>exact fun μ' H' b e' hr rl=>p μ' H' b (e.trans e') hr rl
theorem ag.mono{r:Ex α}{Q Q':β → Hp→Prop}(p:ag W rel μ H r Q)(h:∀ b H',Q b H'→Q' b H'):ag W rel μ H r Q':=by
 cases r with
 | stuck=>exact p
 | ok a h0=>exact fun μ' H' b e' hr rl=>h _ _ (p μ' H' b e' hr rl)
theorem ag.ret{a:α}{b:β}{ah:AH}{Q:β → Hp→Prop}(p:ag W rel μ H (.ok a ah) Q)(hr:HR W μ ah H)(r:rel μ H a b):Q b H:=p μ H b .refl hr r
theorem ag.bind{r:Ex α}{k:α → AH→Ex γ}{Q:δ → Hp→Prop}(p:ag W rel' μ H (r.bind k) Q) :
  ag W rel μ H r (fun b H1=>∃ μ1 a h1,Ext W μ H μ1 H1∧HR W μ1 h1 H1∧rel μ1 H1 a b∧ag W rel' μ1 H1 (k a h1) Q):=by
 cases r with
 | stuck=>exact p
 | ok a h=>exact fun μ' H' b e hr rl=>⟨μ',a,h,e,hr,rl,ag.ext (r:=k a h) p e⟩
theorem aQ.ext{r:Ex Fl}{D:Ends}(p:aQ W μ H r D)(e:Ext W μ H μ1 H1):aQ W μ1 H1 r D:=by
 cases r with
 | stuck=>exact p
 | ok f h=>cases f<;>exact fun μ' H' b e' hr rl=>p μ' H' b (e.trans e') hr rl
theorem aQ.bind{r:Ex α}{k:α → AH→Ex Fl}{D:Ends}(p:aQ W μ H (r.bind k) D) :
  ag W rel μ H r (fun b H1=>∃ μ1 a h1,Ext W μ H μ1 H1∧HR W μ1 h1 H1∧rel μ1 H1 a b∧aQ W μ1 H1 (k a h1) D):=by
 cases r with
 | stuck=>exact p
 | ok a h=>exact fun μ' H' b e hr rl=>⟨μ',a,h,e,hr,rl,aQ.ext (r:=k a h) p e⟩
end
def d8(W:Wd)(f:AE):TE:=fun σ H Q=>∃ μ s ah,SR W μ H s σ ∧ HR W μ ah H∧bh W μ H (f s ah) Q
def pN(W:Wd)(f:AT):TT:=fun σ H Q=>∃ μ s ah,SR W μ H s σ ∧ HR W μ ah H∧wO W μ H (f s ah) Q
def FU(W:Wd)(f:AL):TA:=fun σ H Q=>∃ μ s ah,SR W μ H s σ ∧ HR W μ ah H∧Ej W μ H (f s ah) Q
def y5(W:Wd)(f:AS):TS:=fun D σ H=>∃ μ s ah,SR W μ H s σ ∧ HR W μ ah H∧aQ W μ H (f s ah) D
abbrev Cx.wd(X:Cx)(a0:Addr):Wd:=⟨X.K,a0⟩
def ME(X:Cx)(a0:Addr)(e:Expr)(f:AE):Prop:=PE X e (d8 (Cx.wd X a0) f)
def MT(X:Cx)(a0:Addr)(e:Expr)(f:AT):Prop:=PT X e (pN (Cx.wd X a0) f)
def MA(X:Cx)(a0:Addr)(es:List Expr)(f:AL):Prop:=PA X es (FU (Cx.wd X a0) f)
def MS(X:Cx)(a0:Addr)(st:Stmt)(f:AS):Prop:=PS X st (y5 (Cx.wd X a0) f)
def zm(X:Cx)(a0:Addr)(st:List Stmt)(f:AS):Prop:=PSs X st (y5 (Cx.wd X a0) f)
theorem PE.imp{X:Cx}{e:Expr}{t t':TE}(h:PE X e t)(hi:∀ σ H Q,t' σ H Q→t σ H Q):PE X e t':=⟨fun pins s σ H Q I q=>h.run pins s σ H Q I (hi σ H Q q)⟩
theorem PT.imp{X:Cx}{e:Expr}{t t':TT}(h:PT X e t)(hi:∀ σ H Q,t' σ H Q→t σ H Q):PT X e t':=⟨fun pins s σ H Q I q=>h.run pins s σ H Q I (hi σ H Q q)⟩
theorem PA.imp{X:Cx}{e:List Expr}{t t':TA}(h:PA X e t)(hi:∀ σ H Q,t' σ H Q→t σ H Q):PA X e t':=⟨fun pos pins s σ H Q I q=>h.run pos pins s σ H Q I (hi σ H Q q)⟩
theorem PS.imp{X:Cx}{e:Stmt}{t t':TS}(h:PS X e t)(hi:∀ D σ H,t' D σ H→t D σ H):PS X e t':=⟨fun pins s σ H D I q=>h.run pins s σ H D I (hi D σ H q)⟩
theorem PSs.imp{X:Cx}{e:List Stmt}{t t':TS}(h:PSs X e t)(hi:∀ D σ H,t' D σ H→t D σ H):PSs X e t':=⟨fun pins s σ H D I q=>h.run pins s σ H D I (hi D σ H q)⟩
section
variable {X:Cx}{a0:Addr}{a b c e:Expr}{es:List Expr}{pos:Pos}
theorem vQ{e:Expr}:ME X a0 e (fun _ _=> .stuck):=⟨fun _ _ _ _ _ _ h=>by obtain⟨_,_,_,_,_,p⟩:=h; exact p.elim⟩
theorem xS{e:Expr}:MT X a0 e (fun _ _=> .stuck):=⟨fun _ _ _ _ _ _ h=>by obtain⟨_,_,_,_,_,p⟩:=h; exact p.elim⟩
theorem j5{e:Stmt}:MS X a0 e (fun _ _=> .stuck):=⟨fun _ _ _ _ _ _ h=>by obtain⟨_,_,_,_,_,p⟩:=h; exact p.elim⟩
theorem dX{v:AV}{x:V}(h:PE X e (tC x))(r:∀ μ H,Rl (Cx.wd X a0) μ H v x):ME X a0 e (fun _ h=> .ok v h) :=
 PE.imp h fun σ H Q ⟨μ,s,ah,_,hr,p⟩=>p.ret hr (r μ H)
theorem BU{i j}:ME X a0 (.Constant (.int i) j pos) (fun _ h=> .ok (.int i) h):=dX pe_int fun _ _=> .int
theorem DY{i j}:ME X a0 (.Constant (.bool i) j pos) (fun _ h=> .ok (.bl i) h):=dX pe_bl fun _ _=> .bl
theorem CY{j}:ME X a0 (.Constant .none j pos) (fun _ h=> .ok .non h):=dX pe_non fun _ _=> .non
theorem Cg{i j}:ME X a0 (.Constant (.str i) j pos) (fun _ h=> .ok (.str i) h):=dX pe_str fun _ _=> .str
def af(i:Nat):AE:=fun s h=>match s[i]? with
 | some (some v)=> .ok v h
 | _=> .stuck
theorem De {i:Nat} {x:Str} (hN:X.N[i]? = some x) (hv:Vis X.env.scope x) (hd:(x == ("__debug__" : Str))=false) (hcd:(x == ("__classdict__" : Str))=false):ME X a0 (.Name x pos) (af i) :=
 PE.imp (pe_var hN hv hd hcd) fun σ H Q ⟨μ,s,ah,hs,hr,p⟩=>by
  unfold af at p;split at p
  ·rename_i v e;obtain⟨x,e1,r⟩:=hs.get e;exact⟨x,e1,p.ret hr r⟩
  ·exact p.elim
abbrev dF:=AV→AV→AH→Ex AV
def bD(W:Wd)(g:dF):R2:=fun x y H Q=>∃ μ a b ah,HR W μ ah H∧Rl W μ H a x∧Rl W μ H b y∧bh W μ H (g a b ah) Q
def aq(f f':AE)(g:dF):AE:=fun s h=>(f s h).bind fun a h1=>(f' s h1).bind fun b h2=>g a b h2
theorem nQ{W:Wd}{f f':AE}{g:dF}{σ H Q}(h:d8 W (aq f f' g) σ H Q):tOp (bD W g) (d8 W f) (d8 W f') σ H Q:=by
 obtain⟨μ,s,ah,hs,hr,p⟩:=h;refine⟨μ,s,ah,hs,hr,(ag.bind p).mono fun x H1 ⟨μ1,a,h1,e1,hr1,rl1,p1⟩=> ?_⟩
 refine⟨μ1,s,h1,hs.ext e1,hr1,(ag.bind p1).mono fun y H2 ⟨μ2,b,h2,e2,hr2,rl2,p2⟩=> ?_⟩
 exact⟨μ2,a,b,h2,hr2,rl1.ext e2,rl2,p2⟩
theorem Bv{op:Operator}{f f':AE}{g:dF}(ho:OpR X (binaryOp op) (bD (Cx.wd X a0) g))(ha:ME X a0 a f)(hb:ME X a0 b f'):ME X a0 (.BinOp a op b pos) (aq f f' g) :=
 PE.imp (pe_op ho ha hb) fun _ _ _ h=>nQ h
theorem qe{op:CmpOp}{f f':AE}{g:dF}(ho:OpR X (compareOp op) (bD (Cx.wd X a0) g))(ha:ME X a0 a f)(hb:ME X a0 b f')(hm:behindInMarks op b=false):ME X a0 (.Compare a [op] [b] pos) (aq f f' g) :=
 PE.imp (pe_cmpR ho ha hb hm) fun _ _ _ h=>nQ h
def qz(r:Ex AV):Ex Bool:=match r with
 | .ok (.bl b) h=> .ok b h
 | _=> .stuck
theorem iK{W μ H}{r:Ex AV}{Q:Bool→Hp→Prop}(p:wO W μ H (qz r) Q):bh W μ H r (fun x H'=>∃ k,x = .bl k∧Q k H'):=by
 cases r with
 | stuck=>exact p
 | ok v h=>
  cases v with
  | bl b=>exact fun μ' H' x e hr rl=>by cases rl; exact⟨b,rfl,p μ' H' b e hr rfl⟩
  | _=>exact p.elim
theorem qW{op:CmpOp}{f f':AE}{g:dF}(ho:OpR X (compareOp op) (bD (Cx.wd X a0) g))(ha:ME X a0 a f)(hb:ME X a0 b f')(hm:behindInMarks op b=false):MT X a0 (.Compare a [op] [b] pos) (fun s h=>qz (aq f f' g s h)) :=
 PT.imp (pt_cmpR ho ha hb hm) fun σ H Q ⟨μ,s,ah,hs,hr,p⟩=>nQ ⟨μ,s,ah,hs,hr,iK p⟩
def kS(f1 f2 f3:AE)(g g':dF):AE:=fun s h=>(f1 s h).bind fun a h1=>(f2 s h1).bind fun b h2=>(qz (g a b h2)).bind fun k h3=>if k=true then(f3 s h3).bind fun c h4=>g' b c h4 else .ok (.bl false) h3
theorem lU{W:Wd}{f1 f2 f3:AE}{g g':dF}{σ H Q}(h:d8 W (kS f1 f2 f3 g g') σ H Q):tChain (bD W g) (bD W g') (d8 W f1) (d8 W f2) (d8 W f3) σ H Q:=by
 obtain⟨μ,s,ah,hs,hr,p⟩:=h;refine⟨μ,s,ah,hs,hr,(ag.bind p).mono fun x H1 ⟨μ1,a,h1,e1,hr1,rl1,p1⟩=> ?_⟩
 refine⟨μ1,s,h1,hs.ext e1,hr1,(ag.bind p1).mono fun y H2 ⟨μ2,b,h2,e2,hr2,rl2,p2⟩=> ?_⟩
 refine⟨μ2,a,b,h2,hr2,rl1.ext e2,rl2,(iK (ag.bind (rel:=jq) p2)).mono fun z H3 ⟨k,hz,μ3,k',h3,e3,hr3,ek,p3⟩=> ?_⟩
 refine⟨k,hz, ?_⟩;have ek':k'=k:=ek;subst ek';cases k' with
 | true=>
  rw[if_pos rfl]at p3 ⊢;refine⟨μ3,s,h3,(hs.ext e1).ext (e2.trans e3),hr3,(ag.bind p3).mono fun z' H4 ⟨μ4,c,h4,e4,hr4,rl4,p4⟩=> ?_⟩
  exact⟨μ4,b,c,h4,hr4,(rl2.ext e3).ext e4,rl4,p4⟩
 | false=>
  rw[if_neg J9]at p3 ⊢;exact p3.ret hr3 .bl
theorem wm{op op':CmpOp}{f1 f2 f3:AE}{g g':dF}(ho:OpR X (compareOp op) (bD (Cx.wd X a0) g))(ho':OpR X (compareOp op') (bD (Cx.wd X a0) g'))(ha:ME X a0 a f1)(hb:ME X a0 b f2)(hc:ME X a0 c f3)
  (hm:lastMarks [op,op'] [b,c]=false):ME X a0 (.Compare a [op,op'] [b,c] pos) (kS f1 f2 f3 g g') :=
 PE.imp (pe_chain ho ho' ha hb hc hm) fun _ _ _ h=>lU h
theorem xx{op op':CmpOp}{f1 f2 f3:AE}{g g':dF}(ho:OpR X (compareOp op) (bD (Cx.wd X a0) g))(ho':OpR X (compareOp op') (bD (Cx.wd X a0) g'))(ha:ME X a0 a f1)(hb:ME X a0 b f2)(hc:ME X a0 c f3)
  (hm:lastMarks [op,op'] [b,c]=false):MT X a0 (.Compare a [op,op'] [b,c] pos) (fun s h=>qz (kS f1 f2 f3 g g' s h)) :=
 PT.imp (pt_chain ho ho' ha hb hc hm) fun σ H Q ⟨μ,s,ah,hs,hr,p⟩=>lU ⟨μ,s,ah,hs,hr,iK p⟩
theorem uF:MA X a0 [] (fun _ h=> .ok [] h):=PA.imp pa_nil fun σ H Q ⟨μ,s,ah,_,hr,p⟩=>p.ret hr .nil
def ae(f:AE)(g:AL):AL:=fun s h=>(f s h).bind fun a h1=>(g s h1).bind fun as h2=> .ok (a::as) h2
theorem sC{f:AE}{g:AL}(ha:ME X a0 e f)(hr:MA X a0 es g)(hs:starEach (e::es) X.env=(false,eval e X.env)::starEach es X.env):MA X a0 (e::es) (ae f g) :=
 PA.imp (pa_cons ha hr hs) fun σ H Q ⟨μ,s,ah,hs,hr,p⟩=>by
  refine⟨μ,s,ah,hs,hr,(ag.bind p).mono fun x H1 ⟨μ1,a,h1,e1,hr1,rl1,p1⟩=> ?_⟩
  refine⟨μ1,s,h1,hs.ext e1,hr1,(ag.bind p1).mono fun y H2 ⟨μ2,b,h2,e2,hr2,rl2,p2⟩=> ?_⟩
  exact p2.ret hr2 (.cons (rl1.ext e2) rl2)
def gn(xs:List AV)(h:AH):Ex AV:=if xs.length≤sizeLine then .ok (.tup xs) h else .stuck
def df(xs:List AV)(h:AH):Ex AV:=if xs.length≤sizeLine then .ok (.ref h.n) (h.push (.lst xs))else .stuck
theorem tU{W μ H}{as:List AV}{xs:List V}{ah:AH}{Q:VK}{p:Addr}(hr:HR W μ ah H)(r:aV W μ H as xs)(q:bh W μ H (gn as ah) Q)(hp:H p=none):xs.length≤sizeLine∧Q (.ref p) (upd H p (.tup xs)):=by
 unfold gn at q;split at q
 ·rename_i hl;have e:Ext W μ H μ (upd H p (.tup xs)):=Ext.fW hp;exact⟨r.length ▸ hl,q μ _ _ e (hr.tup hp) (.tup (.of upd_same) (r.ext e))⟩
 ·exact q.elim
theorem tm{W μ H}{as:List AV}{xs:List V}{ah:AH}{Q:VK}{p:Addr}(hr:HR W μ ah H)(r:aV W μ H as xs)(q:bh W μ H (df as ah) Q)(hp:H p=none):xs.length≤sizeLine∧Q (.ref p) (upd H p (.lst xs)):=by
 unfold df at q;split at q
 ·rename_i hl;have e:Ext W μ H (μ ++ [p]) (upd H p (.lst xs)):=Ext.cb hp;refine⟨r.length ▸ hl,q (μ ++ [p]) _ _ e (hr.push hp ⟨xs,upd_same,r.ext e⟩) (.ref ?_)⟩;rw[hr.sz]; simp
 ·exact q.elim
theorem sx{W μ H}{as:List AV}{xs:List V}(r:aV W μ H as xs){α:Type}{x:Ex α}{β}{rel:List Addr→Hp→ α → β → Prop}{Q}(q:ag W rel μ H (if as.length≤sizeLine then x else .stuck) Q):xs.length≤sizeLine:=by
 split at q
 ·rename_i hl; exact r.length ▸ hl
 ·exact q.elim
theorem Cq{k}{g:AL}(h:MA X a0 es g):ME X a0 (.Tuple es k pos) (fun s h=>(g s h).bind gn) :=
 PE.imp (pe_tup h) fun σ H Q ⟨μ,s,ah,hs,hr,p⟩=>⟨μ,s,ah,hs,hr,(ag.bind p).mono fun xs H1 ⟨μ1,as,h1,e1,hr1,r1,p1⟩=>
  ⟨sx r1 (x:=Ex.ok (AV.tup as) h1) (Q:=Q) p1,fun p hp=>(tU hr1 r1 p1 hp).2⟩⟩
theorem BD{g:AL}(h:MA X a0 es g):ME X a0 (.List es pos) (fun s h=>(g s h).bind df) :=
 PE.imp (pe_lst h) fun σ H Q ⟨μ,s,ah,hs,hr,p⟩=>⟨μ,s,ah,hs,hr,(ag.bind p).mono fun xs H1 ⟨μ1,as,h1,e1,hr1,r1,p1⟩=>
  ⟨sx r1 (x:=Ex.ok (AV.ref h1.n) (h1.push (AO.lst as))) (Q:=Q) p1,fun p hp=>(tm hr1 r1 p1 hp).2⟩⟩
end
end WC
namespace GQ
open PySem PySem.SeqAt
open AutoSeq1 (wpAny_loadPart')
open MeetsSeq MeetsSeq2 MeetsSeq3 SeqRoads2
section
variable {prog:Program}{w:World}{A:Around}{R:Result→Shared→Prop}
theorem tH(l b:Addr)(x y:Value)(r r2:List Value)(n n2:Nat)(dd dd2:Option Addr)(sl sl2:Array (Option Value)){s:Shared}
  (turn:∀(E:Value→Shared→Prop) (Q:Bool→Shared→Prop),Q false s→wpAny (model prog w) A.in1 (eqBool x y) Q E s)
  (fin:R (.ok (.ret (.bool false))) s) (hl1:s.heap.get? l=some { cls:=.type "tuple",dict:=dd,data:=.seq (x::r).toArray n,slots:=sl }) (hb1:s.heap.get? b=some { cls:=.type "tuple",dict:=dd2,data:=.seq (y::r2).toArray n2,slots:=sl2 }) :
  wpAny (model prog w) A.in1 (Builtin.«tuple.__eq__» ⟨[.ref l,.ref b],[]⟩) (FinOf prog w A R) (fun e s'=>R (.error e) s') s:=by
 have f2:=AutoSeq1.sub_tuple_tuple;obtain⟨s0,es0⟩:∃ s0,s0=s:=⟨_,rfl⟩;obtain⟨hp,g,d,tk,os⟩:=s;wp_walk using wpAny_loadPart' hl1,wpAny_loadPart' hb1,wpAny_forIn_list _ (fun rest b s'=>b.1=none∧rest=((x::r).toArray.toList.zip (y::r2).toArray.toList)∧s'=s0) _
 case turn=>
  rintro⟨y',x'⟩ rest b s' ⟨hb',hz,hs⟩;have hz:(y',x')::rest=(x,y)::(r.zip r2):=hz;injection hz with hyx _
  injection hyx with h1 h2
  subst h1 h2 hs es0;refine wpAny_bind (turn _ _ ?_)
  wp_walk
  exact fin
 case fin=>
  rintro⟨b1,b2⟩ s' ⟨hb',hz,_⟩;cases hz
 case h=>exact⟨rfl,rfl,es0.symm⟩
theorem sV(l b:Addr)(x y:Value)(r r2:List Value)(n n2:Nat)(dd dd2:Option Addr)(sl sl2:Array (Option Value)){s:Shared}
  (turn:∀(E:Value→Shared→Prop) (Q:Bool→Shared→Prop),Q false s→wpAny (model prog w) A.in1 (eqBool x y) Q E s)
  (fin:R (.ok (.ret (.bool true))) s) (hl1:s.heap.get? l=some { cls:=.type "tuple",dict:=dd,data:=.seq (x::r).toArray n,slots:=sl }) (hb1:s.heap.get? b=some { cls:=.type "tuple",dict:=dd2,data:=.seq (y::r2).toArray n2,slots:=sl2 }) :
  wpAny (model prog w) A.in1 (Builtin.«tuple.__ne__» ⟨[.ref l,.ref b],[]⟩) (FinOf prog w A R) (fun e s'=>R (.error e) s') s:=by
 have f2:=AutoSeq1.sub_tuple_tuple;obtain⟨s0,es0⟩:∃ s0,s0=s:=⟨_,rfl⟩;obtain⟨hp,g,d,tk,os⟩:=s;wp_walk using wpAny_loadPart' hl1,wpAny_loadPart' hb1,wpAny_forIn_list _ (fun rest b s'=>b.1=none∧rest=((x::r).toArray.toList.zip (y::r2).toArray.toList)∧s'=s0) _
 case turn=>
  rintro⟨y',x'⟩ rest b s' ⟨hb',hz,hs⟩;have hz:(y',x')::rest=(x,y)::(r.zip r2):=hz;injection hz with hyx _
  injection hyx with h1 h2
  subst h1 h2 hs es0;refine wpAny_bind (turn _ _ ?_)
  wp_walk
  exact fin
 case fin=>
  rintro⟨b1,b2⟩ s' ⟨hb',hz,_⟩;cases hz
 case h=>exact⟨rfl,rfl,es0.symm⟩
end
end GQ
namespace WC
open PySem L2
section
variable {X:Cx}{a0:Addr}
theorem HR.lst{W μ ah H}(hr:HR W μ ah H){n:Nat}{xs:List AV}{x:V}(hg:ah.get n=some (.lst xs))(r:Rl W μ H (.ref n) x):∃ a ys,x = .ref a∧ μ[n]? = some a∧H a=some (.lst ys)∧aV W μ H xs ys:=by
 obtain⟨a,e,ys,h1,h2⟩:=hr.obj n _ hg;cases r with
 | ref e'=>
  rw[e]at e'; cases e';exact⟨a,ys,rfl,e,h1,h2⟩
theorem HR.bA{W μ ah H}(hr:HR W μ ah H){n:Nat}{xs:List (Key×AV)}{x:V}(hg:ah.get n=some (.bA xs))(r:Rl W μ H (.ref n) x):∃ a ys,x = .ref a∧ μ[n]? = some a∧H a=some (.dK ys)∧bj W μ H xs ys:=by
 obtain⟨a,e,ys,h1,h2⟩:=hr.obj n _ hg;cases r with
 | ref e'=>
  rw[e]at e'; cases e';exact⟨a,ys,rfl,e,h1,h2⟩
theorem HR.ins{W μ ah H}(hr:HR W μ ah H){n:Nat}{C:Str}{xs:List (Str×AV)}{x:V}(hg:ah.get n=some (.ins C xs))(r:Rl W μ H (.ref n) x):∃ a dx ys,x = .ref a∧ μ[n]? = some a∧H a=some (.ins (Jo W.K C) dx ys)∧bj W μ H xs ys:=by
 obtain⟨a,e,dx,ys,h1,h2⟩:=hr.obj n _ hg;cases r with
 | ref e'=>
  rw[e]at e'; cases e';exact⟨a,dx,ys,rfl,e,h1,h2⟩
mutual
def bJ:Nat→AH→AV→Option PyData
 | 0,_,_=>none
 | _+1,_,.non=>some .none
 | _+1,_,.bl b=>some (.bool b)
 | _+1,_,.int i=>some (.int i)
 | _+1,_,.str x=>some (.str x)
 | f+1,h,.tup xs=>match cQ f h xs with
  | some ds=>some (.tuple ds)
  | none=>none
 | f+1,h,.ref n=>match h.get n with
  | some (.lst xs)=>(match cQ f h xs with
   | some ds=>some (.list ds)
   | none=>none)
  | _=>none
 | _+1,_,_=>none
def cQ:Nat→AH→List AV→Option (List PyData)
 | 0,_,_=>none
 | _+1,_,[]=>some []
 | f+1,h,x::xs=>match bJ f h x with
  | some d=>(match cQ f h xs with
   | some ds=>some (d::ds)
   | none=>none)
  | none=>none
end
theorem b9{W μ ah H}(hr:HR W μ ah H):∀ f,(∀ v x d,Rl W μ H v x→bJ f ah v=some d→Dp W.K H x d)∧(∀ vs xs ds,aV W μ H vs xs→cQ f ah vs=some ds→DpAll W.K H xs ds)
 | 0=>⟨fun _ _ _ _ e=>by simp [bJ]at e,fun _ _ _ _ e=>by simp [cQ]at e⟩
 | f+1=>by
  obtain⟨ih,ihs⟩:=b9 hr f;constructor
  ·intro v x d r e;cases v with
   | non=>cases r; simp [bJ]at e; subst e; exact .non
   | bl b=>cases r; simp [bJ]at e; subst e; exact .bl b
   | int i=>cases r; simp [bJ]at e; subst e; exact .int i
   | str z=>cases r; simp [bJ]at e; subst e; exact .str z
   | tup xs=>
    cases r with
    | tup h r=>
     unfold bJ at e;split at e
     ·rename_i ds q;cases e;exact .tup h (ihs _ _ _ r q)
     ·cases e
   | ref n=>
    unfold bJ at e;split at e
    ·rename_i xs hg;split at e
     ·rename_i ds q;cases e;obtain⟨a,ys,rfl,_,h1,h2⟩:=hr.lst hg r;exact .lst (.of h1) (ihs _ _ _ h2 q)
     ·cases e
    ·cases e
   | scr=>simp [bJ]at e
   | glo z=>simp [bJ]at e
   | ty z=>simp [bJ]at e
  ·intro vs xs ds r e;cases r with
   | nil=>simp [cQ]at e; subst e; exact .nil
   | cons r t=>
    unfold cQ at e;split at e
    ·rename_i d q;split at e
     ·rename_i ds' q';cases e;exact .cons (ih _ _ _ r q) (ihs _ _ _ t q')
     ·cases e
    ·cases e
def iL:Nat:=5000
def lr(a b:AV)(h:AH):Option Bool:=match bJ iL h a with
 | some d=>(match bJ iL h b with
  | some e=>if SeqAt.shaped d=true then(if SeqAt.shaped e=true then some (PyData.eqv d e)else none)else none
  | none=>none)
 | none=>none
def Dx(a b:AV):Bool:=match a,b with
 | .tup (.str x::_),.tup (.str y::_)=> !decide (x=y)
 | _,_=>false
def DD(a b:AV)(h:AH):Bool:=match a,b with
 | .ref m,.ref n=>(match h.get m,h.get n with
  | some (.lst xs),some (.lst ys)=> !decide (xs.length=ys.length)
  | _,_=>false)
 | _,_=>false
def FR:dF:=fun a b h=>match lr a b h with
 | some k=> .ok (.bl k) h
 | none=>if Dx a b=true then .ok (.bl false) h else if DD a b h=true then .ok (.bl false) h else .stuck
def FO:dF:=fun a b h=>match lr a b h with
 | some k=> .ok (.bl (!k)) h
 | none=>if Dx a b=true then .ok (.bl true) h else if DD a b h=true then .ok (.bl true) h else .stuck
theorem nO{W μ ah H a b x y k}(hr:HR W μ ah H)(ra:Rl W μ H a x)(rb:Rl W μ H b y)(e:lr a b ah=some k):∃ d e,Dp W.K H x d∧Dp W.K H y e∧SeqAt.shaped d=true∧SeqAt.shaped e=true∧k=PyData.eqv d e:=by
 unfold lr at e;split at e
 ·rename_i d q;split at e
  ·rename_i d' q';split at e
   ·rename_i s1;split at e
    ·rename_i s2;cases e;exact⟨d,d',(b9 hr iL).1 _ _ _ ra q,(b9 hr iL).1 _ _ _ rb q',s1,s2,rfl⟩
    ·cases e
   ·cases e
  ·cases e
 ·cases e
section
variable {X:Cx}{a0:Addr}
theorem oo{pins:List (Addr×Obj)}{σ:KJ}{H:Hp}{s:Shared}{μ:List Addr}(I:Inv X pins σ H s){a b:AV}{x y:V}{v u:Value}(ra:Rl (Cx.wd X a0) μ H a x)(rb:Rl (Cx.wd X a0) μ H b y)(rx:RelV x v)(ry:RelV y u)(e:Dx a b=true) :
  ∃ l m n1 n2 dd1 dd2 sl1 sl2 z w r1 r2,v = .ref l∧u = .ref m∧s.heap.get? l=some { cls:=.type "tuple",dict:=dd1,data:=.seq (z::r1).toArray n1,slots:=sl1 }∧s.heap.get? m=some { cls:=.type "tuple",dict:=dd2,data:=.seq (w::r2).toArray n2,slots:=sl2 }∧
   ∀(A:Around) (E:Value→Shared→Prop) (Q:Bool→Shared→Prop),Q false s→wpAny (model X.prog X.w) A (eqBool z w) Q E s:=by
 unfold Dx at e;split at e
 ·rename_i p xs q ys;cases ra with
  | tup h1 r1=>
   cases rb with
   | tup h2 r2=>
    cases r1 with
    | cons c1 d1=>
     cases r2 with
     | cons c2 d2=>
      cases c1;cases c2;cases rx;cases ry;obtain⟨its,k1,e1,z1⟩:=I.tuple h1;obtain⟨its2,k2,e2,z2⟩:=I.tuple h2;cases k1 with
      | cons j1 k1=>
       cases k2 with
       | cons j2 k2=>
        obtain⟨⟨cls,dd,data,sl⟩,ho,hc,n,hd⟩:=id e1;obtain⟨⟨cls2,dd2,data2,sl2⟩,ho2,hc2,n2,hd2⟩:=id e2;simp only at hc hd hc2 hd2;subst hc hd hc2 hd2;refine⟨_,_,_,_,_,_,_,_,_,_,_,_,rfl,rfl,ho,ho2,fun A E Q hQ=> ?_⟩
        have t:=eqAt_V (A:=A) (s:=s) j1 j2 rfl rfl;have hne:eqV (V.str p) (V.str q)=false:=by
         simp at e;show decide (p=q)=false
         exact decide_eq_false e
        rw[hne]at t;exact t X.prog X.w E Q hQ
 ·cases e
theorem CD(hu:X.A.units+64<cLine){pins:List (Addr×Obj)}{σ:KJ}{H:Hp}{s:Shared}{μ:List Addr}(I:Inv X pins σ H s){a b:AV}{x y:V}{v u:Value}(ra:Rl (Cx.wd X a0) μ H a x)(rb:Rl (Cx.wd X a0) μ H b y)(rx:RelV x v)(ry:RelV y u)(e:Dx a b=true){Q:Value→Shared→Prop}{E:Value→Shared→Prop}(h:Q (.bool false) s):wpAny (model X.prog X.w) X.A (compareOp .Eq v u) Q E s:=by
 obtain⟨l,m,n1,n2,dd1,dd2,sl1,sl2,z,w,r1,r2,rfl,rfl,h1,h2,t⟩:=oo I ra rb rx ry e;refine wpAny_richCompare_same_room (op:=.Eq) ⟨_,h1,rfl⟩ ⟨_,h2,rfl⟩ Ls (MV Ls ⟨_,h1,rfl⟩ PySem.F.entry_tuple_eq (PySem.F.args_tuple_eq_2 _ _) ?_) (by omega)
 exact GQ.tH l m z w r1 r2 n1 n2 dd1 dd2 sl1 sl2 (t _) ⟨(fun x=>nomatch x),h⟩ h1 h2
theorem C4(hu:X.A.units+64<cLine){pins:List (Addr×Obj)}{σ:KJ}{H:Hp}{s:Shared}{μ:List Addr}(I:Inv X pins σ H s){a b:AV}{x y:V}{v u:Value}(ra:Rl (Cx.wd X a0) μ H a x)(rb:Rl (Cx.wd X a0) μ H b y)(rx:RelV x v)(ry:RelV y u)(e:Dx a b=true){Q:Value→Shared→Prop}{E:Value→Shared→Prop}(h:Q (.bool true) s):wpAny (model X.prog X.w) X.A (compareOp .NotEq v u) Q E s:=by
 obtain⟨l,m,n1,n2,dd1,dd2,sl1,sl2,z,w,r1,r2,rfl,rfl,h1,h2,t⟩:=oo I ra rb rx ry e;refine wpAny_richCompare_same_room (op:=.NotEq) ⟨_,h1,rfl⟩ ⟨_,h2,rfl⟩ Lu (MV Lu ⟨_,h1,rfl⟩ PySem.F.entry_tuple_ne (PySem.F.args_tuple_ne_2 _ _) ?_) (by omega)
 exact GQ.sV l m z w r1 r2 n1 n2 dd1 dd2 sl1 sl2 (t _) ⟨(fun x=>nomatch x),h⟩ h1 h2
theorem oP{pins:List (Addr×Obj)}{σ:KJ}{H:Hp}{s:Shared}{μ:List Addr}(I:Inv X pins σ H s){ah:AH}(hr:HR (Cx.wd X a0) μ ah H){a b:AV}{x y:V}{v u:Value}(ra:Rl (Cx.wd X a0) μ H a x)(rb:Rl (Cx.wd X a0) μ H b y)(rx:RelV x v)(ry:RelV y u)(e:DD a b ah=true) :
  ∃ l m,∃(i1 i2:List Value),∃ n1 n2,v = .ref l∧u = .ref m∧s.heap.get? l=some { cls:=.type "list",data:=.seq i1.toArray n1 }∧s.heap.get? m=some { cls:=.type "list",data:=.seq i2.toArray n2 }∧(i1.toArray.size != i2.toArray.size)=true:=by
 unfold DD at e;split at e
 ·split at e
  ·rename_i g1 g2;obtain⟨c1,ys1,rfl,_,h1,r1⟩:=hr.lst g1 ra;obtain⟨c2,ys2,rfl,_,h2,r2⟩:=hr.lst g2 rb;cases rx;cases ry;obtain⟨_,its,n,k1,_,e1⟩:=I.lstM h1;obtain⟨_,its2,n2,k2,_,e2⟩:=I.lstM h2;refine⟨_,_,its,its2,n,n2,rfl,rfl,e1,e2, ?_⟩;have l1:=k1.length;have l2:=k2.length;have m1:=r1.length;have m2:=r2.length;simp at e;simp
   omega
  ·cases e
 ·cases e
theorem BP(hu:X.A.units+64<cLine){pins:List (Addr×Obj)}{σ:KJ}{H:Hp}{s:Shared}{μ:List Addr}(I:Inv X pins σ H s){ah:AH}(hr:HR (Cx.wd X a0) μ ah H){a b:AV}{x y:V}{v u:Value}(ra:Rl (Cx.wd X a0) μ H a x)(rb:Rl (Cx.wd X a0) μ H b y)(rx:RelV x v)(ry:RelV y u)(e:DD a b ah=true){Q:Value→Shared→Prop}{E:Value→Shared→Prop}(h:Q (.bool false) s):wpAny (model X.prog X.w) X.A (compareOp .Eq v u) Q E s:=by
 obtain⟨l,m,i1,i2,n1,n2,rfl,rfl,h1,h2,t⟩:=oP I hr ra rb rx ry e;exact richCompare_meets_room (op:=.Eq) ⟨_,h1,rfl⟩ ⟨_,h2,rfl⟩ PySem.F.slot_list_eq PySem.F.entry_list_eq (PySem.F.args_list_eq_2 _ _) (SeqAt.list_eq_lengthsAt l m i1.toArray i2.toArray n1 n2 none none #[] #[] t) ⟨h1,h2,show Value.bool false≠Value.notImplemented∧Q (.bool false) s from⟨(fun x=>nomatch x),h⟩⟩ (by omega)
theorem Df(hu:X.A.units+64<cLine){pins:List (Addr×Obj)}{σ:KJ}{H:Hp}{s:Shared}{μ:List Addr}(I:Inv X pins σ H s){ah:AH}(hr:HR (Cx.wd X a0) μ ah H){a b:AV}{x y:V}{v u:Value}(ra:Rl (Cx.wd X a0) μ H a x)(rb:Rl (Cx.wd X a0) μ H b y)(rx:RelV x v)(ry:RelV y u)(e:DD a b ah=true){Q:Value→Shared→Prop}{E:Value→Shared→Prop}(h:Q (.bool true) s):wpAny (model X.prog X.w) X.A (compareOp .NotEq v u) Q E s:=by
 obtain⟨l,m,i1,i2,n1,n2,rfl,rfl,h1,h2,t⟩:=oP I hr ra rb rx ry e;exact richCompare_meets_room (op:=.NotEq) ⟨_,h1,rfl⟩ ⟨_,h2,rfl⟩ PySem.F.slot_list_ne PySem.F.entry_list_ne (PySem.F.args_list_ne_2 _ _) (SeqAt.list_ne_lengthsAt l m i1.toArray i2.toArray n1 n2 none none #[] #[] t) ⟨h1,h2,show Value.bool true≠Value.notImplemented∧Q (.bool true) s from⟨(fun x=>nomatch x),h⟩⟩ (by omega)
end
theorem Br(hu:X.A.units+64<cLine):OpR X (compareOp .Eq) (bD (Cx.wd X a0) FR):=by
 intro pins s σ H x y v u Q I rx ry ⟨μ,a,b,ah,hr,ra,rb,p⟩;unfold FR at p;split at p
 ·rename_i k e;obtain⟨d,d',h1,h2,h3,h4,rfl⟩:=nO hr ra rb e;exact op_eqD hu pins s σ H x y v u Q I rx ry ⟨d,d',h1,h2,h3,h4,p.ret hr .bl⟩
 ·split at p
  ·rename_i e;exact CD hu I ra rb rx ry e ⟨.bl false,H,I,rfl,p.ret hr .bl⟩
  ·split at p
   ·rename_i e;exact BP hu I hr ra rb rx ry e ⟨.bl false,H,I,rfl,p.ret hr .bl⟩
   ·exact p.elim
theorem CA(hu:X.A.units+64<cLine):OpR X (compareOp .NotEq) (bD (Cx.wd X a0) FO):=by
 intro pins s σ H x y v u Q I rx ry ⟨μ,a,b,ah,hr,ra,rb,p⟩;unfold FO at p;split at p
 ·rename_i k e;obtain⟨d,d',h1,h2,h3,h4,rfl⟩:=nO hr ra rb e;exact op_neD hu pins s σ H x y v u Q I rx ry ⟨d,d',h1,h2,h3,h4,p.ret hr .bl⟩
 ·split at p
  ·rename_i e;exact C4 hu I ra rb rx ry e ⟨.bl true,H,I,rfl,p.ret hr .bl⟩
  ·split at p
   ·rename_i e;exact Df hu I hr ra rb rx ry e ⟨.bl true,H,I,rfl,p.ret hr .bl⟩
   ·exact p.elim
def fZ(C:Int→Int→Bool)(g:Int→Int→AV):dF:=fun a b h=>match a,b with
 | .int i,.int j=>if C i j=true then .ok (g i j) h else .stuck
 | _,_=> .stuck
theorem cH{f:Value→Value→Sem Value}{P:Int→Int→Prop}{C:Int→Int→Bool}{g:Int→Int→AV}{gv:Int→Int→V}(ho:OpR X f (rI P gv))(hC:∀ i j,C i j=true→P i j)(hg:∀ i j μ H,Rl (Cx.wd X a0) μ H (g i j) (gv i j)) :
  OpR X f (bD (Cx.wd X a0) (fZ C g)):=by
 intro pins s σ H x y v u Q I rx ry ⟨μ,a,b,ah,hr,ra,rb,p⟩;unfold fZ at p;split at p
 ·split at p
  ·rename_i c;cases ra; cases rb;exact ho pins s σ H _ _ v u Q I rx ry ⟨_,_,rfl,rfl,hC _ _ c,p.ret hr (hg _ _ _ _)⟩
  ·exact p.elim
 ·exact p.elim
theorem Cw{g:Int→Int→V}{x y:V}{H:Hp}{Q:VK}(h:rI (fun _ _=>True) g x y H Q):rI0 g x y H Q:=by
 obtain⟨i,j,h1,h2,_,q⟩:=h;exact⟨i,j,h1,h2,q⟩
theorem wQ{f:Value→Value→Sem Value}{g:Int→Int→V}(h:OpR X f (rI0 g)):OpR X f (rI (fun _ _=>True) g):=fun pins s σ H x y v u Q I rx ry q=>h pins s σ H x y v u Q I rx ry (Cw q)
def DE(_ _:Int):Bool:=true
def Bl:dF:=fZ DE fun i j=> .int (i - j)
theorem zG:OpR X (binaryOp .Sub) (bD (Cx.wd X a0) Bl):=cH (wQ op_sub) (fun _ _ _=>trivial) fun _ _ _ _=> .int
def zC:dF:=fZ DE fun i j=> .bl (decide (i<j))
def F3:dF:=fun a b h=>match a,b with
 | .str x,.str y=> .ok (.bl (!decide (y.cps.toList<x.cps.toList))) h
 | a,b=>fZ DE (fun i j=> .bl (decide (i≤j))) a b h
def zh:dF:=fZ DE fun i j=> .bl (decide (j<i))
def F4:dF:=fZ DE fun i j=> .bl (decide (j≤i))
theorem Dm:OpR X (compareOp .Lt) (bD (Cx.wd X a0) zC):=cH (wQ op_lt) (fun _ _ _=>trivial) fun _ _ _ _=> .bl
theorem zv:OpR X (compareOp .LtE) (bD (Cx.wd X a0) (fZ DE fun i j=> .bl (decide (i≤j)))):=cH (wQ op_le) (fun _ _ _=>trivial) fun _ _ _ _=> .bl
theorem CZ:OpR X (compareOp .LtE) (bD (Cx.wd X a0) F3):=by
 intro pins s σ H x y v u Q I rx ry ⟨μ,a,b,ah,hr,ra,rb,p⟩;unfold F3 at p;split at p
 ·cases ra; cases rb;exact op_le_str pins s σ H _ _ v u Q I rx ry ⟨_,_,rfl,rfl,p.ret hr .bl⟩
 ·exact zv pins s σ H x y v u Q I rx ry ⟨μ,_,_,ah,hr,ra,rb,p⟩
theorem Cb:OpR X (compareOp .Gt) (bD (Cx.wd X a0) zh):=cH (wQ op_gt) (fun _ _ _=>trivial) fun _ _ _ _=> .bl
theorem CK:OpR X (compareOp .GtE) (bD (Cx.wd X a0) F4):=cH (wQ op_ge) (fun _ _ _=>trivial) fun _ _ _ _=> .bl
def uA(i j:Int):Bool:=decide (j≠0) && decide (j.natAbs<1073741824)
def jW:dF:=fZ uA fun i j=> .int (i.fdiv j)
theorem x7:OpR X (binaryOp .FloorDiv) (bD (Cx.wd X a0) jW):=cH op_fdivN (fun i j h=>by
 unfold uA at h; rw[Ji]at h; exact⟨of_decide_eq_true h.1,of_decide_eq_true h.2⟩) fun _ _ _ _=> .int
def Iu(i j:Int):Bool:=decide (j≠0)
def jG:dF:=fZ Iu fun i j=> .int (i.fmod j)
theorem yk:OpR X (binaryOp .Mod) (bD (Cx.wd X a0) jG):=cH op_modN (fun i j h=>of_decide_eq_true h) fun _ _ _ _=> .int
def dh:dF:=fun a b h=>match a,b with
 | .int i,.int j=> .ok (.int (i+j)) h
 | .str x,.str y=>if x.length+y.length≤sizeLine then .ok (.str (x++y)) h else .stuck
 | .tup xs,.tup ys=>if xs.length+ys.length≤sizeLine then .ok (.tup (xs++ys)) h else .stuck
 | .ref m,.ref n=>(match h.get m,h.get n with
  | some (.lst xs),some (.lst ys)=>if xs.length+ys.length≤sizeLine then .ok (.ref h.n) (h.push (.lst (xs++ys)))else .stuck
  | _,_=> .stuck)
 | _,_=> .stuck
theorem aV.nil_iff{W μ H xs ys}(r:aV W μ H xs ys):ys=[]↔xs=[]:=by
 cases r with
 | nil=>simp
 | cons _ _=>simp
theorem cG{W μ H}{as:List AV}{xs:List V}{ah:AH}{Q:VK}{p:Addr}(hr:HR W μ ah H)(r:aV W μ H as xs)(q:bh W μ H (.ok (.ref ah.n) (ah.push (.lst as))) Q)(hp:H p=none):Q (.ref p) (upd H p (.lst xs)):=by
 have e:Ext W μ H (μ ++ [p]) (upd H p (.lst xs)):=Ext.cb hp;refine q (μ ++ [p]) _ _ e (hr.push hp ⟨xs,upd_same,r.ext e⟩) (.ref ?_);rw[hr.sz]; simp
theorem jK{W μ H}{as:List AV}{xs:List V}{ah:AH}{Q:VK}{p:Addr}(hr:HR W μ ah H)(r:aV W μ H as xs)(q:bh W μ H (.ok (.tup as) ah) Q)(hp:H p=none):Q (.ref p) (upd H p (.tup xs)):=by
 have e:Ext W μ H μ (upd H p (.tup xs)):=Ext.fW hp;exact q μ _ _ e (hr.tup hp) (.tup (.of upd_same) (r.ext e))
theorem AD:OpR X (binaryOp .Add) (bD (Cx.wd X a0) dh):=by
 intro pins s σ H x y v u Q I rx ry ⟨μ,a,b,ah,hr,ra,rb,p⟩;unfold dh at p;split at p
 ·cases ra; cases rb;exact op_add pins s σ H _ _ v u Q I rx ry ⟨_,_,rfl,rfl,p.ret hr .int⟩
 ·split at p
  ·rename_i hl;cases ra; cases rb;exact op_add_str pins s σ H _ _ v u Q I rx ry ⟨_,_,rfl,rfl,hl,p.ret hr .str⟩
  ·exact p.elim
 ·split at p
  ·rename_i xs ys hl;cases ra with
   | tup h1 r1=>
    cases rb with
    | tup h2 r2=>
     refine op_catA pins s σ H _ _ v u Q I rx ry ⟨_,_,_,_,rfl,rfl,h1,h2,by rw[←r1.length,←r2.length]; exact hl,fun e=> ?_,fun _ e=> ?_,fun _ _ q hq=> ?_⟩
     ·have:=r1.nil_iff.mp e;subst this;exact p.ret hr (.tup h2 r2)
     ·have:=r2.nil_iff.mp e;subst this;rw[Lv]at p;exact p.ret hr (.tup h1 r1)
     ·exact jK hr (r1.append r2) p hq
  ·exact p.elim
 ·split at p
  ·rename_i g1 g2;split at p
   ·rename_i hl;obtain⟨a,xs,rfl,_,h1,r1⟩:=hr.lst g1 ra;obtain⟨b,ys,rfl,_,h2,r2⟩:=hr.lst g2 rb;exact op_cat pins s σ H _ _ v u Q I rx ry ⟨_,_,_,_,rfl,rfl,h1,h2,by rw[←r1.length,←r2.length]; exact hl,fun q hq=>cG hr (r1.append r2) p hq⟩
   ·exact p.elim
  ·exact p.elim
 ·exact p.elim
def jC:dF:=fun a b h=>match a,b with
 | .int i,.int j=>if (decide (-(2 ^ 64)<i) && decide (i<2 ^ 64)) || (decide (-(2 ^ 64)<j) && decide (j<2 ^ 64))then .ok (.int (i * j)) h else .stuck
 | .ref m,.int k=>(match h.get m with
  | some (.lst xs)=>if decide (-(2 ^ 63)≤k) && decide (k<2 ^ 63) && decide (xs.length * k.toNat≤sizeLine)then .ok (.ref h.n) (h.push (.lst (Ju k.toNat xs).flatten))else .stuck
  | _=> .stuck)
 | .tup xs,.int k=>if decide (xs≠[]) && decide (2≤k) && decide (k≤1000) && decide (xs.length≤1000)then .ok (.tup (Ju k.toNat xs).flatten) h else if decide (k=1) && decide (xs≠[])then .stuck else .stuck
 | .str x,.int k=>if decide (0≤k) && decide (k≤1000) && decide (x.length≤1000)then .ok (.str (Txt.mul x k)) h else .stuck
 | _,_=> .stuck
end
section
variable {X:Cx}{a0:Addr}
def toV:AV→Option V
 | .non=>some .non
 | .bl b=>some (.bl b)
 | .int i=>some (.int i)
 | .str x=>some (.str x)
 | _=>none
def vT:List AV→Option (List V)
 | []=>some []
 | x::xs=>match toV x with
  | some v=>(match vT xs with
   | some vs=>some (v::vs)
   | none=>none)
  | none=>none
theorem wH{W μ H v x y}(r:Rl W μ H v x)(e:toV v=some y):x=y∧flatV y=true:=by
 cases r<;>simp [toV]at e<;>subst e<;>exact⟨rfl,rfl⟩
theorem rM{W μ H}:∀{vs xs ys},aV W μ H vs xs→vT vs=some ys→xs=ys∧ys.all flatV=true
 | _,_,_,.nil,e=>by simp [vT]at e; subst e; exact⟨rfl,rfl⟩
 | _,_,_,.cons r t,e=>by
  unfold vT at e;split at e
  ·rename_i v q;split at e
   ·rename_i vs q';cases e;obtain⟨rfl,f1⟩:=wH r q;obtain⟨rfl,f2⟩:=rM t q';exact⟨rfl,by simp [f1]; simpa using f2⟩
   ·cases e
  ·cases e
def cA:AV→Option Key
 | .int i=>some (.inl i)
 | .str x=>some (.inr x)
 | _=>none
theorem bW{W μ H v x k}(r:Rl W μ H v x)(e:cA v=some k):x=kV k:=by
 cases r<;>simp [cA]at e<;>subst e<;>rfl
def kA:Key→AV
 | .inl i=> .int i
 | .inr x=> .str x
def gJ{κ:Type}[DecidableEq κ](kvs:List (κ × AV))(k:κ):Option AV:=(kvs.find? fun kv=>decide (kv.1=k)).map (·.2)
theorem bj.val{W μ H}{κ:Type}[DecidableEq κ]{k:κ}:∀{xs ys},bj W μ H xs ys→(gJ xs k=none∧valV ys k=none)∨∃ v x,gJ xs k=some v∧valV ys k=some x∧Rl W μ H v x
 | _,_,.nil=> .inl ⟨rfl,rfl⟩
 | _,_,.cons (k:=k') (x:=x) (y:=y) r t=>by
  by_cases h:k'=k
  ·right;refine⟨x,y, ?_, ?_,r⟩<;>simp [gJ,valV,Ma,h]
  ·rcases bj.val (k:=k) t with ⟨h1,h2⟩ | ⟨v,z,h1,h2,h3⟩
   ·left;unfold gJ valV at *;simp [Ma,h];simp at h1 h2;exact⟨h1,h2⟩
   ·right;refine⟨v,z, ?_, ?_,h3⟩
    ·unfold gJ at *; simp only[Ma,h,decide_false]; exact h1
    ·unfold valV at *; simp only[Ma,h,decide_false]; exact h2
def zf(a b:AV)(h:AH):Option Bool:=match b with
 | .tup ys=>(match toV a,vT ys with
  | some v,some vs=>some (inV v vs)
  | _,_=>(match bJ iL h a,cQ iL h ys with
   | some d,some ds=>if SeqAt.shaped d=true then(if SeqAt.shaped (.tuple ds)=true then some (ds.any fun z=>PyData.eqv z d)else none)else none
   | _,_=>none))
 | .str z=>(match a with
  | .str x=>(match x.cps.toList with
   | [c]=>some (decide (c∈z.cps.toList))
   | _=>none)
  | _=>none)
 | .ref n=>(match h.get n with
  | some (.lst ys)=>(match bJ iL h a,cQ iL h ys with
   | some d,some ds=>if SeqAt.shaped d=true then(if SeqAt.shaped (.list ds)=true then some (ds.any fun z=>PyData.eqv z d)else none)else none
   | _,_=>none)
  | some (.bA kvs)=>(match cA a with
   | some k=>some (gJ kvs k).isSome
   | none=>none)
  | _=>none)
 | _=>none
def Hx:dF:=fun a b h=>match zf a b h with
 | some k=> .ok (.bl k) h
 | none=> .stuck
def qr:dF:=fun a b h=>match zf a b h with
 | some k=> .ok (.bl (!k)) h
 | none=> .stuck
theorem k9:OpR X (compareOp .NotIn) (fun x y H Q=>∃(c:Nat) (z:Str),x = .str ⟨#[c]⟩∧y = .str z∧Q (.bl (!decide (c∈z.cps.toList))) H):=op_notIn_sign
section
variable {X:Cx}{H:Hp}{x y:V}{v u:Value}{Q:VK}
theorem ur(hu:X.A.units+65<cLine){pins σ s}(I:Inv X pins σ H s)(rx:RelV x v)(ry:RelV y u){d:PyData}{ds:List PyData}(hd:Dp X.K H x d)(he:Dp X.K H y (.tuple ds))(sd:SeqAt.shaped d=true)(se:SeqAt.shaped (.tuple ds)=true) :
  (Q (.bl (ds.any fun z=>PyData.eqv z d)) H→wpAny (model X.prog X.w) X.A (compareOp .In v u) (EP X pins σ Q) X.xe s)∧(Q (.bl (!ds.any fun z=>PyData.eqv z d)) H→wpAny (model X.prog X.w) X.A (compareOp .NotIn v u) (EP X pins σ Q) X.xe s):=by
 have ⟨_,ra⟩:=Dp.reads I d x v hd rx;have ⟨_,rb⟩:=Dp.reads I (.tuple ds) y u he ry;have c1:=SeqAt.canLay_of_shaped sd;have c2:=SeqAt.canLay_of_shaped se;have c3:=Ms (A:=X.A) (xs:=ds) sd hu;exact⟨fun q=>SeqAt.in_tuple_reads rb ra c2 c1 c3 ⟨V.bl _,H,I,rfl,q⟩,fun q=>SeqAt.notIn_tuple_reads rb ra c2 c1 c3 ⟨V.bl _,H,I,rfl,q⟩⟩
end
theorem rD(hu:X.A.units+65<cLine){pins s σ H}{x y:V}{v u:Value}{Q:VK}{μ a b ah k}(I:Inv X pins σ H s)(rx:RelV x v)(ry:RelV y u)(hr:HR (Cx.wd X a0) μ ah H)(ra:Rl (Cx.wd X a0) μ H a x)(rb:Rl (Cx.wd X a0) μ H b y)(e:zf a b ah=some k) :
  (Q (.bl k) H→wpAny (model X.prog X.w) X.A (compareOp .In v u) (EP X pins σ Q) X.xe s)∧(Q (.bl (!k)) H→wpAny (model X.prog X.w) X.A (compareOp .NotIn v u) (EP X pins σ Q) X.xe s):=by
 unfold zf at e;split at e
 ·rename_i ys;split at e
  ·rename_i v' vs q1 q2;cases e;cases rb with
   | tup h r=>
    obtain⟨rfl,f1⟩:=wH ra q1;obtain⟨rfl,f2⟩:=rM r q2;exact⟨fun q=>op_in_seq pins s σ H _ _ v u Q I rx ry ⟨_,_,rfl,.inr h,f1,f2,q⟩,fun q=>op_notIn_seq pins s σ H _ _ v u Q I rx ry ⟨_,_,rfl,.inr h,f1,f2,q⟩⟩
  ·split at e
   ·rename_i d ds q1 q2;split at e
    ·rename_i s1;split at e
     ·rename_i s2;cases e;cases rb with
      | tup h r=>exact ur hu I rx ry ((b9 hr iL).1 _ _ _ ra q1) (.tup h ((b9 hr iL).2 _ _ _ r q2)) s1 s2
     ·cases e
    ·cases e
   ·cases e
 ·rename_i z;split at e
  ·rename_i w;split at e
   ·rename_i c hc;cases e;cases ra; cases rb;have ew:w=⟨#[c]⟩:=by
     have:w.cps = #[c]:=by apply Array.ext'; exact hc
     cases w; cases this; rfl
    subst ew;exact⟨fun q=>op_in_sign pins s σ H _ _ v u Q I rx ry ⟨c,z,rfl,rfl,q⟩,fun q=>k9 pins s σ H _ _ v u Q I rx ry ⟨c,z,rfl,rfl,q⟩⟩
   ·cases e
  ·cases e
 ·rename_i n;split at e
  ·rename_i ys hg;split at e
   ·rename_i d ds q1 q2;split at e
    ·rename_i s1;split at e
     ·rename_i s2;cases e;obtain⟨a,xs,rfl,_,h1,r1⟩:=hr.lst hg rb;have D1:=(b9 hr iL).1 _ _ _ ra q1;have D2:=(b9 hr iL).2 _ _ _ r1 q2;exact⟨fun q=>op_inD hu pins s σ H _ _ v u Q I rx ry ⟨d,ds,D1,.lst (.of h1) D2,s1,s2,q⟩,fun q=>op_notInD hu pins s σ H _ _ v u Q I rx ry ⟨d,ds,D1,.lst (.of h1) D2,s1,s2,q⟩⟩
     ·cases e
    ·cases e
   ·cases e
  ·rename_i kvs hg;split at e
   ·rename_i k' q1;cases e;obtain⟨a,xs,rfl,_,h1,r1⟩:=hr.bA hg rb;have ex:=bW ra q1;subst ex;cases ry;have CV:X.A.units+1<cLine:=by omega
    have eo:(gJ kvs k').isSome=(valV xs k').isSome:=by
     rcases r1.val (k:=k')with ⟨z1,z2⟩ | ⟨_,_,z1,z2,_⟩<;>rw[z1,z2]<;>rfl
    rw[eo];exact⟨fun q=>d_in CV I (DGet.k h1) rx fun s' I'=>⟨V.bl _,H,I',rfl,q⟩,fun q=>d_notIn CV I (DGet.k h1) rx fun s' I'=>⟨V.bl _,H,I',rfl,q⟩⟩
   ·cases e
  ·cases e
 ·cases e
theorem Bj(hu:X.A.units+65<cLine):OpR X (compareOp .In) (bD (Cx.wd X a0) Hx):=by
 intro pins s σ H x y v u Q I rx ry ⟨μ,a,b,ah,hr,ra,rb,p⟩;unfold Hx at p;split at p
 ·rename_i k e;exact(rD hu I rx ry hr ra rb e).1 (p.ret hr .bl)
 ·exact p.elim
theorem ue(hu:X.A.units+65<cLine):OpR X (compareOp .NotIn) (bD (Cx.wd X a0) qr):=by
 intro pins s σ H x y v u Q I rx ry ⟨μ,a,b,ah,hr,ra,rb,p⟩;unfold qr at p;split at p
 ·rename_i k e;exact(rD hu I rx ry hr ra rb e).2 (p.ret hr .bl)
 ·exact p.elim
def DA:AV→Bool
 | .non=>true
 | _=>false
def rX:AV→Option Bool
 | .bl a=>some a
 | _=>none
def F1:dF:=fun a b h=>match b with
 | .non=> .ok (.bl (DA a)) h
 | .bl k=>(match rX a with
  | some j=> .ok (.bl (decide (j=k))) h
  | none=> .stuck)
 | _=> .stuck
def mR:dF:=fun a b h=>match b with
 | .non=> .ok (.bl (!DA a)) h
 | .bl k=>(match rX a with
  | some j=> .ok (.bl (!decide (j=k))) h
  | none=> .stuck)
 | _=> .stuck
theorem pb{W μ H a x j}(r:Rl W μ H a x)(e:rX a=some j):x = .bl j:=by
 unfold rX at e;split at e
 ·cases e; cases r; rfl
 ·cases e
theorem uG{W μ H a x}(r:Rl W μ H a x):DA a=decide (x = .non):=by cases r<;>simp [DA]
theorem Cr:OpR X (compareOp .Is) (bD (Cx.wd X a0) F1):=by
 intro pins s σ H x y v u Q I rx ry ⟨μ,a,b,ah,hr,ra,rb,p⟩;unfold F1 at p;split at p
 ·cases rb;rw[uG ra]at p;exact op_isN pins s σ H _ _ v u Q I rx ry ⟨rfl,p.ret hr .bl⟩
 ·split at p
  ·rename_i q;cases rb;have ex:=pb ra q;subst ex;exact op_is_bl pins s σ H _ _ v u Q I rx ry ⟨_,_,rfl,rfl,p.ret hr .bl⟩
  ·exact p.elim
 ·exact p.elim
theorem t5:OpR X (compareOp .IsNot) (bD (Cx.wd X a0) mR):=by
 intro pins s σ H x y v u Q I rx ry ⟨μ,a,b,ah,hr,ra,rb,p⟩;unfold mR at p;split at p
 ·cases rb;rw[uG ra]at p;exact op_notN pins s σ H _ _ v u Q I rx ry ⟨rfl,p.ret hr .bl⟩
 ·split at p
  ·rename_i q;cases rb;have ex:=pb ra q;subst ex;exact op_isnot_bl pins s σ H _ _ v u Q I rx ry ⟨_,_,rfl,rfl,p.ret hr .bl⟩
  ·exact p.elim
 ·exact p.elim
theorem aV.rep{W μ H xs ys}(r:aV W μ H xs ys):∀ n:Nat,aV W μ H (Ju n xs).flatten (Ju n ys).flatten
 | 0=> .nil
 | n+1=>by rw[KW,KW,Mb,Mb]; exact r.append (aV.rep r n)
theorem zX:OpR X (binaryOp .Mult) (bD (Cx.wd X a0) jC):=by
 intro pins s σ H x y v u Q I rx ry ⟨μ,a,b,ah,hr,ra,rb,p⟩;unfold jC at p;split at p
 ·split at p
  ·rename_i c;cases ra; cases rb;refine op_mul pins s σ H _ _ v u Q I rx ry ⟨_,_,rfl,rfl, ?_,p.ret hr .int⟩;rw[JC,Ji,Ji]at c;rcases c with ⟨c1,c2⟩ | ⟨c1,c2⟩
   ·exact .inl ⟨of_decide_eq_true c1,of_decide_eq_true c2⟩
   ·exact .inr ⟨of_decide_eq_true c1,of_decide_eq_true c2⟩
  ·exact p.elim
 ·split at p
  ·rename_i xs hg;split at p
   ·rename_i c;rw[Ji,Ji]at c;obtain⟨⟨c1,c2⟩,c3⟩:=c;obtain⟨a,ys,rfl,_,h1,r1⟩:=hr.lst hg ra;cases rb;exact op_rep pins s σ H _ _ v u Q I rx ry ⟨_,_,_,rfl,rfl,h1,of_decide_eq_true c1,of_decide_eq_true c2,by rw[←r1.length]; exact of_decide_eq_true c3,fun q hq=>cG hr (r1.rep _) p hq⟩
   ·exact p.elim
  ·exact p.elim
 ·rename_i xs k;split at p
  ·rename_i c;rw[Ji,Ji,Ji]at c;obtain⟨⟨⟨c1,c2⟩,c3⟩,c4⟩:=c;cases ra with
   | tup h r=>
    cases rb;exact op_repT pins s σ H _ _ v u Q I rx ry ⟨_,_,_,rfl,rfl,h,fun e=>(of_decide_eq_true c1) (r.nil_iff.mp e),of_decide_eq_true c2,of_decide_eq_true c3,by rw[←r.length]; exact of_decide_eq_true c4,fun q hq=>jK hr (r.rep _) p hq⟩
  ·split at p<;>exact p.elim
 ·rename_i x k;split at p
  ·rename_i c;rw[Ji,Ji]at c;obtain⟨⟨c1,c2⟩,c3⟩:=c;have c1:=of_decide_eq_true c1;have c2:=of_decide_eq_true c2;have c3:=of_decide_eq_true c3;cases ra; cases rb;obtain⟨t1,rfl⟩:=rx;obtain⟨t2,rfl⟩:=ry;refine Nw ⟨?_,fun h1 _=> ?_,fun h1 _=> ?_⟩ fun t' j=>⟨.str (Txt.mul x k),H,I.tok j,⟨t',rfl⟩,p.ret hr .str⟩
   ·rw[decide_eq_false (by omega),decide_eq_false (by omega)]; rfl
   ·have h9:(1000:Int)≤(2 ^ 63 - 1) / k:=(Int.le_ediv_iff_mul_le (by omega)).mpr (by omega)
    omega
   ·unfold Builtin.Str.tooLong;have h9:x.length * k.toNat≤1000 * 1000:=Nat.mul_le_mul c3 (by omega)
    exact decide_eq_false (by rw[sizeLine_eq]; omega)
  ·exact p.elim
 ·exact p.elim
def di:dF:=fun a b h=>match a,b with
 | .tup xs,.int i=>(match atI xs i with
  | some v=> .ok v h
  | none=> .stuck)
 | .str z,.int i=>(match atI z.cps.toList i with
  | some c=>if z.length≤sizeLine then .ok (.str ⟨#[c]⟩) h else .stuck
  | none=> .stuck)
 | .ref n,b=>(match h.get n with
  | some (.lst xs)=>(match b with
   | .int i=>(match atI xs i with
    | some v=> .ok v h
    | none=> .stuck)
   | _=> .stuck)
  | some (.bA kvs)=>(match cA b with
   | some k=>(match gJ kvs k with
    | some v=> .ok v h
    | none=> .stuck)
   | none=> .stuck)
  | some (.iY kvs)=>(match cA b with
   | some k=>(match gJ kvs k with
    | some v=> .ok v h
    | none=> .stuck)
   | none=> .stuck)
  | _=> .stuck)
 | .scr,.int i=>(match atI h.scr i with
  | some k=> .ok (.int k) h
  | none=> .stuck)
 | _,_=> .stuck
theorem vd{W μ H xs ys i v}(r:aV W μ H xs ys)(e:atI xs i=some v):∃ y,atI ys i=some y∧Rl W μ H v y:=by
 unfold atI at e ⊢;rw[r.length]at e;cases q:ixN ys.length i with
 | none=>rw[q]at e; cases e
 | some j=>
  rw[q]at e;exact r.get e
theorem z7{α β:Type}(f:α → β){xs:List α}{i v}(e:atI xs i=some v):atI (xs.map f) i=some (f v):=by
 unfold atI at e ⊢;rw[Jq];cases q:ixN xs.length i with
 | none=>rw[q]at e; cases e
 | some j=>
  rw[q]at e;show(xs.map f)[j]? = _;rw[JN,show xs[j]? = some v from e]
  rfl
theorem Cy(hu:X.A.units+1<cLine):IxR X (bD (Cx.wd X a0) di):=by
 intro value slice pins s σ H x y v u Q I rx ry ⟨μ,a,b,ah,hr,ra,rb,p⟩ hs;unfold di at p;split at p
 ·split at p
  ·rename_i w e;cases ra with
   | tup h r=>
    cases rb;obtain⟨z,e',rz⟩:=vd r e;exact ix_tup value slice pins s σ H _ _ v u Q I rx ry ⟨_,_,_,z,rfl,rfl,h,e',p.ret hr rz⟩ hs
  ·exact p.elim
 ·split at p
  ·rename_i c e;split at p
   ·rename_i hl;cases ra; cases rb;exact ix_str value slice pins s σ H _ _ v u Q I rx ry ⟨_,_,c,rfl,rfl,hl,e,p.ret hr .str⟩ hs
   ·exact p.elim
  ·exact p.elim
 ·split at p
  ·rename_i xs hg;split at p
   ·split at p
    ·rename_i w e;obtain⟨a,ys,rfl,_,h1,r1⟩:=hr.lst hg ra;cases rb;obtain⟨z,e',rz⟩:=vd r1 e;exact ix_list value slice pins s σ H _ _ v u Q I rx ry ⟨_,_,_,z,rfl,rfl,.of h1,e',p.ret hr rz⟩ hs
    ·exact p.elim
   ·exact p.elim
  ·rename_i kvs hg;split at p
   ·rename_i k q1;split at p
    ·rename_i w e;obtain⟨a,xs,rfl,_,h1,r1⟩:=hr.bA hg ra;have ex:=bW rb q1;subst ex;cases rx;rcases r1.val (k:=k)with ⟨z1,_⟩ | ⟨v',z,z1,z2,rz⟩
     ·rw[z1]at e; cases e
     ·rw[z1]at e; cases e;have g:DGet H a (kV k) (some z):=z2 ▸ DGet.k h1;exact KL (dict_typeIs I g) Ku.lookup (d_getItem hu I g ry fun w' s3 I3 rw'=>⟨z,H,I3,rw',p.ret hr rz⟩) hs
    ·exact p.elim
   ·exact p.elim
  ·rename_i kvs hg;split at p
   ·rename_i k q1;split at p
    ·rename_i w e;obtain⟨a,hn,ob,xs,h1,r1⟩:=hr.obj _ _ hg;cases ra with
     | ref e'=>
      rw[hn]at e'; cases e';have ex:=bW rb q1;subst ex;cases rx;rcases r1.val (k:=k)with ⟨z1,_⟩ | ⟨v',z,z1,z2,rz⟩
      ·rw[z1]at e; cases e
      ·rw[z1]at e; cases e;have g:DGet H a (kV k) (some z):=.inl ⟨xs,k,.inr ⟨ob,h1⟩,rfl,z2.symm⟩;exact KL (dict_typeIs I g) Ku.lookup (d_getItem hu I g ry fun w' s3 I3 rw'=>⟨z,H,I3,rw',p.ret hr rz⟩) hs
    ·exact p.elim
   ·exact p.elim
  ·exact p.elim
 ·split at p
  ·rename_i k e;cases ra; cases rb;exact ix_list value slice pins s σ H _ _ v u Q I rx ry ⟨_,_,_,_,rfl,rfl,hr.scr.sq,z7 V.int e,p.ret hr .int⟩ hs
  ·exact p.elim
 ·exact p.elim
end
abbrev AC:=List AV→AH→Ex AV
def dJ(W:Wd)(g:AC):List V→Hp→VK→Prop:=fun xs H Q=>∃ μ as ah,HR W μ ah H∧aV W μ H as xs∧bh W μ H (g as ah) Q
section
variable {X:Cx}{a0:Addr}
theorem dG{f:Value}{r r':List V→Hp→VK→Prop}(h:CallR X f r)(hi:∀ xs H Q,r' xs H Q→r xs H Q):CallR X f r':=fun pins s σ H xs us Q I rv q=>h pins s σ H xs us Q I rv (hi xs H Q q)
def jA:AC:=fun as h=>match as with
 | [.str x]=>if x.length≤sizeLine then .ok (.int x.length) h else .stuck
 | [.tup xs]=> .ok (.int xs.length) h
 | [.scr]=> .ok (.int h.scr.length) h
 | [.ref n]=>(match h.get n with
  | some (.lst xs)=> .ok (.int xs.length) h
  | some (.bA kvs)=> .ok (.int kvs.length) h
  | _=> .stuck)
 | _=> .stuck
theorem bj.length{W μ H}{κ:Type}:∀{xs:List (κ × AV)} {ys},bj W μ H xs ys→xs.length=ys.length
 | _,_,.nil=>rfl
 | _,_,.cons _ t=>by simp [bj.length t]
theorem CN:CallR X (.builtin "len") (dJ (Cx.wd X a0) jA):=by
 intro pins s σ H xs us Q I rv ⟨μ,as,ah,hr,r,p⟩;unfold jA at p;split at p
 ·split at p
  ·rename_i hl;cases r with
   | cons r t=>
    cases r; cases t;exact call_len pins s σ H _ us Q I rv ⟨_,_,rfl,⟨hl,rfl⟩,p.ret hr .int⟩
  ·exact p.elim
 ·cases r with
  | cons r t=>
   cases t;cases r with
   | tup h r=>
    rw[r.length]at p;exact call_len pins s σ H _ us Q I rv ⟨_,_,rfl,.inr ⟨_,h,rfl⟩,p.ret hr .int⟩
 ·cases r with
  | cons r t=>
   cases r; cases t;refine call_len pins s σ H _ us Q I rv ⟨_,ah.scr.length,rfl,.inl ⟨_,hr.scr.sq,by simp⟩,p.ret hr .int⟩
 ·split at p
  ·rename_i ys hg;cases r with
   | cons r t=>
    cases t;obtain⟨a,zs,rfl,_,h1,r1⟩:=hr.lst hg r;rw[r1.length]at p;exact call_len pins s σ H _ us Q I rv ⟨_,_,rfl,.inl ⟨_,.of h1,rfl⟩,p.ret hr .int⟩
  ·rename_i kvs hg;cases r with
   | cons r t=>
    cases t;obtain⟨a,zs,rfl,_,h1,r1⟩:=hr.bA hg r;rw[r1.length]at p;obtain⟨u,rfl,ru⟩:=vals1 rv;cases ru;exact d_len I (.inl h1) fun t s' I'=>⟨.int _,H,I',⟨t,rfl⟩,p.ret hr .int⟩
  ·exact p.elim
 ·exact p.elim
def tL:List AV→Option (List Bool)
 | []=>some []
 | .bl b::r=>(match tL r with
  | some bs=>some (b::bs)
  | none=>none)
 | _::_=>none
theorem rY{W μ H}:∀{vs xs bs},aV W μ H vs xs→tL vs=some bs→xs=bs.map V.bl
 | _,_,_,.nil,e=>by simp [tL]at e; subst e; rfl
 | v::vs,_,_,.cons r t,e=>by
  cases v with
  | bl b=>
   simp only[tL]at e;split at e
   ·rename_i bs q;cases e;cases r;rw[rY t q]; rfl
   ·cases e
  | _=>simp [tL]at e
def sF(g:List Bool→Bool):AC:=fun as h=>match as with
 | [.ref n]=>(match h.get n with
  | some (.lst xs)=>(match tL xs with
   | some bs=> .ok (.bl (g bs)) h
   | none=> .stuck)
  | _=> .stuck)
 | _=> .stuck
def Fj:AC:=sF fun bs=>bs.all id
def Fc:AC:=sF fun bs=>bs.any id
theorem oX{g:List Bool→Bool}{μ as ah H xs}{Q:VK}(hr:HR (Cx.wd X a0) μ ah H)(r:aV (Cx.wd X a0) μ H as xs)(p:bh (Cx.wd X a0) μ H (sF g as ah) Q) :
  ∃(a:Addr) (bs:List Bool),xs=[V.ref a]∧SqL X.K H a (bs.map V.bl)∧Q (.bl (g bs)) H:=by
 unfold sF at p;split at p
 ·split at p
  ·rename_i ys hg;split at p
   ·rename_i bs q;cases r with
    | cons r t=>
     cases t;obtain⟨a,zs,rfl,_,h1,r1⟩:=hr.lst hg r;have e:=rY r1 q;subst e;exact⟨a,bs,rfl,.of h1,p.ret hr .bl⟩
   ·exact p.elim
  ·exact p.elim
 ·exact p.elim
theorem B7 (hc:X.calm=true):CallR X (.builtin "all") (dJ (Cx.wd X a0) Fj):=dG (cr_all hc) fun xs H Q ⟨μ,as,ah,hr,r,p⟩=>oX hr r p
theorem Bo (hc:X.calm=true):CallR X (.builtin "any") (dJ (Cx.wd X a0) Fc):=dG (cr_any hc) fun xs H Q ⟨μ,as,ah,hr,r,p⟩=>oX hr r p
def xU:AC:=fun as h=>match as with
 | [.int i,.int j]=> .ok (.int (if j > i then j else i)) h
 | _=> .stuck
def uH:AC:=fun as h=>match as with
 | [.int i,.int j]=> .ok (.int (if j<i then j else i)) h
 | _=> .stuck
def qo:AC:=fun as h=>match as with
 | [.int i]=> .ok (.int (if i<0 then -i else i)) h
 | _=> .stuck
def u3:AC:=fun as h=>match as with
 | [.int i]=> .ok (.int i) h
 | [.bl k]=> .ok (.int (if k then 1 else 0)) h
 | _=> .stuck
theorem Cs (hc:X.calm=true):CallR X (.builtin "max") (dJ (Cx.wd X a0) xU):=dG (call_max2 hc) fun xs H Q ⟨μ,as,ah,hr,r,p⟩=>by
 unfold xU at p;split at p
 ·cases r with
  | cons r t=>
   cases t with
   | cons r' t=>
    cases r; cases r'; cases t;exact⟨_,_,rfl,p.ret hr .int⟩
 ·exact p.elim
theorem Ce (hc:X.calm=true):CallR X (.builtin "min") (dJ (Cx.wd X a0) uH):=dG (call_min2 hc) fun xs H Q ⟨μ,as,ah,hr,r,p⟩=>by
 unfold uH at p;split at p
 ·cases r with
  | cons r t=>
   cases t with
   | cons r' t=>
    cases r; cases r'; cases t;exact⟨_,_,rfl,p.ret hr .int⟩
 ·exact p.elim
theorem By:CallR X (.builtin "abs") (dJ (Cx.wd X a0) qo):=dG call_abs fun xs H Q ⟨μ,as,ah,hr,r,p⟩=>by
 unfold qo at p;split at p
 ·cases r with
  | cons r t=>
   cases r; cases t;exact⟨_,rfl,p.ret hr .int⟩
 ·exact p.elim
theorem BA:CallR X (.type "int") (dJ (Cx.wd X a0) u3):=dG call_int1 fun xs H Q ⟨μ,as,ah,hr,r,p⟩=>by
 unfold u3 at p;split at p
 ·cases r with
  | cons r t=>
   cases r; cases t;exact .inl ⟨_,rfl,p.ret hr .int⟩
 ·cases r with
  | cons r t=>
   cases r; cases t;exact .inr ⟨_,rfl,p.ret hr .int⟩
 ·exact p.elim
def sM:AC:=fun as h=>match as with
 | [.tup xs]=> .ok (.ref h.n) (h.push (.lst xs))
 | [.scr]=> .ok (.ref h.n) (h.push (.lst (h.scr.map AV.int)))
 | [.ref n]=>(match h.get n with
  | some (.lst xs)=> .ok (.ref h.n) (h.push (.lst xs))
  | some (.bA kvs)=> .ok (.ref h.n) (h.push (.lst (kvs.map fun kv=>kA kv.1)))
  | _=> .stuck)
 | _=> .stuck
theorem CallR.or{f:Value}{r r':List V→Hp→VK→Prop}(h:CallR X f r)(h':CallR X f r'):CallR X f (fun xs H Q=>r xs H Q∨r' xs H Q):=fun pins s σ H xs us Q I rv q=>q.elim (h pins s σ H xs us Q I rv) (h' pins s σ H xs us Q I rv)
theorem bj.vn{W μ H}:∀{kvs:List (Key×AV)} {kv':List (Key×V)},bj W μ H kvs kv'→aV W μ H (kvs.map fun kv=>kA kv.1) (kv'.map fun kv=>kV kv.1)
 | _,_,.nil=> .nil
 | _,_,.cons (k:=k) _ t=> .cons (by cases k<;>constructor) (bj.vn t)
theorem zb (hc:X.calm=true):CallR X (.type "list") (dJ (Cx.wd X a0) sM):=dG (CallR.or call_list_of (call_listD hc)) fun xs H Q ⟨μ,as,ah,hr,r,p⟩=>by
 unfold sM at p;split at p
 ·cases r with
  | cons r t=>
   cases t;cases r with
   | tup h r=>exact .inl ⟨_,_,rfl,.inr h,fun l hl=>cG hr r p hl⟩
 ·cases r with
  | cons r t=>
   cases r; cases t;exact .inl ⟨_,_,rfl,.inl hr.scr.sq,fun l hl=>cG hr (aV.ints _) p hl⟩
 ·split at p
  ·rename_i ys hg;cases r with
   | cons r t=>
    cases t;obtain⟨a,zs,rfl,_,h1,r1⟩:=hr.lst hg r;exact .inl ⟨_,_,rfl,.inl (.of h1),fun l hl=>cG hr r1 p hl⟩
  ·rename_i ys hg;cases r with
   | cons r t=>
    cases t;obtain⟨a,zs,rfl,_,h1,r1⟩:=hr.bA hg r;exact .inr ⟨_,_,rfl,.of h1,fun l hl=>cG hr r1.vn p hl⟩
  ·exact p.elim
 ·exact p.elim
def k8:AC:=fun as h=>match as with
 | [.tup xs]=> .ok (.tup xs) h
 | [.ref n]=>(match h.get n with
  | some (.lst xs)=> .ok (.tup xs) h
  | _=> .stuck)
 | _=> .stuck
theorem wR:CallR X (.type "tuple") (dJ (Cx.wd X a0) k8):=dG call_tuple_of fun xs H Q ⟨μ,as,ah,hr,r,p⟩=>by
 unfold k8 at p;split at p
 ·cases r with
  | cons r t=>
   cases t;cases r with
   | tup h r=>exact⟨_,_,rfl,.inr ⟨h,p.ret hr (.tup h r)⟩⟩
 ·split at p
  ·rename_i ys hg;cases r with
   | cons r t=>
    cases t;obtain⟨a,zs,rfl,_,h1,r1⟩:=hr.lst hg r;exact⟨_,_,rfl,.inl ⟨.of h1,fun l hl=>jK hr r1 p hl⟩⟩
  ·exact p.elim
 ·exact p.elim
theorem nU{W μ H}{as:List (Key×AV)}{xs:List (Key×V)}{ah:AH}{Q:VK}{p:Addr}(hr:HR W μ ah H)(r:bj W μ H as xs)(q:bh W μ H (.ok (.ref ah.n) (ah.push (.bA as))) Q)(hp:H p=none):Q (.ref p) (upd H p (.dK xs)):=by
 have e:Ext W μ H (μ ++ [p]) (upd H p (.dK xs)):=Ext.cb hp;refine q (μ ++ [p]) _ _ e (hr.push hp ⟨xs,upd_same,r.ext e⟩) (.ref ?_);rw[hr.sz]; simp
def tyName(h:AH):AV→Option String
 | .non=>some "NoneType"
 | .bl _=>some "bool"
 | .int _=>some "int"
 | .str _=>some "str"
 | .ref n=>(match h.get n with
  | some (.lst _)=>some "list"
  | some (.bA _)=>some "dict"
  | _=>none)
 | _=>none
def wh:AC:=fun as h=>match as with
 | [.tup _,.ty n]=>(match kitB "tuple" n with
  | some b=> .ok (.bl b) h
  | none=> .stuck)
 | [v,.ty n]=>(match tyName h v with
  | some t=>(match kitB t n with
   | some b=> .ok (.bl b) h
   | none=> .stuck)
  | none=> .stuck)
 | _=> .stuck
theorem i5{W μ ah H v x t}(hr:HR W μ ah H)(r:Rl W μ H v x)(e:tyName ah v=some t):TyOf W.K H x (.type t):=by
 unfold tyName at e;split at e<;>first | (cases e; cases r; exact .non) | (cases e; cases r; exact .bl _) | (cases e; cases r; exact .int _) | (cases e; cases r; exact .str _) | skip
 ·split at e
  ·rename_i hg;cases e;obtain⟨a,zs,rfl,_,h1,r1⟩:=hr.lst hg r;exact .lst h1
  ·rename_i hg;cases e;obtain⟨a,zs,rfl,_,h1,r1⟩:=hr.bA hg r;exact .dK h1
  ·cases e
 ·cases e
theorem vj {W:Wd} {H a ys} (h:SqT W.K H a ys):TyX W.K H (.ref a) (.type "tuple"):=by
 rcases h with (h | ⟨o,h⟩) | ⟨o,its,n,h,hc,_⟩
 ·exact .base (.tup h)
 ·exact .fTuple h
 ·exact .kTuple h hc
theorem q5:CallR X (.builtin "isinstance") (dJ (Cx.wd X a0) wh):=dG call_isi fun xs H Q ⟨μ,as,ah,hr,r,p⟩=>by
 unfold wh at p;split at p
 ·split at p
  ·rename_i b q;cases r with
   | cons r t=>
    cases t with
    | cons r' t=>
     cases r'; cases t;cases r with
     | tup h r=>exact⟨_,_,_,_,b,rfl,.ty _,vj (W:=Cx.wd X a0) h,kit_ty q,p.ret hr .bl⟩
  ·exact p.elim
 ·split at p
  ·rename_i t q1;split at p
   ·rename_i b q;cases r with
    | cons r t=>
     cases t with
     | cons r' t=>
      cases r'; cases t;exact⟨_,_,_,_,b,rfl,.ty _,.base (i5 hr r q1),kit_ty q,p.ret hr .bl⟩
   ·exact p.elim
  ·exact p.elim
 ·exact p.elim
variable {e:Expr}{es:List Expr}{x:Str}{p pos:Pos}{id T:String}{g:AC}{f:AL}
theorem xR{W:Wd}{σ H Q}(h:d8 W (fun s h=>(f s h).bind g) σ H Q):tCB (dJ W g) (FU W f) σ H Q:=by
 obtain⟨μ,s,ah,hs,hr,p⟩:=h;exact⟨μ,s,ah,hs,hr,(ag.bind p).mono fun xs H1 ⟨μ1,as,h1,e1,hr1,r1,p1⟩=>⟨μ1,as,h1,hr1,r1,p1⟩⟩
theorem bF (hc:CallR X (.builtin id) (dJ (Cx.wd X a0) g)) (hg:Gl X x) (hm:X.mg x=none) (hv:bootBuiltins x=some (.builtin id)) (ha:MA X a0 (e::es) f) (hn:x≠ "__name__") (hdb:(x == ("__debug__" : Str))=false)
  (he:starEach (e::es) X.env=(false,eval e X.env)::starEach es X.env) (hpl:(backTo pos (starEach es X.env)).any (·.1)=false):ME X a0 (.Call (.Name x p) (e::es) [] pos) (fun s h=>(f s h).bind g) :=
 PE.imp (pe_callB hc hg hm hv ha hn hdb he hpl) fun _ _ _ h=>xR h
theorem d3 (hc:CallR X (.type T) (dJ (Cx.wd X a0) g)) (hg:Gl X x) (hm:X.mg x=none) (hv:bootBuiltins x=some (.type T)) (ha:MA X a0 (e::es) f) (hn:x≠ "__name__") (hdb:(x == ("__debug__" : Str))=false)
  (he:starEach (e::es) X.env=(false,eval e X.env)::starEach es X.env) (hpl:(backTo pos (starEach es X.env)).any (·.1)=false):ME X a0 (.Call (.Name x p) (e::es) [] pos) (fun s h=>(f s h).bind g) :=
 PE.imp (pe_callTy hc hg hm hv ha hn hdb he hpl) fun _ _ _ h=>xR h
end
def noStar:Expr→Bool
 | .Starred _ _=>false
 | _=>true
theorem aH{e:Expr}{es:List Expr}{env:Env}(h:noStar e=true):starEach (e::es) env=(false,eval e env)::starEach es env:=by
 cases e<;>first | rfl | (cases h)
theorem bo{pos:Pos}{env:Env}:∀{es:List Expr},es.all noStar=true→(backTo pos (starEach es env)).any (·.1)=false
 | [],_=>rfl
 | e::es,h=>by
  rw[Jt,Ji]at h;rw[aH h.1];show(false || (backTo pos (starEach es env)).any (·.1))=false
  rw[bo h.2]; rfl
theorem hW{pos:Pos}{env:Env}:∀{es:List Expr},es.all noStar=true→(backTo pos (starEach es env)).all (fun x=> !x.1)=true
 | [],_=>rfl
 | e::es,h=>by
  rw[Jt,Ji]at h;rw[aH h.1];show(!false && (backTo pos (starEach es env)).all (fun x=> !x.1))=true
  rw[hW h.2]; rfl
def bx:List Keyword→Option (List Str)
 | []=>some []
 | ⟨some n,_,_⟩::r=>(match bx r with
  | some ns=>some (n::ns)
  | none=>none)
 | ⟨none,_,_⟩::_=>none
theorem eO{pos:Pos}{env:Env}:∀{kws:List Keyword} {ks},bx kws=some ks→
  (backToKw pos (keywordEach kws env)).all (·.1.isSome)=true∧(backToKw pos (keywordEach kws env)).filterMap (·.1)=ks∧(backToKw pos (keywordEach kws env)).any (·.1.isNone)=false
 | [],_,h=>by cases h; exact⟨rfl,rfl,rfl⟩
 | ⟨none,_,_⟩::_,_,h=>by cases h
 | ⟨some n,e,p⟩::r,_,h=>by
  unfold bx at h;split at h
  ·rename_i ns q;cases h;obtain⟨h1,h2,h3⟩:=eO (pos:=pos) (env:=env) q;refine⟨?_, ?_, ?_⟩
   ·show(true && (backToKw pos (keywordEach r env)).all (·.1.isSome))=true
    rw[h1]; rfl
   ·show n::(backToKw pos (keywordEach r env)).filterMap (·.1)=n::ns
    rw[h2]
   ·show(false || (backToKw pos (keywordEach r env)).any (·.1.isNone))=false
    rw[h3]; rfl
  ·cases h
def aC:Expr→Bool
 | .Call (.Name id _) [] [] _=>id != "super"
 | _=>true
theorem a6{o:Expr}{m:Str}{env:Env}{t:Sem Value}(h:aC o=true):attributeBase o m env t=t:=by
 unfold attributeBase;split
 ·rename_i id p1 p2;have h':(id != "super")=true:=h;rw[h'];simp only[Mi,if_true];try rfl
 ·rfl
def aU(apos pos:Pos):Bool:=apos.endLine == pos.line
def dS(args:List Expr)(kws:List Keyword):Bool:=decide (args.length+kws.length+(if kws.isEmpty then 0 else 1)<30)
theorem ij{pos:Pos}{env:Env}{kws:List Keyword}:(backToKw pos (keywordEach kws env)).isEmpty=kws.isEmpty:=by
 cases kws with
 | nil=>rfl
 | cons k r=>obtain⟨_,_,_⟩:=k; rfl
theorem iN{o:Expr}{m:Str}{apos pos:Pos}{env:Env}{args:List Expr}{kws:List Keyword}{ks}(h1:aC o=true)(h2:args.all noStar=true)(h3:bx kws=some ks)(h4:dS args kws=true)(h5:aU apos pos=true) :
  eval (.Call (.Attribute o m apos) args kws pos) env=(do
   let ov ← eval o env
   standAt apos.atName
   let (f,first) ← holding [ov] (getMethod ov m (plainOf o env))
   callWith pos f first (backTo pos (starEach args env)) (backToKw pos (keywordEach kws env))):=by
 have hf:methodCallForm (args.length+kws.length) (backTo pos (starEach args env)) (backToKw pos (keywordEach kws env))=true:=by
  unfold methodCallForm;rw[hW h2,(eO h3).1,ij];exact h4
 have e1:eval (.Call (.Attribute o m apos) args kws pos) env=(do
  let ov ← attributeBase o m env (eval o env)
  standAt apos.atName
  methodCall o m apos pos env ov (args.length+kws.length) (backTo pos (starEach args env)) (backToKw pos (keywordEach kws env))):=by
  first | rfl | (unfold eval; rfl)
 rw[e1,a6 h1];refine congrArg _ (funext fun ov=>congrArg _ (funext fun _=> ?_))
 exact mcall_line hf h5
def il:Expr→Bool
 | .Slice .. => false
 | _=>true
theorem pY{b:Expr}(h:il b=true):PlainIx b:=by
 intro o i;cases b<;>first | rfl | (cases h)
def fX:Expr→Bool
 | .ListComp .. => false
 | .SetComp .. => false
 | .DictComp .. => false
 | _=>true
theorem v9{e:Expr}{t:Option Expr}{l:Nat}{env:Env}(h:fX e=true):swapsWith e t l env=pure false:=by
 cases e<;>first | rfl | (cases h)
def iO:Expr→Bool
 | .UnaryOp .Not _ _=>false
 | .BoolOp .. => false
 | .IfExp .. => false
 | .Compare .. => false
 | _=>true
theorem nF{e:Expr}{env:Env}(h:iO e=true)(whole:Sem Value):isTrue e env whole=(do let v ← whole; standAt e.pos; holding [v] (truthy v)):=by
 cases e<;>first | rfl | (cases h; done) | skip
 rename_i op x p;cases op<;>first | rfl | (cases h)
def ck:Expr→Bool
 | .Set .. => false
 | _=>true
theorem ef{e:Expr}{env:Env}(h:ck e=true)(x:Value):foldedSetIterable e env x=pure x:=by
 cases e<;>first | rfl | (cases h)
section
variable {X:Cx}{a0:Addr}{e o:Expr}{es:List Expr}{pos apos cpos:Pos}
def bT(name:Str)(no:Str→Str→Bool):AV→AH→Ex AV:=fun v h=>match v with
 | .ref n=>(match h.get n with
  | some (.ins C fs)=>if no C name=true then(match fs.lookup name with
   | some v=> .ok v h
   | none=> .stuck)else .stuck
  | _=> .stuck)
 | _=> .stuck
theorem bj.lookup{W μ H}{k:Str}:∀{xs ys},bj W μ H xs ys→(xs.lookup k=none∧ys.lookup k=none)∨∃ v x,xs.lookup k=some v∧ys.lookup k=some x∧Rl W μ H v x
 | _,_,.nil=> .inl ⟨rfl,rfl⟩
 | _,_,.cons (k:=k') (x:=x) (y:=y) r t=>by
  cases h:k == k' with
  | true=>
   right;exact⟨x,y,by simp [Kp,h],by simp [Kp,h],r⟩
  | false=>
   rcases bj.lookup (k:=k) t with ⟨h1,h2⟩ | ⟨v,z,h1,h2,h3⟩
   ·left;simp [Kp,h,h1,h2]
   ·right;exact⟨v,z,by simp [Kp,h,h1],by simp [Kp,h,h2],h3⟩
def iR(K:Jj)(no:Str→Str→Bool):Prop:=∀ C f,no C f=true→Cls K (Jo K C)∧NoAttr K (Jo K C) f
theorem Du{no:Str→Str→Bool}{f:AE}{name:Str}(hk:iR X.K no)(ha:ME X a0 e f)(hs:aC e=true):ME X a0 (.Attribute e name pos) (fun s h=>(f s h).bind (bT name no)) :=
 PE.imp (pe_fld ha (a6 hs)) fun σ H Q ⟨μ,s,ah,hs,hr,p⟩=>⟨μ,s,ah,hs,hr,(ag.bind p).mono fun x H1 ⟨μ1,v,h1,e1,hr1,r1,p1⟩=>by
  unfold bT at p1;split at p1
  ·split at p1
   ·rename_i C fs hg;split at p1
    ·rename_i hno;split at p1
     ·rename_i w hl;obtain⟨a,dx,ys,rfl,_,h2,r2⟩:=hr1.ins hg r1;rcases r2.lookup (k:=name)with ⟨z1,_⟩ | ⟨v',z,z1,z2,rz⟩
      ·rw[z1]at hl; cases hl
      ·rw[z1]at hl; cases hl;exact⟨a,_,dx,ys,z,rfl,h2,(hk C name hno).1,(hk C name hno).2,z2,p1.ret hr1 rz⟩
     ·exact p1.elim
    ·exact p1.elim
   ·exact p1.elim
  ·exact p1.elim⟩
def iu(name:Str)(v:AV):List (Str×AV)→List (Str×AV)
 | []=>[(name,v)]
 | (g,x)::r=>if g=name then(g,v)::r else(g,x)::iu name v r
theorem bj.putF{W μ H}{name:Str}{v x}(r:Rl W μ H v x):∀{xs ys},bj W μ H xs ys→bj W μ H (iu name v xs) (putF name x ys)
 | _,_,.nil=> .cons r .nil
 | _,_,.cons (k:=k') q t=>by
  unfold iu L2.putF;by_cases h:k'=name
  ·rw[if_pos h,if_pos h]; exact .cons r t
  ·rw[if_neg h,if_neg h]; exact .cons q (bj.putF r t)
def mq(name:Str)(no:Str→Str→Bool)(w v:AV)(h:AH):Ex AV:=match v with
 | .ref n=>(match h.get n with
  | some (.ins C fs)=>if no C name=true then(if fs.length<1000 then .ok .non (h.set n (.ins C (iu name w fs)))else .stuck)else .stuck
  | _=> .stuck)
 | _=> .stuck
abbrev AM:=AV→List AV→AH→Ex AV
def eW(W:Wd)(g:AM):V→List V→Hp→VK→Prop:=fun x xs H Q=>∃ μ v as ah,HR W μ ah H∧Rl W μ H v x∧aV W μ H as xs∧bh W μ H (g v as ah) Q
def isStr:AV→AH→Bool:=fun v _=>match v with
 | .str _=>true
 | _=>false
def cJ:AV→AH→Bool:=fun v h=>match v with
 | .ref n=>(match h.get n with
  | some (.lst _)=>true
  | _=>false)
 | _=>false
def rA:AV→AH→Bool:=fun v h=>match v with
 | .ref n=>(match h.get n with
  | some (.bA _)=>true
  | _=>false)
 | _=>false
def qx(W:Wd)(T:String)(t:AV→AH→Bool):Prop:=∀ μ ah H v x,HR W μ ah H→Rl W μ H v x→t v ah=true→tyV W.K T x H
theorem hY {W:Wd}:qx W "str" isStr:=by
 intro μ ah H v x hr r h;unfold isStr at h;split at h
 ·cases r; rfl
 ·cases h
theorem de {W:Wd}:qx W "list" cJ:=by
 intro μ ah H v x hr r h;unfold cJ at h;split at h
 ·split at h
  ·rename_i hg;obtain⟨a,ys,rfl,_,h1,_⟩:=hr.lst hg r;exact .inl ⟨rfl,_,.of h1⟩
  ·cases h
 ·cases h
theorem oA {W:Wd}:qx W "dict" rA:=by
 intro μ ah H v x hr r h;unfold rA at h;split at h
 ·split at h
  ·rename_i hg;obtain⟨a,ys,rfl,_,h1,_⟩:=hr.bA hg r;exact .inr (.inr (.inl ⟨rfl,.inl ⟨_,h1⟩⟩))
  ·cases h
 ·cases h
def mJ(f:AE)(t:AV→AH→Bool)(g:AL)(m:AM):AE:=fun s h=>(f s h).bind fun v h1=>if t v h1=true then(g s h1).bind fun as h2=>m v as h2 else .stuck
theorem Dw{W:Wd}{T:String}{t:AV→AH→Bool}{f:AE}{g:AL}{m:AM}{σ H Q}(hT:qx W T t)(h:d8 W (mJ f t g m) σ H Q):tBM W.K T (eW W m) (d8 W f) (FU W g) σ H Q:=by
 obtain⟨μ,s,ah,hs,hr,p⟩:=h;refine⟨μ,s,ah,hs,hr,(ag.bind p).mono fun x H1 ⟨μ1,v,h1,e1,hr1,r1,p1⟩=> ?_⟩
 split at p1
 ·rename_i ht;refine⟨hT _ _ _ _ _ hr1 r1 ht,μ1,s,h1,hs.ext e1,hr1,(ag.bind p1).mono fun xs H2 ⟨μ2,as,h2,e2,hr2,r2,p2⟩=> ?_⟩
  exact⟨μ2,v,as,h2,hr2,r1.ext e2,r2,p2⟩
 ·exact p1.elim
theorem zP{W:Wd}{T:String}{t:AV→AH→Bool}{f:AE}{m:AM}{σ H Q}(hT:qx W T t)(h:d8 W (mJ f t (fun _ h=> .ok [] h) m) σ H Q):tBM0 W.K T (eW W m) (d8 W f) σ H Q:=by
 obtain⟨μ,s,ah,hs,hr,p⟩:=h;refine⟨μ,s,ah,hs,hr,(ag.bind p).mono fun x H1 ⟨μ1,v,h1,e1,hr1,r1,p1⟩=> ?_⟩
 split at p1
 ·rename_i ht;exact⟨hT _ _ _ _ _ hr1 r1 ht,μ1,v,[],h1,hr1,r1,.nil,p1⟩
 ·exact p1.elim
theorem iy {T id:String} {name:Str} {t:AV→AH→Bool} {f:AE} {g:AL} {m:AM} (pa:PlainAttrs T) (slot:Slot T name id) (hty:typeOf (.builtin id)=pure (.type "method_descriptor")) (hm:MtR X id (eW (Cx.wd X a0) m)) (hT:qx (Cx.wd X a0) T t) (ho:ME X a0 o f) (ha:MA X a0 (e::es) g)
  (h1:aC o=true) (h2:(e::es).all noStar=true) (h4:dS (e::es) []=true) (h5:aU apos cpos=true):ME X a0 (.Call (.Attribute o name apos) (e::es) [] cpos) (mJ f t g m):=by
 have h2':=h2;rw[Jt,Ji]at h2';exact PE.imp (pe_bm pa slot hty hm ho ha (a6 h1) (by rw[hW h2]; exact h4) h5 (aH h2'.1) (bo h2'.2)) fun _ _ _ h=>Dw hT h
theorem mN {T id:String} {name:Str} {t:AV→AH→Bool} {f:AE} {m:AM} (pa:PlainAttrs T) (slot:Slot T name id) (hty:typeOf (.builtin id)=pure (.type "method_descriptor")) (hm:MtR X id (eW (Cx.wd X a0) m)) (hT:qx (Cx.wd X a0) T t) (ho:ME X a0 o f)
  (h1:aC o=true) (h5:aU apos cpos=true):ME X a0 (.Call (.Attribute o name apos) [] [] cpos) (mJ f t (fun _ h=> .ok [] h) m) :=
 PE.imp (pe_bm0 pa slot hty hm ho (a6 h1) h5) fun _ _ _ h=>zP hT h
theorem cU{id:String}{r r':V→List V→Hp→VK→Prop}(h:MtR X id r)(hi:∀ x xs H Q,r' x xs H Q→r x xs H Q):MtR X id r':=fun pins s σ H x xs v us Q I rx rv q=>h pins s σ H x xs v us Q I rx rv (hi x xs H Q q)
theorem dH{W:Wd}{μ H ah n xs ys as ys'}{a:Addr}(hr:HR W μ ah H)(hg:ah.get n=some (.lst xs))(hn:μ[n]? = some a)(h1:H a=some (.lst ys))(r1:aV W μ H xs ys)(r:aV W μ H as ys') :
  Ext W μ H μ (upd H a (.lst ys'))∧HR W μ (ah.set n (.lst as)) (upd H a (.lst ys')):=by
 have o0:OR W μ H (.lst xs) a:=⟨ys,h1,r1⟩;have e:Ext W μ H μ (upd H a (.lst ys')):=Ext.ee o0;exact⟨e,hr.set hg hn ⟨_,upd_same,r.ext e⟩⟩
theorem je{W:Wd}{μ H ah n xs ys as ys'}{a:Addr}(hr:HR W μ ah H)(hg:ah.get n=some (.bA xs))(hn:μ[n]? = some a)(h1:H a=some (.dK ys))(r1:bj W μ H xs ys)(r:bj W μ H as ys') :
  Ext W μ H μ (upd H a (.dK ys'))∧HR W μ (ah.set n (.bA as)) (upd H a (.dK ys')):=by
 have o0:OR W μ H (.bA xs) a:=⟨ys,h1,r1⟩;have e:Ext W μ H μ (upd H a (.dK ys')):=Ext.ee o0;exact⟨e,hr.set hg hn ⟨_,upd_same,r.ext e⟩⟩
def iJ:AM:=fun v as h=>match v,as with
 | .ref n,[w]=>(match h.get n with
  | some (.lst xs)=>if xs.length<sizeLine then .ok .non (h.set n (.lst (xs++[w])))else .stuck
  | _=> .stuck)
 | _,_=> .stuck
theorem pS:MtR X "list.append" (eW (Cx.wd X a0) iJ):=cU mt_append fun x xs H Q ⟨μ,v,as,ah,hr,rv,ra,p⟩=>by
 unfold iJ at p;split at p
 ·split at p
  ·rename_i zs hg;split at p
   ·rename_i hl;cases ra with
    | cons rw' t=>
     cases t;obtain⟨a,ys,rfl,hn,h1,r1⟩:=hr.lst hg rv;obtain⟨e,hr'⟩:=dH (as:=zs++[_]) hr hg hn h1 r1 (r1.append (.cons rw' .nil));exact⟨a,ys,_,rfl,rfl,h1,r1.length ▸ hl,p _ _ _ e hr' .non⟩
   ·exact p.elim
  ·exact p.elim
 ·exact p.elim
def wo:AM:=fun v as h=>match v,as with
 | .ref n,[]=>(match h.get n with
  | some (.lst xs)=>(match xs[xs.length - 1]? with
   | some w=> .ok w (h.set n (.lst xs.dropLast))
   | none=> .stuck)
  | _=> .stuck)
 | _,_=> .stuck
theorem aV.dropLast{W μ H xs ys}(r:aV W μ H xs ys):aV W μ H xs.dropLast ys.dropLast:=by
 rw[Lw,Lw,r.length];exact r.take _
theorem xH:MtR X "list.pop" (eW (Cx.wd X a0) wo):=cU mt_pop fun x xs H Q ⟨μ,v,as,ah,hr,rv,ra,p⟩=>by
 unfold wo at p;split at p
 ·split at p
  ·rename_i zs hg;split at p
   ·rename_i w hw;cases ra;obtain⟨a,ys,rfl,hn,h1,r1⟩:=hr.lst hg rv;obtain⟨y,hy,ry⟩:=r1.get hw;obtain⟨e,hr'⟩:=dH hr hg hn h1 r1 r1.dropLast;exact⟨a,ys,y,rfl,rfl,h1,r1.length ▸ hy,p _ _ _ e hr' (ry.ext e)⟩
   ·exact p.elim
  ·exact p.elim
 ·exact p.elim
def qC:AM:=fun v as h=>match v,as with
 | .ref n,[.int i]=>(match h.get n with
  | some (.lst xs)=>if decide (-(2 ^ 63)≤i) && decide (i<2 ^ 63)then(match seqIndex? i xs.length with
   | some k=>(match xs[k]? with
    | some w=> .ok w (h.set n (.lst (xs.eraseIdx k)))
    | none=> .stuck)
   | none=> .stuck)else .stuck
  | _=> .stuck)
 | _,_=> .stuck
theorem aV.erase{W μ H}:∀{xs ys} (i:Nat),aV W μ H xs ys→aV W μ H (xs.eraseIdx i) (ys.eraseIdx i)
 | _,_,_,.nil=> .nil
 | _,_,0,.cons _ t=>t
 | _,_,i+1,.cons r t=> .cons r (aV.erase i t)
theorem sZ:MtR X "list.pop" (eW (Cx.wd X a0) qC):=cU mt_popAt fun x xs H Q ⟨μ,v,as,ah,hr,rv,ra,p⟩=>by
 unfold qC at p;split at p
 ·split at p
  ·rename_i zs hg;split at p
   ·rename_i hb;rw[Ji]at hb;split at p
    ·rename_i k hk;split at p
     ·rename_i w hw;cases ra with
      | cons q t=>
       cases q; cases t;obtain⟨a,ys,rfl,hn,h1,r1⟩:=hr.lst hg rv;obtain⟨y,hy,ry⟩:=r1.get hw;obtain⟨e,hr'⟩:=dH hr hg hn h1 r1 (r1.erase k);exact⟨a,ys,_,k,y,rfl,rfl,h1,of_decide_eq_true hb.1,of_decide_eq_true hb.2,r1.length ▸ hk,hy,p _ _ _ e hr' (ry.ext e)⟩
     ·exact p.elim
    ·exact p.elim
   ·exact p.elim
  ·exact p.elim
 ·exact p.elim
end
end WC
namespace WC
open PySem PySem.Spec PyProof.Rows L2
structure Rm(k:Nat)(A:Around):Prop where
 r:Room k A
 g:A.guards=some []
theorem Rm.deeper{k:Nat}{A:Around}(h:Rm (k+1) A)(env:Env):Rm k (A.deeper env):=⟨h.r.deeper env,h.g⟩
theorem oz {A:Around} {C:Addr} {us:List Value} {kw:List (Str×Value)}:(A.under (.builtin "type.__call__" ⟨.ref C::us,kw⟩)).guards=A.guards:=by
 first | rfl | simp [Around.under,Code.guards,Code.isGuard,guardIds,pushGuards]
theorem Rm.make {k:Nat} {A:Around} (h:Rm (k+1) A) (C:Addr) (us:List Value) (kw:List (Str×Value)):Rm k (A.under (.builtin "type.__call__" ⟨.ref C::us,kw⟩)) :=
 ⟨h.r.make C us kw,oz.trans h.g⟩
structure nW(P:Program)(w:World)(K:Jj)(mg:Str→Option Value)(base:Heap)(CX:CXT)(k:Nat)(f:Addr)(fd:FuncData)(ps:List Str)(sp:Sp):Prop where
 len:∀ vs H Q E,sp vs H Q E→vs.length=ps.length
 run:∀(A:Around) (outer:List Env) (s:Shared) (H:Hp) (args:Args) (us:List Value) (vs:List V) (Q:VK) (E:XK),
  Rm k A→Env0 P w K mg base A outer s H→BindsTo s fd args (ps.zip us)→Vals vs us→sp vs H Q E→codeAny (model P w) A (.call (.ref f) args) (CR CX outer P w H s Q E) s
section
variable {P:Program}{w:World}{K:Jj}{mg:Str→Option Value}{base:Heap}{CX:CXT}{k n:Nat}{f:Addr}{fd:FuncData}{ps ks N:List Str}{sp:Sp}
theorem Dg{name qual:Str}{params:Arguments}{body:List Stmt}{scope:Scope}{dvs:List V}{kws:List (Str×V)}(F:FunD K name qual params body scope dvs kws f fd)(S:FnScope N ps scope)(len:∀ vs H Q E,sp vs H Q E→vs.length=ps.length)
  (hb0:∀(cdv:Value) (A:Around) (outer:List Env) (s:Shared) (H:Hp) (vs:List V) (Q:VK) (E:XK),Rm k (A.deeper (envOfC qual scope s.heap.objs.size f cdv))→sp vs H Q E→
   ∃ t,PSs (cxOf CX P w K mg base N qual scope f cdv A outer s H E) body t∧t { nx:=fun _ H'=>Q .non H',rt:=Q } (start N vs) H):nW P w K mg base CX (k+1) f fd ps sp:=by
 obtain⟨oc,od,dV,kV,doc,pm,an,cdv,ct,osl,rfl,lk,hcd,_,_⟩:=F.ex;constructor
 ·exact len
 ·intro A outer s H args us vs Q E room e0 hbind r hsp;have nps:=len _ _ _ _ hsp;have pL:K.In s.heap:=e0.mod.kin.keeps fun b o e=>(e0.bs b o e).1
  have noLim:s.heap.NoLimit:=e0.mod.nolimit.keeps fun b o e=>(e0.bs b o e).1
  have kinds:∀ y∈ps.zip us,scope.names.lookup y.1=some .local∨(scope.names.lookup y.1=some .cell∧((cellsFrom (s.heap.objs.size+1) scope.names []).lookup y.1).isSome=true):=by
   rintro⟨nm,v⟩ hy;rcases S.par nm (KY hy).1 with q | q
   ·left;exact q
   ·right;exact⟨q,PySem.W.cellsFrom_some _ _ _ (.inl q)⟩
  refine codeAny_call_function room.r.depth (pL _ _ lk) rfl S.co S.gen rfl (K6 pL hcd) (hbind _ _ _ _ (wpAny_newFunctionEnv_cells S.kind kinds fun env he s1 x=> ?_))
  subst he;refine⟨noLim.keeps x.toInCall.keep,codeAny_func ?_⟩;obtain⟨t,ht,hq⟩:=hb0 cdv A outer s H vs Q E (room.deeper _) hsp;have I0:Inv (cxOf CX P w K mg base N qual scope f cdv A outer s H E) [] (start N vs) H s1:=inv_start S room.r.hd e0 nps r x;refine wpAny_mono (ht.run [] s1 (start N vs) H _ I0 hq) ?_ (fun e s' hs=>hs)
  have close:∀{σ':KJ} {H':Hp} {v:V} {u:Value} {s':Shared},Inv (cxOf CX P w K mg base N qual scope f cdv A outer s H E) [] σ' H' s'→RelV v u→Q v H'→CE outer P w H s Q u s':=by
   intro σ' H' v u s' J rv q;exact⟨v,H',J.os,J.bare,J.base,J.hok,rv,q⟩
  intro fl s' hs;cases fl with
  | next=>
   obtain⟨σ',H',J,q⟩:=hs;exact close (v:=V.non) (u:=Value.none) J rfl q
  | ret u=>
   obtain⟨v,σ',H',J,rv,q⟩:=hs;exact close J rv q
  | brk=>exact hs.elim fun _ z=>z.elim fun _ z=>z.2.elim
  | cont=>exact hs.elim fun _ z=>z.elim fun _ z=>z.2.elim
end
section
variable {X:Cx}{CX:CXT}{k n:Nat}{f C:Addr}{fd:FuncData}{ps ks:List Str}{sp:Sp}{E:XK}{g:List Value→List Value→List Value}{gV:List V→List V→List V}{pins:List (Addr×Obj)}{σ:KJ}{H:Hp}{s:Shared}{Q:VK}{us ws:List Value}{vs zs:List V}
theorem Am(F:nW X.prog X.w X.K X.mg X.base CX k f fd ps sp)(hr:Rm k X.A)(hb:KBn X.K fd ps n ks g gV)(hx:Passes CX X E)(I:Inv X pins σ H s)(r:Vals vs us)(rz:Vals zs ws)(l1:vs.length=n)(l2:zs.length=ks.length)(h:sp (gV vs zs) H Q E) :
  wpAny (model X.prog X.w) X.A (call (.ref f) us (ks.zip ws)) (EP X pins σ Q) X.xe s:=by
 have bound:=hb.to s us ws I.kIn (r.length.symm.trans l1) (rz.length.symm.trans l2);refine wpAny_call (codeAny_mono (F.run X.A X.stack s H _ _ _ Q E hr I.env0 bound (hb.rel r rz) h) ?_);rintro(e | fl) s' hq
 ·exact hx pins σ H s e s' I hq
 ·cases fl<;>first | exact I.after hq | exact JQ hq
theorem tp(M:Mk X.K C f)(F:nW X.prog X.w X.K X.mg X.base CX k f fd ps sp)(hr:Rm (k+1) X.A)(hb:KBn X.K fd ps (n+1) ks g gV)(hx:Passes CX X E)(I:Inv X pins σ H s)(r:Vals vs us)(rz:Vals zs ws)(l1:vs.length=n)(l2:zs.length=ks.length)
  (h:∀ x dx,H x=none→H dx=none→dx≠x→sp (gV (.ref x::vs) zs) (upd (upd H dx (.own x)) x (.ins C dx [])) (fun v H2=>v = .non∧Q (.ref x) H2) E):wpAny (model X.prog X.w) X.A (call (.ref C) us (ks.zip ws)) (EP X pins σ Q) X.xe s:=by
 let p:=s.heap.objs.size
 have hq:=h (p+1) p (I.hok.fresh (Lf _)) (I.hok.fresh (Jw _)) (Jx (Jy _));have J:=Inv.made (C:=C) I;have r1:Vals (V.ref (p+1)::vs) (Value.ref (p+1)::us):=.cons rfl r;have n1:(Value.ref (p+1)::us).length=n+1:=congrArg Nu (r.length.symm.trans l1);have bound:=hb.to _ (Value.ref (p+1)::us) ws J.kIn n1 (rz.length.symm.trans l2);have inner:=F.run _ X.stack _ _ _ _ _ _ E (hr.make C us (ks.zip ws)) (J.env0.make C us (ks.zip ws)) bound (hb.rel r1 rz) hq;refine wpAny_call (make_map (f:=f) I.kIn M.makes M.init (beq_iff_eq.mp M.fn) (codeAny_mono inner ?_));rintro(e | fl) s' hs
 ·exact hx pins σ _ _ e s' J hs
 ·cases fl with
  | ret u=>
   obtain⟨v,H',I3,rv,ev,q3⟩:=J.after hs;subst ev;exact⟨rv,⟨V.ref (p+1),H',I3,rfl,q3⟩⟩
  | _=>exact JQ hs
end
theorem ly:callerA.guards=some []:=rfl
theorem th{k:Nat}(h:Room k callerA):Rm k callerA:=⟨h,ly⟩
def vA(s₁:Shared)(r:Result)(s':Shared):Prop:=r = .ok (.ret (.bool true))∧OldK s₁.heap s'.heap∧s'.os=s₁.os∧AllBare s'.gens
theorem zS{P:Program}{w:World}{K:Jj}{mg mb:Str→Option Value}{CX:CXT}{k:Nat}{fa a:Addr}{fd:FuncData}{x:Str}{sp:Sp}{s₁:Shared}{o1:Obj}{it1:Array Value}{nn:Nat}{H:Hp}(KX:K.In s₁.heap)(hns:s₁.heap.Ns mainGlobals mg)(hb:s₁.heap.Ns builtinsNs mb)
  (hbb:∀ x:Str,x≠ "__name__" → mb x=bootBuiltins x) (hlim:s₁.heap.NoLimit) (hg:s₁.gens = #[]) (ha:s₁.heap.get? a=some o1) (hd1:o1.data = .seq it1 nn) (hr:Room k callerA) (F:∀ base:Heap,K.In base→base.Ns mainGlobals mg→nW P w K mg base CX k fa fd [x] sp)
  (hbind:∀(s:Shared) (u:Value),BindsTo s fd ⟨[u],[]⟩ [(x,u)]) (hsp:sp [.ref a] H (fun v _=>v = .bl true) fun _ _ _=>False) (hCX:∀ e s',CX [] H s₁ (fun _ _ _=>False) e s'→False) (hO:Only H) (hok:HOk P w H s₁.heap) (hA:∀ b,H b≠none→b=a) (hK:H a≠none→K.lookup a=none) :
  codeAny (model P w) callerA (.call (.ref fa) ⟨[.ref a],[]⟩) (vA s₁) s₁:=by
 have up:∀{b:Addr} {o:Obj},s₁.heap.get? b=some o→H b=none→(hidT s₁.heap H).get? b=some o:=fun e z=>hidT_get e z
 have nd:∀{b:Addr} {o:Obj} {es:Array DictEntry} {ep:Nat},s₁.heap.get? b=some o→o.data = .dict es ep→H b=none:=by
  intro b o es ep e d;refine Kv fun q=> ?_
  obtain rfl:=hA b q;rw[ha]at e;cases e;rw[hd1]at d;cases d
 have ns2:∀{b:Addr} {m:Str→Option Value},s₁.heap.Ns b m→(hidT s₁.heap H).Ns b m:=by
  rintro b m ⟨o,es,ep,e,d,r⟩;exact⟨o,es,ep,up e (nd e d),d,r⟩
 have k2:K.In (hidT s₁.heap H):=by
  intro b o e;refine up (KX b o e) (Kv fun q=> ?_)
  obtain rfl:=hA b q;rw[hK q]at e;cases e
 have md:Mod K mg (hidT s₁.heap H):=by
  refine⟨k2,ns2 hns,⟨mb,ns2 hb,hbb⟩, ?_⟩;obtain⟨mc,h1,h2⟩:=hlim;exact⟨mc,ns2 h1,h2⟩
 have e0:Env0 P w K mg (hidT s₁.heap H) callerA [] s₁ H :=
  { frames:=rfl,mod:=md,bs:=fun b o e=>of_hidT e,bsz:=Mj (hidT_size _ _),funs:=trivial,frf:=fun b z=>absurd z Kl,hok:=hok,bare:=.of_eq hg }
 have body:=(F _ k2 (ns2 hns)).run callerA [] s₁ H ⟨[.ref a],[]⟩ [.ref a] [.ref a] _ _ (th hr) e0 (hbind s₁ (.ref a)) (.cons rfl .nil) hsp;refine codeAny_mono body ?_;rintro(e | fl) s' h
 ·exact(hCX e s' h).elim
 ·cases fl with
  | ret u=>
   obtain⟨v,H',os,bare,un,hok',r',q⟩:=h;obtain rfl:v = .bl true:=q;obtain rfl:u=Value.bool true:=r';refine⟨rfl,OldK.of_keep ?_,os,bare⟩;intro b o e;rcases hO b with z | ⟨ob,xs,z⟩
   ·exact un.keep b o e z (fun y=>absurd y Kl) (by simp)
   ·obtain⟨e1,_⟩:=hok b _ z;obtain⟨e2,_⟩:=hok' b _ (un.frzs b ob _ z);rw[e]at e1;cases e1;exact e2
  | _=>exact JQ h
theorem xf{l:PySem.W.OpenLaw}{n k:Nat}{q:Program}{loose:List Str}{XP:(Str→Option Value)→Heap→Prop}{YP:World→Heap→Prop}{d:DefRec}{CX:CXT}{x:Str}(hn:l.most=some n)(hn2:n≤sizeLine)(hdf:d.params.defaults=[])(hr:Room k callerA)
  (F:∀(w:World) (mg:Str→Option Value) (fa:Addr) (h:Heap),YP w h→h.Ns mainGlobals mg→mg d.name=some (.ref fa)→∃(K:Jj) (fd:FuncData) (sp:Sp),K.In h∧(∀(s:Shared) (u:Value),BindsTo s fd ⟨[u],[]⟩ [(x,u)])∧
    (∀(H:Hp) (a:Addr) (ns:List Int),ns.length≤n→Only H→SqL K H a (ns.map V.int)→sp [.ref a] H (fun v _=>v = .bl true) fun _ _ _=>False)∧∀ base:Heap,K.In base→base.Ns mainGlobals mg→nW l.prog w K mg base CX k fa fd [x] sp)
  (hCX:∀(H:Hp) (s:Shared) (e:Value) (s':Shared),CX [] H s (fun _ _ _=>False) e s'→False):PySem.W.WalkO q loose XP YP l.row.toRowW d [] (fun f vs=>PySem.call f vs):=by
 refine Att.attach_call hn hdf ?_;intro w s₀ s₁ mg mb fa o pm cd doc a vs ns G Y ho hd hcd hmg hobj hints hlen hg;obtain⟨K,fd,sp,KX,hb,hsp,hF⟩:=F w mg fa _ Y G.T.g hmg;have rv:=vals_ints hints;have hz:ns.length≤sizeLine:=Js hlen hn2;have go:∀ H:Hp,Only H→SqL K H a (ns.map V.int)→HOk l.prog w H s₁.heap→(∀ b,H b≠none→b=a)→(H a≠none→K.lookup a=none)→codeAny (model l.prog w) callerA (.call (.ref fa) ⟨[.ref a],[]⟩) (vA s₁) s₁:=fun H hO hS hok hA hK=>
  zS KX G.T.g G.T.b G.T.builtins G.T.nolimit hg hobj rfl hr hF hb (hsp H a ns hlen hO hS) (fun e s'=>hCX H s₁ e s') hO hok hA hK
 cases hk:K.lookup a with
 | some ob=>
  have e:=KX a ob hk;rw[hobj]at e;cases e;have size:vs.toArray.size≤sizeLine:=by
   rw[Kg,hints.length];exact hz
  refine go (fun _=>none) (fun _=> .inl rfl) (.inr ⟨_,vs.toArray,_,hk,rfl,rfl,rfl,size,by simpa using rv⟩) ?_ (fun b z=>absurd rfl z) (fun z=>absurd rfl z)
  intro b u z;cases (show(none:Option HO)=some u from z)
 | none=>
  let O:HO:=.frz { cls:=.type "list",data:=.seq vs.toArray } (.lst (ns.map V.int))
  refine go (fun b=>if b=a then some O else none) ?_ (.inl (.inr ⟨{ cls:=.type "list",data:=.seq vs.toArray },if_pos rfl⟩)) ?_ ?_ (fun _=>hk)
  ·intro b;by_cases e:b=a
   ·exact .inr ⟨_,_,if_pos e⟩
   ·exact .inl (if_neg e)
  ·intro b u z;by_cases e:b=a
   ·have y:=(if_pos e).symm.trans z;cases y;subst e;exact⟨hobj,by rw[Jq]; exact hz,vs,_,rv,hobj⟩
   ·have y:=(if_neg e).symm.trans z;cases y
  ·intro b z;exact Kv fun e=>z (if_neg e)
def eC:Key→PyData
 | .inl i=> .int i
 | .inr x=> .str x
def CU(h:AH)(v:AV):Option PyData:=match bJ iL h v with
 | some d=>some d
 | none=>match v with
  | .ref n=>(match h.get n with
   | some (.bA kvs)=>(match cQ iL h (kvs.map (·.2))with
    | some ds=>some (.dict ((kvs.map fun p=>eC p.1).zip ds))
    | none=>none)
   | _=>none)
  | _=>none
def sg(h:AH):List AV→Option (List PyData)
 | []=>some []
 | v::r=>match CU h v,sg h r with
  | some d,some ds=>some (d::ds)
  | _,_=>none
def kI(d:PyData):Bool:=!d.hasDict || (match d with
 | .dict kvs=> !PyData.hasDictAll (kvs.map (·.2))
 | _=>false)
def sA(ds:List PyData):Bool:=(PyData.list ds).showable && ds.all kI && decide ((PyData.list ds).depth≤100) && decide ((PyData.list ds).shown.length≤1000000)
def qf:AC:=fun as h=>match as with
 | [.ref n]=>(match h.get n with
  | some (.lst (x::xs))=>(match sg h (x::xs)with
   | some ds=>if sA ds=true then .ok (.str (PyData.list ds).shown) h else .stuck
   | none=> .stuck)
  | _=> .stuck)
 | _=> .stuck
section
variable {prog:Program}{w:World}{h₀:Heap}
def Itm(prog:Program)(w:World)(h₀:Heap)(u:Value)(d:PyData):Prop:=∃ as bs,Reads h₀ u d as∧ReadAtMost h₀ d.depth bs∧ReprK prog w bs h₀ d.depth u d.shown
theorem Itm.plain{u:Value}{d:PyData}{as:List Addr}(r:Reads h₀ u d as)(hs:d.showable=true)(hd:d.hasDict=false)(hz:d.shown.length≤sizeLine):Itm prog w h₀ u d:=by
 obtain⟨bs,hb,hk⟩:=ReprK.of_reads (prog:=prog) (w:=w) r hs (PyData.noDict_hsm hd) hz;exact⟨as,bs,r,hb,hk⟩
theorem Itm.dict {a:Addr} {o:Obj} {es:Array DictEntry} {n:Nat} {kvs:List (PyData×PyData)} {as bs:List Addr} (h1:h₀.get? a=some o) (h2:o.cls = .type "dict") (h3:o.data = .dict es n) (h4:ReadsAll h₀ (es.toList.map (·.key)) (kvs.map (·.1)) as)
  (h5:ReadsAll h₀ (es.toList.map (·.val)) (kvs.map (·.2)) bs) (hsys:(a == sysModules)=false) (hs:(PyData.dict kvs).showable=true) (hd1:PyData.hasDictAll (kvs.map (·.1))=false) (hd2:PyData.hasDictAll (kvs.map (·.2))=false) (hz:(PyData.dict kvs).shown.length≤sizeLine):Itm prog w h₀ (.ref a) (.dict kvs):=by
 have hz':(dictText (PyData.shownKv kvs)).length≤sizeLine:=by simpa only[PyData.shown]using hz
 obtain⟨hs1,hs2⟩:=PyData.showableKv_split kvs (by simpa [PyData.showable]using hs)
 obtain⟨b1,hb1,k1⟩:=ReprAllK.of_readsAll (prog:=prog) (w:=w) h4 hs1 (fun z=>by rw[hd1]at z; cases z) (fun t ht=>let ⟨p,hp,hl⟩:=PyData.shownKv_key_le kvs t ht; Js hl (Js (dictText_mem_le hp) hz'))
 obtain⟨b2,hb2,k2⟩:=ReprAllK.of_readsAll (prog:=prog) (w:=w) h5 hs2 (fun z=>by rw[hd2]at z; cases z) (fun t ht=>let ⟨p,hp,hl⟩:=PyData.shownKv_val_le kvs t ht; Js hl (Js (dictText_mem_le hp) hz'))
 have r:Reads h₀ (.ref a) (.dict kvs) _:=.dict h1 h2 h3 h4 h5;have hb:ReadAtMost h₀ (PyData.depthKv kvs) (b1++b2):=(hb1.mono (PyData.depthAll_keys_le kvs)).append (hb2.mono (PyData.depthAll_vals_le kvs));have hna:a∉b1++b2:=not_mem_of_deeper r (by simp only[PyData.depth]; omega) hb
 refine⟨_,a::(b1++b2),r,ReadAtMost.cons r (by simp only[PyData.depth]; omega) hb, ?_⟩
 simp only[PyData.depth,PyData.shown,PyData.shownKv_eq]
 exact ReprK.dict h1 h2 h3 hsys hna (ReprEntriesK.of_two es.toList _ _
  (k1.more_le (fun b hb=>J2 _ hb) (PyData.depthAll_keys_le kvs)) (k2.more_le (fun b hb=>JB _ hb) (PyData.depthAll_vals_le kvs)))
inductive pP(prog:Program)(w:World)(h₀:Heap):List Value→List PyData→Prop
 | nil:pP prog w h₀ [] []
 | cons {u us d ds}:Itm prog w h₀ u d→pP prog w h₀ us ds→pP prog w h₀ (u::us) (d::ds)
theorem pP.all{us:List Value}{ds:List PyData}(h:pP prog w h₀ us ds):∃ as bs,ReadsAll h₀ us ds as∧ReadAtMost h₀ (PyData.depthAll ds) bs∧ReprAllK prog w bs h₀ (PyData.depthAll ds) us (PyData.shownAll ds):=by
 induction h with
 | nil=>exact⟨[],[],.nil,(fun _ h=>nomatch h),.nil⟩
 | @cons u us d ds h _ ih=>
  obtain⟨as,b1,r,hb1,k1⟩:=h;obtain⟨as2,b2,r2,hb2,k2⟩:=ih;refine⟨_,b1++b2,.cons r r2, ?_, ?_⟩
  ·intro b hm;simp only[PyData.depthAll];rcases KZ.mp hm with hm | hm
   ·obtain⟨d',as',r',hd'⟩:=hb1 b hm;exact⟨d',as',r',Js hd' (Mt _ _)⟩
   ·obtain⟨d',as',r',hd'⟩:=hb2 b hm;exact⟨d',as',r',Js hd' (Mn _ _)⟩
  ·simp only[PyData.depthAll,PyData.shownAll];exact .cons ((k1.more fun b hb=>J2 _ hb).level_le (Mt _ _)) (k2.more_le (fun b hb=>JB _ hb) (Mn _ _))
theorem qp {A:Around} {E:Value→Shared→Prop} {s:Shared} {Q:Value→Shared→Prop} {a:Addr} {o:Obj} {n:Nat} {x:Value} {l:List Value} {ds:List PyData} (h1:s.heap.get? a=some o) (h2:o.cls = .type "list") (h3:o.data = .seq (x::l).toArray n) (hi:pP prog w s.heap (x::l) ds)
  (hg:A.guards=some []) (hu:A.units+((PyData.list ds).depth+1)<cLine) (hz:(PyData.list ds).shown.length≤sizeLine)
  (hQ:∀ h' u tk,(∀ b o,s.heap.get? b=some o→h'.get? b=some o)→Q (.str (PyData.list ds).shown u) { s with heap:=h',toks:=tk }):wpAny (model prog w) A (call (.builtin "repr") [.ref a]) Q E s:=by
 obtain⟨as,bs,r,hb,hk⟩:=hi.all;have hz':(listText (PyData.shownAll ds)).length≤sizeLine:=by simpa only[PyData.shown]using hz
 have rr:Reads s.heap (.ref a) (.list ds) _:=.list h1 h2 h3 (by simpa using r)
 have hna:a∉bs:=not_mem_of_deeper rr (by simp only[PyData.depth]; omega) hb
 simp only[PyData.depth]at hu;simp only[PyData.shown]at hQ;refine call_repr_slot (by omega) ⟨o,h1,h2⟩ F.slot_list_repr.toG ?_
 exact call_list_reprK h1 h2 h3 hna (by simpa using hk.length_eq) (fun i y e=>hk.item i y (by simpa using e)) hg (fun b _=>Clear.nil b) (by show A.units+1+_<cLine; omega) (fun _ _ e=>e) (fun h' u tk hk=>⟨_,_,rfl,hQ h' u tk hk⟩) hz'
end
section
variable {X:Cx}{a0:Addr}{pins:List (Addr×Obj)}{σ:KJ}{H:Hp}{s:Shared}{μ:List Addr}{ah:AH}
theorem mu:∀{es:List DictEntry} {kvs:List (Key×Value)},Pairs (mixKind X.prog X.w) es kvs→∃ as,ReadsAll s.heap (es.map (·.key)) (kvs.map fun p=>eC p.1) as
 | _,_,.nil=>⟨_,.nil⟩
 | _,_,.cons h1 _ t=>by
  obtain⟨as,r⟩:=mu t;rcases keyIs_shape h1 with ⟨i,t',e1,e2⟩ | ⟨x,t',e1,e2⟩
  ·exact⟨_,(.cons (by show Reads s.heap (DictEntry.key _) (eC (Nv _)) _; rw[e1,e2]; exact Reads.int i t') r)⟩
  ·exact⟨_,(.cons (by show Reads s.heap (DictEntry.key _) (eC (Nv _)) _; rw[e1,e2]; exact Reads.str x t') r)⟩
theorem mE(I:Inv X pins σ H s):∀{es:List DictEntry} {kvs:List (Key×Value)} {ys:List (Key×V)} {ds:List PyData},Pairs (mixKind X.prog X.w) es kvs→KV ys kvs→DpAll X.K H (ys.map (·.2)) ds→∃ as,ReadsAll s.heap (es.map (·.val)) ds as
 | _,_,_,_,.nil,.nil,h=>by
  cases h;exact⟨_,.nil⟩
 | _,_,_,_,.cons _ h2 t,.cons h3 t3,h=>by
  cases h with
  | cons h4 t4=>
   obtain⟨as,r⟩:=mE I t t3 t4;obtain⟨bs,q⟩:=Dp.reads I _ _ _ h4 h3.2;exact⟨_,.cons (by show Reads s.heap (DictEntry.val _) _ _; rw[h2]; exact q) r⟩
theorem sR:∀{ys:List (Key×V)} {kvs:List (Key×Value)},KV ys kvs→ys.map (fun p=>eC p.1)=kvs.map fun p=>eC p.1
 | _,_,.nil=>rfl
 | _,_,.cons h t=>by rw[JU,JU,h.1,sR t]
theorem pG{W:Wd}:∀{xs:List (Key×AV)} {ys:List (Key×V)},bj W μ H xs ys→xs.map (fun p=>eC p.1)=ys.map fun p=>eC p.1
 | _,_,.nil=>rfl
 | _,_,.cons _ t=>by rw[JU,JU,pG t]
theorem nZ{W:Wd}:∀{xs:List (Key×AV)} {ys:List (Key×V)},bj W μ H xs ys→aV W μ H (xs.map (·.2)) (ys.map (·.2))
 | _,_,.nil=> .nil
 | _,_,.cons h t=> .cons h (nZ t)
theorem eY:∀ kvs:List (Key×Value),PyData.hasDictAll (kvs.map fun p=>eC p.1)=false
 | []=>rfl
 | (.inl i,v)::r=>by rw[JU]; simp only[eC,PyData.hasDictAll,PyData.hasDict,MH]; exact eY r
 | (.inr x,v)::r=>by rw[JU]; simp only[eC,PyData.hasDictAll,PyData.hasDict,MH]; exact eY r
theorem mG{K:Jj}:∀{vs:List V} {ds:List PyData},DpAll K H vs ds→vs.length=ds.length
 | _,_,.nil=>rfl
 | _,_,.cons _ t=>by rw[Jn,Jn,mG t]
theorem vy:∀{ys:List (Key×V)} {kvs:List (Key×Value)},KV ys kvs→ys.length=kvs.length
 | _,_,.nil=>rfl
 | _,_,.cons _ t=>by rw[Jn,Jn,vy t]
theorem CO(I:Inv X pins σ H s)(hr:HR (Cx.wd X a0) μ ah H){v:AV}{x:V}{u:Value}{d:PyData}(r:Rl (Cx.wd X a0) μ H v x)(e:CU ah v=some d)(ru:RelV x u)(hs:d.showable=true)(ok:kI d=true)(hz:d.shown.length≤sizeLine):Itm X.prog X.w s.heap u d:=by
 unfold CU at e;split at e
 ·rename_i d' hd;cases e;have D:=(b9 hr iL).1 _ _ _ r hd;obtain⟨as,R⟩:=Dp.reads I d x u D ru;unfold kI at ok;rw[JC]at ok;rcases ok with ok | ok
  ·exact Itm.plain R hs (by simpa using ok) hz
  ·cases D<;>cases ok
 ·split at e
  ·rename_i n;split at e
   ·rename_i kvs hg;split at e
    ·rename_i ds hds;injection e with e
     cases r with
     | ref hn=>
      rename_i a;obtain rfl:u=Value.ref a:=ru;obtain⟨ys,hH,rk⟩:∃ kv',H a=some (.dK kv')∧bj (Cx.wd X a0) μ H kvs kv':=by
       obtain⟨a',kv',e1,_,h1,h2⟩:=hr.bA hg (.ref hn);cases e1;exact⟨kv',h1,h2⟩
      have D:=(b9 hr iL).2 _ _ _ (nZ rk) hds;obtain⟨hz0,hS,vs,kvr,o,es,ep,ho,hex,hd,_,hp,_⟩:ys.length≤sizeLine∧(a == sysModules)=false∧∃ vs,KV ys vs∧s.heap.DictOf (mixKind X.prog X.w) a vs:=I.hok a _ hH;obtain⟨as,q1⟩:=mu (X:=X) (s:=s) hp;obtain⟨bs,q2⟩:=mE I hp kvr D;have ek:kvs.map (fun p=>eC p.1)=vs.map fun p=>eC p.1:=(pG rk).trans (sR kvr)
      have el:(kvs.map fun p=>eC p.1).length=ds.length:=by
       rw[ek,Jq,←vy kvr,←mG D,Jq]
      have z1:((kvs.map fun p=>eC p.1).zip ds).map (·.1)=vs.map fun p=>eC p.1:=by
       rw[show((kvs.map fun p=>eC p.1).zip ds).map (·.1)=kvs.map fun p=>eC p.1 from List.map_fst_zip (Mj el),ek]
      have z2:((kvs.map fun p=>eC p.1).zip ds).map (·.2)=ds:=List.map_snd_zip (Mj el.symm)
      subst e;refine Itm.dict ho hex.1 hd (by rw[z1]; exact q1) (by rw[z2]; exact q2) hS hs (by rw[z1]; exact eY vs) ?_ hz
      unfold kI at ok;rw[JC]at ok;rcases ok with ok | ok
      ·simp [PyData.hasDict]at ok
      ·simpa using ok
    ·cases e
   ·cases e
  ·cases e
theorem rg(I:Inv X pins σ H s)(hr:HR (Cx.wd X a0) μ ah H):∀{vs:List AV} {xs:List V} {us:List Value} {ds:List PyData},aV (Cx.wd X a0) μ H vs xs→sg ah vs=some ds→Vals xs us→PyData.showableAll ds=true→ds.all kI=true→(∀ t∈PyData.shownAll ds,t.length≤sizeLine)→pP X.prog X.w s.heap us ds
 | _,_,_,_,.nil,e,rv,_,_,_=>by
  cases e;cases rv;exact .nil
 | _,_,_,_,.cons r t,e,rv,hs,ok,hz=>by
  unfold sg at e;split at e
  ·rename_i d ds h1 h2;cases e;cases rv with
   | cons ru rt=>
    simp only[PyData.showableAll,Ji]at hs;rw[Jt,Ji]at ok;exact .cons (CO I hr r h1 ru hs.1 ok.1 (hz _ (by simp only[PyData.shownAll]; exact JO))) (rg I hr t h2 rt hs.2 ok.2 fun t ht=>hz t (by simp only[PyData.shownAll]; exact JI _ ht))
  ·cases e
theorem uT (hg:X.A.guards=some []) (hu:X.A.units+150<cLine):CallR X (.builtin "repr") (dJ (Cx.wd X a0) qf):=by
 intro pins s σ H xs us Q I rv ⟨μ,as,ah,hr,r,p⟩;unfold qf at p;split at p
 ·rename_i n;split at p
  ·rename_i y ys hgn;split at p
   ·rename_i ds hd;split at p
    ·rename_i ok;cases r with
     | cons r t=>
      cases t;obtain⟨a,zs,rfl,_,hH,rz⟩:=hr.lst hgn r;obtain⟨u,rfl,ru⟩:=vals1 rv;obtain rfl:u=Value.ref a:=ru;have q:Q (.str (PyData.list ds).shown) H:=p.ret hr .str;obtain⟨its,rv2,⟨o,n',ho,hc,_,hdt⟩,_⟩:=I.list (.of hH);unfold sA at ok;simp only[Ji,decide_eq_true_eq]at ok;obtain⟨⟨⟨o1,o2⟩,o3⟩,o4⟩:=ok;have hz:(PyData.list ds).shown.length≤sizeLine:=Js o4 (by rw[sizeLine_eq]; omega)
      have hz':(listText (PyData.shownAll ds)).length≤sizeLine:=by simpa only[PyData.shown]using hz
      have it:=rg I hr rz hd rv2 (by simpa [PyData.showable]using o1) o2 fun t ht=>Js (listText_mem_le ht) hz'
      cases it with
      | nil=>cases rv2; cases rz
      | cons i1 i2=>exact qp ho hc hdt (.cons i1 i2) hg (by omega) hz fun h' u tk hk=>⟨.str _,H,I.kept hk,⟨_,rfl⟩,q⟩
    ·exact p.elim
   ·exact p.elim
  ·exact p.elim
 ·exact p.elim
end
def mQ(d:PyData):Bool:=d.showable && !d.hasDict && decide (d.depth≤100) && decide (d.shown.length≤1000000)
def dg:AC:=fun as h=>match as with
 | [v]=>(match bJ iL h v with
  | some d=>if mQ d=true then .ok (.str d.shown) h else .stuck
  | none=>qf [v] h)
 | _=> .stuck
section
variable {X:Cx}{a0:Addr}
theorem Au (hg:X.A.guards=some []) (hu:X.A.units+150<cLine):CallR X (.builtin "repr") (dJ (Cx.wd X a0) dg):=by
 intro pins s σ H xs us Q I rv ⟨μ,as,ah,hr,r,p⟩;unfold dg at p;split at p
 ·rename_i v;split at p
  ·rename_i d hd;split at p
   ·rename_i ok;cases r with
    | cons r t=>
     cases t;rename_i y;obtain⟨u,rfl,ru⟩:=vals1 rv;have q:Q (.str d.shown) H:=p.ret hr .str;have D:=(b9 hr iL).1 _ _ _ r hd;unfold mQ at ok;simp only[Ji,decide_eq_true_eq,JF]at ok;obtain⟨⟨⟨o1,o2⟩,o3⟩,o4⟩:=ok;have hz:d.shown.length≤sizeLine:=Js o4 (by rw[sizeLine_eq]; omega)
     have ref:∀ a:Addr,u = .ref a→wpAny (model X.prog X.w) X.A (call (.builtin "repr") [u]) (EP X pins σ Q) X.xe s:=by
      rintro a rfl;obtain⟨bs,R⟩:=Dp.reads I d y _ D ru;exact repr_of_reads' R o1 (fun z=>by rw[o2]at z; cases z) hg (by omega) (fun b o e=>e) (fun h' u tk hk=>⟨.str d.shown,H,I.kept hk,⟨_,rfl⟩,q⟩) hz
     cases D with
     | non=>
      obtain rfl:=ru;simp only[PyData.shown]at q;exact PySem.P.repr_of_none ⟨.str _,H,I.tok _,⟨_,rfl⟩,q⟩
     | bl b=>
      obtain rfl:=ru;simp only[PyData.shown]at q;refine PySem.P.repr_of_bool ⟨.str _,H,I.tok _,⟨_,rfl⟩, ?_⟩;cases b<;>exact q
     | int i=>
      obtain⟨t,rfl⟩:=ru;simp only[PyData.shown]at q;have o5:i.natAbs.log2<1920:=by simpa [PyData.showable]using o1
      exact PySem.P.repr_of_int o5 ⟨.str _,H,I.tok _,⟨_,rfl⟩,q⟩
     | str x=>
      obtain⟨t,rfl⟩:=ru;simp only[PyData.shown]at q hz;exact PySem.P.repr_of_str ⟨.str _,H,I.tok _,⟨_,rfl⟩,q⟩ hz
     | lst _ _=>exact ref _ ru
     | tup _ _=>exact ref _ ru
   ·exact p.elim
  ·exact uT hg hu pins s σ H xs us Q I rv ⟨μ,_,ah,hr,r,p⟩
 ·exact p.elim
end
end WC
namespace WC
open PySem L2
def tQ(W:Wd)(n:Nat)(g:AC):Sp:=fun vs H Q _=>∃ μ as ah,as.length=n∧HR W μ ah H∧aV W μ H as vs∧bh W μ H (g as ah) Q
def AR(K:Jj)(a0:Addr)(fd:FuncData)(ps:List Str)(m:Nat)(ks:List Str)(gA:List AV→List AV→List AV):Prop :=
 ∃(g:List Value→List Value→List Value) (gV:List V→List V→List V),KBn K fd ps m ks g gV∧
  ∀ μ H (vs:List AV) (xs:List V) (zs:List AV) (ws:List V),aV ⟨K,a0⟩ μ H vs xs→aV ⟨K,a0⟩ μ H zs ws→aV ⟨K,a0⟩ μ H (gA vs zs) (gV xs ws)
def FnAt(X:Cx)(a0:Addr)(k:Nat)(f:Addr)(n:Nat)(g:AC)(m:Nat)(ks:List Str)(gA:List AV→List AV→List AV):Prop :=
 ∃ fd ps,nW X.prog X.w X.K X.mg X.base CX0 k f fd ps (tQ (Cx.wd X a0) n g)∧AR X.K a0 fd ps m ks gA
def MK(X:Cx)(a0:Addr)(kws:List Keyword)(f:AL):Prop:=PK X kws (FU (Cx.wd X a0) f)
section
variable {X:Cx}{a0:Addr}{e o:Expr}{es:List Expr}{kws:List Keyword}{pos apos cpos p:Pos}{k n m:Nat}{ks:List Str}{gA:List AV→List AV→List AV}{g:AC}{f:Addr}{x:Str}
theorem PK.imp{t t':TA}(h:PK X kws t)(hi:∀ σ H Q,t' σ H Q→t σ H Q):PK X kws t':=⟨fun pos pins s σ H Q I q=>h.run pos pins s σ H Q I (hi σ H Q q)⟩
theorem C1:MK X a0 [] (fun _ h=> .ok [] h):=PK.imp pk_nil fun σ H Q ⟨μ,s,ah,_,hr,p⟩=>p.ret hr .nil
theorem yJ{nm:Option Str}{kp:Pos}{f:AE}{g:AL}(ha:ME X a0 e f)(hr:MK X a0 kws g):MK X a0 (⟨nm,e,kp⟩::kws) (ae f g) :=
 PK.imp (pk_cons ha hr) fun σ H Q ⟨μ,s,ah,hs,hr,p⟩=>by
  refine⟨μ,s,ah,hs,hr,(ag.bind p).mono fun x H1 ⟨μ1,a,h1,e1,hr1,rl1,p1⟩=> ?_⟩
  refine⟨μ1,s,h1,hs.ext e1,hr1,(ag.bind p1).mono fun y H2 ⟨μ2,b,h2,e2,hr2,rl2,p2⟩=> ?_⟩
  exact p2.ret hr2 (.cons (rl1.ext e2) rl2)
def aL(n m:Nat)(ks:List Str)(gA:List AV→List AV→List AV)(g:AC)(as zs:List AV):AH→Ex AV:=fun h=>
 if as.length=m then(if zs.length=ks.length then(if (gA as zs).length=n then g (gA as zs) h else .stuck)else .stuck)else .stuck
theorem FnAt.run(F:FnAt X a0 k f n g m ks gA)(hr:Rm k X.A){pins:List (Addr×Obj)}{σ:St}{H:Hp}{s:Shared}{Q:VK}{us ws:List Value}{vs zs:List V}(I:Inv X pins σ H s)(r:Vals vs us)(rz:Vals zs ws)
  {μ:List Addr} {as bs:List AV} {ah:AH} (R:HR (Cx.wd X a0) μ ah H) (ra:aV (Cx.wd X a0) μ H as vs) (rb:aV (Cx.wd X a0) μ H bs zs) (q:bh (Cx.wd X a0) μ H (aL n m ks gA g as bs ah) Q) :
  wpAny (model X.prog X.w) X.A (call (.ref f) us (ks.zip ws)) (EP X pins σ Q) X.xe s:=by
 obtain⟨fd,ps,F,gv,gV,hb,hrel⟩:=F;unfold aL at q;split at q
 ·rename_i l1;split at q
  ·rename_i l2;split at q
   ·rename_i l3;exact Am F hr hb pass0 I r rz (ra.length ▸ l1) (rb.length ▸ l2) ⟨μ,_,ah,l3,R,hrel _ _ _ _ _ _ ra rb,q⟩
   ·exact q.elim
  ·exact q.elim
 ·exact q.elim
def aF(n m:Nat)(ks:List Str)(gA:List AV→List AV→List AV)(g:AC)(fa fk:AL):AE:=fun s h=>(fa s h).bind fun as h1=>(fk s h1).bind fun zs h2=>aL n m ks gA g as zs h2
abbrev vH:AL:=fun _ h=> .ok [] h
theorem uk {fk:AL} (F:FnAt X a0 k f n g m ks gA) (hr:Rm k X.A) (hg:Gl X x) (hm:X.mg x=some (.ref f)) (hk:Km X.K (.ref f)=true) (hkw:MK X a0 kws fk) (hd:(x == ("__debug__" : Str))=false)
  (h3:bx kws=some ks):ME X a0 (.Call (.Name x p) [] kws pos) (aF n m ks gA g vH fk):=by
 refine⟨fun pins s σ H Q I h=> ?_⟩
 obtain⟨μ,st,ah,hs,R,q⟩:=h;refine wpAny_Call_Name_kw (ld_glob I hg hm ?_ hd);obtain⟨k1,k2,k3⟩:=eO (pos:=pos) (env:=X.env) h3;refine Kf (h₀:=X.base) I.ok.mod.kin hk k1 ?_ (by rw[k3]; rfl)
 have q':bh (Cx.wd X a0) μ H ((fk st ah).bind fun zs h2=>aL n m ks gA g [] zs h2) Q:=q
 refine thn (hkw.run pos pins s σ H _ I ⟨μ,st,ah,hs,R,ag.bind q'⟩) fun ws s2 ⟨zs,H2,I2,rz,μ2,bs,h2,e2,R2,rb,q2⟩=>⟨I2.kIn, ?_⟩
 rw[k2];exact F.run hr I2 .nil rz R2 .nil rb q2
theorem yu {fa fk:AL} (F:FnAt X a0 k f n g m ks gA) (hr:Rm k X.A) (hg:Gl X x) (hm:X.mg x=some (.ref f)) (hk:Km X.K (.ref f)=true) (ha:MA X a0 (e::es) fa) (hkw:MK X a0 kws fk) (hd:(x == ("__debug__" : Str))=false)
  (h2:(e::es).all noStar=true) (h3:bx kws=some ks):ME X a0 (.Call (.Name x p) (e::es) kws pos) (aF n m ks gA g fa fk):=by
 refine⟨fun pins s σ H Q I h=> ?_⟩
 obtain⟨μ,st,ah,hs,R,q⟩:=h;refine wpAny_Call_Name_kw (ld_glob I hg hm ?_ hd);obtain⟨k1,k2,k3⟩:=eO (pos:=pos) (env:=X.env) h3;have h2':=h2;rw[Jt,Ji]at h2';refine Ky (h₀:=X.base) I.ok.mod.kin hk k1 ?_ (by rw[k3,KC]; exact bo h2) (aH h2'.1)
 refine thn (ha.run pos pins s σ H _ I ⟨μ,st,ah,hs,R,ag.bind q⟩) fun us s1 ⟨vs,H1,I1,r,μ1,as,h1,e1,R1,ra,q1⟩=> ?_
 refine thn (hkw.run pos pins s1 σ H1 _ I1 ⟨μ1,st,h1,hs.ext e1,R1,ag.bind q1⟩) fun ws s2 ⟨zs,H2,I2,rz,μ2,bs,h2,e2,R2,rb,q2⟩=>⟨I2.kIn, ?_⟩
 rw[k2];exact F.run hr I2 r rz R2 (ra.ext e2) rb q2
def dD(C:Str)(n m:Nat)(ks:List Str)(gA:List AV→List AV→List AV)(g:AC)(as zs:List AV):AH→Ex AV:=fun h=>
 (aL n m ks gA g (.ref h.n::as) zs (h.push (.ins C []))).bind fun v h'=>match v with
  | .non=> .ok (.ref h.n) h'
  | _=> .stuck
theorem vq{W:Wd}{μ H ah}{C:Str}{a dx:Addr}(hr:HR W μ ah H)(ha:H a=none)(hd:H dx=none)(ne:dx≠a) :
  Ext W μ H (μ ++ [a]) (upd (upd H dx (.own a)) a (.ins (Jo W.K C) dx []))∧HR W (μ ++ [a]) (ah.push (.ins C [])) (upd (upd H dx (.own a)) a (.ins (Jo W.K C) dx []))∧Rl W (μ ++ [a]) (upd (upd H dx (.own a)) a (.ins (Jo W.K C) dx [])) (.ref ah.n) (.ref a):=by
 have R1:HR W μ ah (upd H dx (.own a)):=hr.tup hd;have ha':upd H dx (.own a) a=none:=by rw[upd_ne ne.symm]; exact ha
 have E1:Ext W μ H μ (upd H dx (.own a)):=Ext.fW hd;have E2:Ext W μ (upd H dx (.own a)) (μ ++ [a]) (upd (upd H dx (.own a)) a (.ins (Jo W.K C) dx [])):=Ext.cb ha';refine⟨E1.trans E2,R1.push ha' ⟨dx,[],upd_same,.nil⟩,.ref ?_⟩;rw[hr.sz]; simp
def bC(C:Str)(n m:Nat)(ks:List Str)(gA:List AV→List AV→List AV)(g:AC)(fa fk:AL):AE:=fun s h=>(fa s h).bind fun as h1=>(fk s h1).bind fun zs h2=>dD C n m ks gA g as zs h2
theorem FnAt.make{C:Str}(F:FnAt X a0 k f n g (m+1) ks gA)(M:Mk X.K (Jo X.K C) f)(hr:Rm (k+1) X.A){pins:List (Addr×Obj)}{σ:St}{H:Hp}{s:Shared}{Q:VK}{us ws:List Value}{vs zs:List V}(I:Inv X pins σ H s)(r:Vals vs us)(rz:Vals zs ws)
  {μ:List Addr} {as bs:List AV} {ah:AH} (R:HR (Cx.wd X a0) μ ah H) (ra:aV (Cx.wd X a0) μ H as vs) (rb:aV (Cx.wd X a0) μ H bs zs) (q:bh (Cx.wd X a0) μ H (dD C n (m+1) ks gA g as bs ah) Q) :
  wpAny (model X.prog X.w) X.A (call (.ref (Jo X.K C)) us (ks.zip ws)) (EP X pins σ Q) X.xe s:=by
 obtain⟨fd,ps,F,gv,gV,hb,hrel⟩:=F;unfold dD aL at q;split at q
 ·rename_i l1;split at q
  ·rename_i l2;split at q
   ·rename_i l3;have l1':as.length=m:=by simpa using l1
    refine tp (n:=m) M F hr hb pass0 I r rz (ra.length ▸ l1') (rb.length ▸ l2) fun x dx hx hdx ne=> ?_
    obtain⟨E1,R1,rx⟩:=vq (W:=Cx.wd X a0) (C:=C) R hx hdx ne;refine⟨μ ++ [x],_,_,l3,R1,hrel _ _ _ _ _ _ (.cons rx (ra.ext E1)) (rb.ext E1), ?_⟩;refine(ag.bind (q.ext E1)).mono fun v H2 ⟨μ2,w,h2,e2,R2,rw',q2⟩=> ?_
    split at q2
    ·cases rw';exact⟨rfl,q2.ret R2 (rx.ext e2)⟩
    ·exact q2.elim
   ·exact q.elim
  ·exact q.elim
 ·exact q.elim
theorem yP {C:Str} {fa fk:AL} (F:FnAt X a0 k f n g (m+1) ks gA) (M:Mk X.K (Jo X.K C) f) (hr:Rm (k+1) X.A) (hg:Gl X C) (hm:X.mg C=some (.ref (Jo X.K C))) (ha:MA X a0 (e::es) fa) (hkw:MK X a0 kws fk) (hd:(C == ("__debug__" : Str))=false)
  (h2:(e::es).all noStar=true) (h3:bx kws=some ks):ME X a0 (.Call (.Name C p) (e::es) kws pos) (bC C n (m+1) ks gA g fa fk):=by
 refine⟨fun pins s σ H Q I h=> ?_⟩
 obtain⟨μ,st,ah,hs,R,q⟩:=h;refine wpAny_Call_Name_kw (ld_glob I hg hm ?_ hd);obtain⟨k1,k2,k3⟩:=eO (pos:=pos) (env:=X.env) h3;have h2':=h2;rw[Jt,Ji]at h2';refine Ky (h₀:=X.base) I.ok.mod.kin M.kp k1 ?_ (by rw[k3,KC]; exact bo h2) (aH h2'.1)
 refine thn (ha.run pos pins s σ H _ I ⟨μ,st,ah,hs,R,ag.bind q⟩) fun us s1 ⟨vs,H1,I1,r,μ1,as,h1,e1,R1,ra,q1⟩=> ?_
 refine thn (hkw.run pos pins s1 σ H1 _ I1 ⟨μ1,st,h1,hs.ext e1,R1,ag.bind q1⟩) fun ws s2 ⟨zs,H2,I2,rz,μ2,bs,h2,e2,R2,rb,q2⟩=>⟨I2.kIn, ?_⟩
 rw[k2];exact F.make M hr I2 r rz R2 (ra.ext e2) rb q2
theorem xo {C:Str} {fk:AL} (F:FnAt X a0 k f n g (m+1) ks gA) (M:Mk X.K (Jo X.K C) f) (hr:Rm (k+1) X.A) (hg:Gl X C) (hm:X.mg C=some (.ref (Jo X.K C))) (hkw:MK X a0 kws fk) (hd:(C == ("__debug__" : Str))=false)
  (h3:bx kws=some ks):ME X a0 (.Call (.Name C p) [] kws pos) (bC C n (m+1) ks gA g vH fk):=by
 refine⟨fun pins s σ H Q I h=> ?_⟩
 obtain⟨μ,st,ah,hs,R,q⟩:=h;refine wpAny_Call_Name_kw (ld_glob I hg hm ?_ hd);obtain⟨k1,k2,k3⟩:=eO (pos:=pos) (env:=X.env) h3;refine Kf (h₀:=X.base) I.ok.mod.kin M.kp k1 ?_ (by rw[k3]; rfl)
 have q':bh (Cx.wd X a0) μ H ((fk st ah).bind fun zs h2=>dD C n (m+1) ks gA g [] zs h2) Q:=q
 refine thn (hkw.run pos pins s σ H _ I ⟨μ,st,ah,hs,R,ag.bind q'⟩) fun ws s2 ⟨zs,H2,I2,rz,μ2,bs,h2,e2,R2,rb,q2⟩=>⟨I2.kIn, ?_⟩
 rw[k2];exact F.make M hr I2 .nil rz R2 .nil rb q2
structure bg where
 n:Nat
 m:Nat
 ks:List Str
 gA:List AV→List AV→List AV
 g:AC
def eR(mth:Str)(tab:Str→Option bg)(fo:AE)(fa fk:AL):AE:=fun s h=>(fo s h).bind fun v h1=>match v with
 | .ref n=>(match h1.get n with
  | some (.ins C fs)=>(match tab C with
   | some i=>(match fs.lookup mth with
    | none=>(fa s h1).bind fun as h2=>(fk s h2).bind fun zs h3=>aL i.n i.m i.ks i.gA i.g (.ref n::as) zs h3
    | some _=> .stuck)
   | none=> .stuck)
  | _=> .stuck)
 | _=> .stuck
def MethTab(X:Cx)(a0:Addr)(k:Nat)(mth:Str)(ks:List Str)(tab:Str→Option bg):Prop :=
 ∀ C i,tab C=some i→i.ks=ks∧Cls X.K (Jo X.K C)∧∃ f,Meth X.K (Jo X.K C) mth f∧FnAt X a0 k f i.n i.g i.m i.ks i.gA
theorem Ao{mth:Str}{tab:Str→Option bg}{fo:AE}{fa fk:AL}(T:MethTab X a0 k mth ks tab)(hr:Rm k X.A)(ho:ME X a0 o fo)(ha:MA X a0 (e::es) fa)(hkw:MK X a0 kws fk)
  (h1:aC o=true) (h2:(e::es).all noStar=true) (h3:bx kws=some ks) (h4:dS (e::es) kws=true) (h5:aU apos pos=true):ME X a0 (.Call (.Attribute o mth apos) (e::es) kws pos) (eR mth tab fo fa fk):=by
 refine⟨fun pins s σ H Q I h=> ?_⟩
 obtain⟨μ,st,ah,hs,R,q⟩:=h;obtain⟨k1,k2,k3⟩:=eO (pos:=pos) (env:=X.env) h3;have h2':=h2;rw[Jt,Ji]at h2';refine KN (pl:=plainOf o X.env) (thn (ho.run pins s σ H _ I ⟨μ,st,ah,hs,R,ag.bind q⟩) fun u s1 ⟨x,H1,I1,rx,μ1,v,ah1,e1,R1,rv,q1⟩=> ?_) (iN h1 h2 h3 h4 h5)
 split at q1
 ·split at q1
  ·rename_i nn C fs hg;split at q1
   ·rename_i i hi;split at q1
    ·rename_i hl;obtain⟨hks,c,f,hM,F⟩:=T C i hi;obtain⟨a,dx,ys,rfl,hn,hH,r2⟩:=R1.ins hg rv;cases rx;have l:ys.lookup mth=none:=by
      rcases r2.lookup (k:=mth)with ⟨_,z⟩ | ⟨_,_,z,_,_⟩
      ·exact z
      ·rw[z]at hl; cases hl
     refine getmeth_ok I1 hH c hM l ?_;refine Ky (first:=[.ref a]) (h₀:=X.base) I.ok.mod.kin hM.kp k1 ?_ (by rw[k3,KC]; exact bo h2) (aH h2'.1)
     refine thn (ha.run pos pins s1 σ H1 _ I1 ⟨μ1,st,ah1,hs.ext e1,R1,ag.bind q1⟩) fun us s2 ⟨vs,H2,I2,r,μ2,as,h2,e2,R2,ra,q2⟩=> ?_
     refine thn (hkw.run pos pins s2 σ H2 _ I2 ⟨μ2,st,h2,(hs.ext e1).ext e2,R2,ag.bind q2⟩) fun ws s3 ⟨zs,H3,I3,rz,μ3,bs,h3,e3,R3,rb,q3⟩=>⟨I3.kIn, ?_⟩
     rw[k2];subst hks;exact F.run (us:=.ref a::us) (vs:=.ref a::vs) hr I3 (.cons rfl r) rz R3 (.cons ((Rl.ref hn).ext (e2.trans e3)) (ra.ext e3)) rb q3
    ·exact q1.elim
   ·exact q1.elim
  ·exact q1.elim
 ·exact q1.elim
theorem xq{mth:Str}{tab:Str→Option bg}{fo:AE}{fk:AL}(T:MethTab X a0 k mth ks tab)(hr:Rm k X.A)(ho:ME X a0 o fo)(hkw:MK X a0 kws fk)
  (h1:aC o=true) (h3:bx kws=some ks) (h4:dS [] kws=true) (h5:aU apos pos=true):ME X a0 (.Call (.Attribute o mth apos) [] kws pos) (eR mth tab fo vH fk):=by
 refine⟨fun pins s σ H Q I h=> ?_⟩
 obtain⟨μ,st,ah,hs,R,q⟩:=h;obtain⟨k1,k2,k3⟩:=eO (pos:=pos) (env:=X.env) h3;refine KN (pl:=plainOf o X.env) (thn (ho.run pins s σ H _ I ⟨μ,st,ah,hs,R,ag.bind q⟩) fun u s1 ⟨x,H1,I1,rx,μ1,v,ah1,e1,R1,rv,q1⟩=> ?_) (iN h1 rfl h3 h4 h5)
 split at q1
 ·rename_i n0;split at q1
  ·rename_i nn C fs hg;split at q1
   ·rename_i i hi;split at q1
    ·rename_i hl;obtain⟨hks,c,f,hM,F⟩:=T C i hi;obtain⟨a,dx,ys,rfl,hn,hH,r2⟩:=R1.ins hg rv;cases rx;have l:ys.lookup mth=none:=by
      rcases r2.lookup (k:=mth)with ⟨_,z⟩ | ⟨_,_,z,_,_⟩
      ·exact z
      ·rw[z]at hl; cases hl
     refine getmeth_ok I1 hH c hM l ?_;refine Kf (first:=[.ref a]) (h₀:=X.base) I.ok.mod.kin hM.kp k1 ?_ (by rw[k3]; rfl)
     have q':bh (Cx.wd X a0) μ1 H1 ((fk st ah1).bind fun zs h3=>aL i.n i.m i.ks i.gA i.g [.ref n0] zs h3) Q:=q1
     refine thn (hkw.run pos pins s1 σ H1 _ I1 ⟨μ1,st,ah1,hs.ext e1,R1,ag.bind q'⟩) fun ws s3 ⟨zs,H3,I3,rz,μ3,bs,h3,e3,R3,rb,q3⟩=>⟨I3.kIn, ?_⟩
     rw[k2];subst hks;exact F.run (us:=[.ref a]) (vs:=[.ref a]) hr I3 (.cons rfl .nil) rz R3 (.cons ((Rl.ref hn).ext e3) .nil) rb q3
    ·exact q1.elim
   ·exact q1.elim
  ·exact q1.elim
 ·exact q1.elim
end
section
variable {X:Cx}{a0:Addr}{a b c e o:Expr}{es rest:List Expr}{pos apos cpos p:Pos}
def FP(v:AV)(h:AH):Option Bool:=match v with
 | .non=>some false
 | .bl b=>some b
 | .int i=>some (i != 0)
 | .str y=>if y.length≤sizeLine then some ((y.length:Int) != 0)else none
 | .tup xs=>some (!xs.isEmpty)
 | .scr=>some (!h.scr.isEmpty)
 | .ref n=>(match h.get n with
  | some (.lst xs)=>some (!xs.isEmpty)
  | some (.bA xs)=>some (!xs.isEmpty)
  | _=>none)
 | _=>none
def yj(r:Ex AV):Ex Bool:=match r with
 | .ok v h=>(match FP v h with
  | some b=> .ok b h
  | none=> .stuck)
 | .stuck=> .stuck
theorem aV.isEmpty{W μ H xs ys}(r:aV W μ H xs ys):xs.isEmpty=ys.isEmpty:=by cases r<;>rfl
theorem bj.isEmpty{W μ H}{κ:Type}{xs:List (κ × AV)}{ys}(r:bj W μ H xs ys):xs.isEmpty=ys.isEmpty:=by cases r<;>rfl
theorem tru_ok{W μ ah H v x k}(hr:HR W μ ah H)(r:Rl W μ H v x)(e:FP v ah=some k):TruV W.K x H k:=by
 unfold FP at e;split at e
 ·cases e; cases r; rfl
 ·cases e; cases r; rfl
 ·cases e; cases r; rfl
 ·split at e
  ·rename_i hl;cases e; cases r; exact⟨hl,rfl⟩
  ·cases e
 ·cases e;cases r with
  | tup h r=>exact .inr (.inl ⟨_,h,by rw[r.isEmpty]⟩)
 ·cases e; cases r;refine .inl ⟨_,hr.scr.sq, ?_⟩;cases ah.scr<;>rfl
 ·split at e
  ·rename_i hg;cases e;obtain⟨a,ys,rfl,_,h1,r1⟩:=hr.lst hg r;exact .inl ⟨_,.of h1,by rw[r1.isEmpty]⟩
  ·rename_i hg;cases e;obtain⟨a,ys,rfl,_,h1,r1⟩:=hr.bA hg r;exact .inr (.inr ⟨_,h1,by rw[r1.isEmpty]⟩)
  ·cases e
 ·cases e
theorem x9{W μ H}{r:Ex AV}{Q:Bool→Hp→Prop}(p:wO W μ H (yj r) Q):bh W μ H r (fun x H'=>∃ k,TruV W.K x H' k∧Q k H'):=by
 cases r with
 | stuck=>exact p
 | ok v h=>
  unfold yj at p;intro μ' H' x e hr' rl;cases t:FP v h with
  | none=>simp only[t]at p; exact p.elim
  | some k=>
   simp only[t]at p;exact⟨k,tru_ok hr' rl t,p μ' H' k e hr' rfl⟩
theorem fF{f:AE}(h:ME X a0 e f)(he:iO e=true):MT X a0 e (fun s h=>yj (f s h)) :=
 PT.imp (pt_truth h (nF he)) fun σ H Q ⟨μ,s,ah,hs,hr,p⟩=>⟨μ,s,ah,hs,hr,x9 p⟩
def k6(f:AT):AT:=fun s h=>(f s h).bind fun b h1=> .ok (!b) h1
theorem Cd{f:AT}(h:MT X a0 a f):MT X a0 (.UnaryOp .Not a pos) (k6 f) :=
 PT.imp (pt_not h) fun σ H Q ⟨μ,s,ah,hs,hr,p⟩=>⟨μ,s,ah,hs,hr,(ag.bind p).mono fun b H1 ⟨μ1,b',h1,e1,hr1,r1,p1⟩=>by
  have eb:b'=b:=r1;subst eb;exact p1.ret hr1 rfl⟩
def xO(f g:AT):AT:=fun s h=>(f s h).bind fun b h1=>if b=true then g s h1 else .ok false h1
def fH(f g:AT):AT:=fun s h=>(f s h).bind fun b h1=>if b=true then .ok true h1 else g s h1
def MW(X:Cx)(a0:Addr)(e:Expr)(f:AT):Prop:=PW X e (pN (Cx.wd X a0) f)
theorem PW.imp{e:Expr}{t t':TT}(h:PW X e t)(hi:∀ σ H Q,t' σ H Q→t σ H Q):PW X e t':=⟨fun w pins s σ H Q I q=>h.run w pins s σ H Q I (hi σ H Q q)⟩
theorem MW.mt{f:AT}(h:MW X a0 e f):MT X a0 e f:=PW.pt h
theorem yA{f:AT}(h:MT X a0 a f):MW X a0 (.BoolOp .And [a] pos) f:=pw_and1 h
theorem Bx{f:AT}(h:MT X a0 a f):MW X a0 (.BoolOp .Or [a] pos) f:=pw_or1 h
theorem BL{f g:AT}(ha:MT X a0 a f)(hb:MW X a0 (.BoolOp .And (b::rest) pos) g):MW X a0 (.BoolOp .And (a::b::rest) pos) (xO f g) :=
 PW.imp (pw_and ha hb) fun σ H Q ⟨μ,s,ah,hs,hr,p⟩=>⟨μ,s,ah,hs,hr,(ag.bind p).mono fun k H1 ⟨μ1,k',h1,e1,hr1,r1,p1⟩=>by
  have ek:k'=k:=r1;subst ek;cases k' with
  | true=>exact⟨μ1,s,h1,hs.ext e1,hr1,p1⟩
  | false=>exact ag.ret (W:=Cx.wd X a0) (rel:=jq) p1 hr1 rfl⟩
theorem El{f g:AT}(ha:MT X a0 a f)(hb:MW X a0 (.BoolOp .Or (b::rest) pos) g):MW X a0 (.BoolOp .Or (a::b::rest) pos) (fH f g) :=
 PW.imp (pw_or ha hb) fun σ H Q ⟨μ,s,ah,hs,hr,p⟩=>⟨μ,s,ah,hs,hr,(ag.bind p).mono fun k H1 ⟨μ1,k',h1,e1,hr1,r1,p1⟩=>by
  have ek:k'=k:=r1;subst ek;cases k' with
  | true=>exact ag.ret (W:=Cx.wd X a0) (rel:=jq) p1 hr1 rfl
  | false=>exact⟨μ1,s,h1,hs.ext e1,hr1,p1⟩⟩
def uK(f g:AE):AE:=fun s h=>(f s h).bind fun v h1=>match v with
 | .bl true=>g s h1
 | .bl false=> .ok (.bl false) h1
 | _=> .stuck
def Dc(f g:AE):AE:=fun s h=>(f s h).bind fun v h1=>match v with
 | .bl true=> .ok (.bl true) h1
 | .bl false=>g s h1
 | _=> .stuck
theorem Bp{op}{f:AE}(h:ME X a0 a f):ME X a0 (.BoolOp op [a] pos) f:=pe_one h
theorem Bu{f g:AE}(ha:ME X a0 a f)(hb:ME X a0 (.BoolOp .And (b::rest) pos) g):ME X a0 (.BoolOp .And (a::b::rest) pos) (uK f g) :=
 PE.imp (pe_and ha hb) fun σ H Q ⟨μ,s,ah,hs,hr,p⟩=>⟨μ,s,ah,hs,hr,(ag.bind p).mono fun x H1 ⟨μ1,v,h1,e1,hr1,r1,p1⟩=>by
  split at p1
  ·cases r1; exact⟨true,rfl,μ1,s,h1,hs.ext e1,hr1,p1⟩
  ·cases r1; exact⟨false,rfl,p1.ret hr1 .bl⟩
  ·exact p1.elim⟩
theorem FF{f g:AE}(ha:ME X a0 a f)(hb:ME X a0 (.BoolOp .Or (b::rest) pos) g):ME X a0 (.BoolOp .Or (a::b::rest) pos) (Dc f g) :=
 PE.imp (pe_or ha hb) fun σ H Q ⟨μ,s,ah,hs,hr,p⟩=>⟨μ,s,ah,hs,hr,(ag.bind p).mono fun x H1 ⟨μ1,v,h1,e1,hr1,r1,p1⟩=>by
  split at p1
  ·cases r1; exact⟨true,rfl,p1.ret hr1 .bl⟩
  ·cases r1; exact⟨false,rfl,μ1,s,h1,hs.ext e1,hr1,p1⟩
  ·exact p1.elim⟩
def uZ(f:AE):AE:=fun s h=>(qz (f s h)).bind fun b h1=> .ok (.bl (!b)) h1
theorem CB{f:AE}(h:ME X a0 a f):ME X a0 (.UnaryOp .Not a pos) (uZ f) :=
 PE.imp (pe_not h) fun σ H Q ⟨μ,s,ah,hs,hr,p⟩=>⟨μ,s,ah,hs,hr,(iK (ag.bind (rel:=jq) p)).mono fun x H1 ⟨k,hx,μ1,k',h1,e1,hr1,r1,p1⟩=>by
  have ek:k'=k:=r1;subst ek;exact⟨k',hx,p1.ret hr1 .bl⟩⟩
def gj(c:AT)(f g:AE):AE:=fun s h=>(c s h).bind fun b h1=>if b=true then f s h1 else g s h1
theorem Fx{fc:AT}{f g:AE}(hc:MT X a0 c fc)(ha:ME X a0 a f)(hb:ME X a0 b g):ME X a0 (.IfExp c a b pos) (gj fc f g) :=
 PE.imp (pe_ifExp hc ha hb) fun σ H Q ⟨μ,s,ah,hs,hr,p⟩=>⟨μ,s,ah,hs,hr,(ag.bind p).mono fun k H1 ⟨μ1,k',h1,e1,hr1,r1,p1⟩=>by
  have ek:k'=k:=r1;subst ek;cases k' with
  | true=>exact⟨μ1,s,h1,hs.ext e1,hr1,p1⟩
  | false=>exact⟨μ1,s,h1,hs.ext e1,hr1,p1⟩⟩
theorem we{tc ta tb:TT}(hc:PT X c tc)(ha:PT X a ta)(hb:PT X b tb):PT X (.IfExp c a b pos) (fun σ H Q=>tc σ H fun k H1=>if k=true then ta σ H1 Q else tb σ H1 Q):=by
 refine⟨fun pins s σ H Q I h=> ?_⟩
 show wpAny _ _ (do if ← isTrue c X.env (eval c X.env)then isTrue a X.env (eval a X.env)else isTrue b X.env (eval b X.env)) _ _ _
 refine wpAny_bind (thn (hc.run pins s σ H _ I h) fun k s1 ⟨H1,I1,q1⟩=> ?_)
 cases k with
 | true=>exact ha.run pins s1 σ H1 Q I1 q1
 | false=>exact hb.run pins s1 σ H1 Q I1 q1
def Bz(c f g:AT):AT:=fun s h=>(c s h).bind fun b h1=>if b=true then f s h1 else g s h1
theorem DV{fc f g:AT}(hc:MT X a0 c fc)(ha:MT X a0 a f)(hb:MT X a0 b g):MT X a0 (.IfExp c a b pos) (Bz fc f g) :=
 PT.imp (we hc ha hb) fun σ H Q ⟨μ,s,ah,hs,hr,p⟩=>⟨μ,s,ah,hs,hr,(ag.bind p).mono fun k H1 ⟨μ1,k',h1,e1,hr1,r1,p1⟩=>by
  have ek:k'=k:=r1;subst ek;cases k' with
  | true=>exact⟨μ1,s,h1,hs.ext e1,hr1,p1⟩
  | false=>exact⟨μ1,s,h1,hs.ext e1,hr1,p1⟩⟩
abbrev AG:=AV→az→AH→Ex az
def F6(W:Wd)(μ:List Addr)(H:Hp)(s:az)(σ:St):Prop:=SR W μ H s σ
def wF(is:List Nat)(σ σ':St):Prop:=σ'.length = σ.length∧∀ j,j∉is→ σ'[j]? = σ[j]?
theorem wF.refl{is σ}:wF is σ σ:=⟨rfl,fun _ _=>rfl⟩
theorem wF.trans{is σ σ1 σ2}(a:wF is σ σ1)(b:wF is σ1 σ2):wF is σ σ2:=⟨b.1.trans a.1,fun j hj=>(b.2 j hj).trans (a.2 j hj)⟩
theorem wF.mono{is js σ σ'}(a:wF is σ σ')(h:∀ i∈is,i∈js):wF js σ σ':=⟨a.1,fun j hj=>a.2 j fun z=>hj (h j z)⟩
def xP(W:Wd)(is:List Nat)(σ:St)(μ:List Addr)(H:Hp)(s:az)(σ':St):Prop:=SR W μ H s σ'∧wF is σ σ'
theorem ag.weak{α β:Type}{W:Wd}{μ H}{rel rel':List Addr→Hp→ α → β → Prop}{r:Ex α}{Q:β → Hp→Prop}(p:ag W rel μ H r Q)(h:∀ μ H a b,rel' μ H a b→rel μ H a b):ag W rel' μ H r Q:=by
 cases r with
 | stuck=>exact p
 | ok a h0=>exact fun μ' H' b e' hr rl=>p μ' H' b e' hr (h _ _ _ _ rl)
def qd(W:Wd)(is:List Nat)(f:AG):TG:=fun x σ H Q=>∃ μ v s ah,SR W μ H s σ ∧ HR W μ ah H∧Rl W μ H v x∧ag W (xP W is σ) μ H (f v s ah) Q
def MG(X:Cx)(a0:Addr)(e:Expr)(is:List Nat)(f:AG):Prop:=PG X e (qd (Cx.wd X a0) is f)
theorem PG.imp{e:Expr}{t t':TG}(h:PG X e t)(hi:∀ x σ H Q,t' x σ H Q→t x σ H Q):PG X e t':=⟨fun pins s σ H v u Q I r q=>h.run pins s σ H v u Q I r (hi v σ H Q q)⟩
def aD(i:Nat):AG:=fun v s h=> .ok (s.set i (some v)) h
theorem rW{i:Nat}{x:Str}(hN:X.N.Nodup)(hi:X.N[i]? = some x)(hx:Loc X.env.scope x)(hf:X.fn x=true∨X.env.scope.names.lookup x=some .local):MG X a0 (.Name x pos) [i] (aD i) :=
 PG.imp (pg_name hN hi hx hf) fun x σ H Q ⟨μ,v,s,ah,hs,hr,rv,p⟩=>p.ret hr ⟨hs.set i rv,by simp,fun j hj=>JJ fun z=>hj (by simp [z])⟩
abbrev r9:=List AV→az→AH→Ex az
def Gs(W:Wd)(is:List Nat)(f:r9):TGs:=fun xs σ H Q=>∃ μ vs s ah,SR W μ H s σ ∧ HR W μ ah H∧aV W μ H vs xs∧ag W (xP W is σ) μ H (f vs s ah) Q
def A0(X:Cx)(a0:Addr)(es:List Expr)(is:List Nat)(f:r9):Prop:=PGs X es (Gs (Cx.wd X a0) is f)
theorem PGs.imp{es:List Expr}{t t':TGs}(h:PGs X es t)(hi:∀ x σ H Q,t' x σ H Q→t x σ H Q):PGs X es t':=⟨fun pins s σ H v u Q I r q=>h.run pins s σ H v u Q I r (hi v σ H Q q)⟩
def mf:r9:=fun vs s h=>match vs with
 | []=> .ok s h
 | _=> .stuck
def dM(f:AG)(g:r9):r9:=fun vs s h=>match vs with
 | v::r=>(f v s h).bind fun s1 h1=>g r s1 h1
 | []=> .stuck
theorem yr:A0 X a0 [] [] mf:=PGs.imp pgs_nil fun xs σ H Q ⟨μ,vs,s,ah,hs,hr,rv,p⟩=>by
 unfold mf at p;split at p
 ·cases rv; exact⟨rfl,p.ret hr ⟨hs,.refl⟩⟩
 ·exact p.elim
theorem fe{e:Expr}{es:List Expr}{env:Env}(h:noStar e=true):assignEach (e::es) env=(false,assign e env)::assignEach es env:=by
 cases e<;>first | rfl | (cases h)
theorem xr{is js:List Nat}{f:AG}{g:r9}(ha:MG X a0 e is f)(hb:A0 X a0 es js g)(hn:noStar e=true):A0 X a0 (e::es) (is++js) (dM f g) :=
 PGs.imp (pgs_cons ha hb (by rw[fe hn]; rfl)) fun xs σ H Q ⟨μ,vs,s,ah,hs,hr,rv,p⟩=>by
  unfold dM at p;split at p
  ·cases rv with
   | cons r t=>
    refine⟨_,_,rfl,μ,_,s,ah,hs,hr,r,(ag.bind p).mono fun σ1 H1 ⟨μ1,s1,h1,e1,hr1,r1,p1⟩=> ?_⟩
    exact⟨μ1,_,s1,h1,r1.1,hr1,t.ext e1,p1.weak fun _ _ _ _ z=>⟨z.1,(r1.2.mono fun i hi=>J2 _ hi).trans (z.2.mono fun i hi=>JB _ hi)⟩⟩
  ·exact p.elim
def lP(n:Nat)(g:r9):AG:=fun v s h=>match v with
 | .tup xs=>if xs.length=n then g xs s h else .stuck
 | _=> .stuck
theorem gU{env:Env}:∀{es:List Expr},(assignEach es env).length=es.length
 | []=>rfl
 | e::es=>by
  have:∀ e,(assignEach (e::es) env).length=(assignEach es env).length+1:=fun e=>by cases e<;>rfl
  rw[this,gU]; rfl
theorem jv{env:Env}:∀{es:List Expr},es.all noStar=true→(assignEach es env).findIdx? (·.1)=none
 | [],_=>rfl
 | e::es,h=>by
  rw[Jt,Ji]at h;rw[fe h.1,LY,jv h.2]; rfl
theorem Dn{k:Nat}{is:List Nat}{g:r9}(hc:X.calm=true)(h:A0 X a0 es is g)(hs:es.all noStar=true):MG X a0 (.Tuple es k pos) is (lP es.length g) :=
 PG.imp (pg_tup hc h gU (jv hs)) fun x σ H Q ⟨μ,v,s,ah,hs,hr,rv,p⟩=>by
  unfold lP at p;split at p
  ·split at p
   ·rename_i hl;cases rv with
    | tup h r=>exact⟨_,_,rfl,h,r.length ▸ hl,μ,_,s,ah,hs,hr,r,p⟩
   ·exact p.elim
  ·exact p.elim
theorem zr:MS X a0 (.Pass pos) (fun s h=> .ok (.nx s) h):=PS.imp ps_pass fun D σ H ⟨μ,s,ah,hs,hr,p⟩=>p μ H σ .refl hr hs
theorem vo:MS X a0 (.Break pos) (fun s h=> .ok (.bk s) h):=PS.imp ps_break fun D σ H ⟨μ,s,ah,hs,hr,p⟩=>p μ H σ .refl hr hs
theorem oj:MS X a0 (.Continue pos) (fun s h=> .ok (.ct s) h):=PS.imp ps_continue fun D σ H ⟨μ,s,ah,hs,hr,p⟩=>p μ H σ .refl hr hs
theorem Ar{f:AE}(h:ME X a0 e f)(hc:fX e=true):MS X a0 (.Expr e pos) (fun s h=>(f s h).bind fun _ h1=> .ok (.nx s) h1) :=
 PS.imp (ps_expr h (v9 hc)) fun D σ H ⟨μ,s,ah,hs,hr,p⟩=>⟨μ,s,ah,hs,hr,(aQ.bind p).mono fun x H1 ⟨μ1,v,h1,e1,hr1,r1,p1⟩=>p1 μ1 H1 σ .refl hr1 (hs.ext e1)⟩
theorem Dl{f:AE}(h:ME X a0 e f):MS X a0 (.Return (some e) pos) (fun s h=>(f s h).bind fun v h1=> .ok (.rt v) h1) :=
 PS.imp (ps_ret h) fun D σ H ⟨μ,s,ah,hs,hr,p⟩=>⟨μ,s,ah,hs,hr,(aQ.bind p).mono fun x H1 ⟨μ1,v,h1,e1,hr1,r1,p1⟩=>p1 μ1 H1 x .refl hr1 r1⟩
theorem Ag:MS X a0 (.Return none pos) (fun s h=> .ok (.rt .non) h):=PS.imp ps_retN fun D σ H ⟨μ,s,ah,hs,hr,p⟩=>p μ H .non .refl hr .non
def cO(c:AT)(f g:AS):AS:=fun s h=>(c s h).bind fun b h1=>if b=true then f s h1 else g s h1
theorem FC{fc:AT}{f g:AS}{xs ys:List Stmt}(hc:MT X a0 c fc)(ha:zm X a0 xs f)(hb:zm X a0 ys g):MS X a0 (.If c xs ys pos) (cO fc f g) :=
 PS.imp (ps_if hc ha hb) fun D σ H ⟨μ,s,ah,hs,hr,p⟩=>⟨μ,s,ah,hs,hr,(aQ.bind (rel:=jq) p).mono fun k H1 ⟨μ1,k',h1,e1,hr1,r1,p1⟩=>by
  have ek:k'=k:=r1;subst ek;cases k' with
  | true=>exact⟨μ1,s,h1,hs.ext e1,hr1,p1⟩
  | false=>exact⟨μ1,s,h1,hs.ext e1,hr1,p1⟩⟩
theorem sI:zm X a0 [] (fun s h=> .ok (.nx s) h):=PSs.imp pss_nil fun D σ H ⟨μ,s,ah,hs,hr,p⟩=>p μ H σ .refl hr hs
def ax(f g:AS):AS:=fun s h=>(f s h).bind fun fl h1=>match fl with
 | .nx s1=>g s1 h1
 | .bk s1=> .ok (.bk s1) h1
 | .ct s1=> .ok (.ct s1) h1
 | .rt v=> .ok (.rt v) h1
theorem kj {W μ H} {r:Ex Fl} {g:AS} {D:Ends} (p:aQ W μ H (r.bind fun fl h1=>match fl with
 | .nx s1=>g s1 h1
 | .bk s1=> .ok (.bk s1) h1
 | .ct s1=> .ok (.ct s1) h1
 | .rt v=> .ok (.rt v) h1) D):aQ W μ H r { D with nx:=y5 W g D }:=by
 cases r with
 | stuck=>exact p
 | ok fl h=>
  cases fl with
  | nx s1=>exact fun μ' H' σ' e hr hs=>⟨μ',s1,h,hs,hr,aQ.ext (r:=g s1 h) p e⟩
  | bk s1=>exact p
  | ct s1=>exact p
  | rt v=>exact p
theorem wx{st:Stmt}{sts:List Stmt}{f g:AS}(ha:MS X a0 st f)(hb:zm X a0 sts g):zm X a0 (st::sts) (ax f g) :=
 PSs.imp (pss_cons ha hb) fun D σ H ⟨μ,s,ah,hs,hr,p⟩=>⟨μ,s,ah,hs,hr,kj p⟩
def bZ(f:AE)(g:AG):AS:=fun s h=>(f s h).bind fun v h1=>(g v s h1).bind fun s1 h2=> .ok (.nx s1) h2
theorem jM{W μ H}{r:Ex az}{D:Ends}(p:aQ W μ H (r.bind fun s1 h2=> .ok (.nx s1) h2) D):ag W (F6 W) μ H r D.nx:=by
 cases r with
 | stuck=>exact p
 | ok s1 h=>exact fun μ' H' σ' e hr hs=>p μ' H' σ' e hr hs
def mr(tg e:Expr):Bool:=match tg,e with
 | .Tuple ..,.Tuple .. => false
 | .List ..,.Tuple .. => false
 | .Starred ..,_=>false
 | _,_=>true
theorem vX{tg e:Expr}{env:Env}(h:mr tg e=true):swappedStores [tg] e env=pure none:=by
 unfold swappedStores;cases tg<;>cases e<;>first | rfl | (cases h)
theorem rH{tg e:Expr}{env:Env}(h:mr tg e=true):(assignEach [tg] env).map (·.2)=[assign tg env]:=by
 cases tg<;>first | rfl | (cases e<;>cases h)
inductive AI where
 | lst (n:Nat)
 | scr
 | tup (xs:List AV)
 | str (x:Str)
 | rng (lo:Int) (n:Nat)
 | its (kvs:List (Key×AV))
 | vls (kvs:List (Key×AV))
 | kys (kvs:List (Key×AV))
 | enm (n:Nat)
 | zps (x:Str) (n:Nat)
 | zpl (n m:Nat)
def bf(J:AI)(i:Nat)(h:AH):Option (Option AV):=match J with
 | .lst n=>(match h.get n with
  | some (.lst xs)=>some xs[i]?
  | _=>none)
 | .scr=>some ((h.scr[i]?).map AV.int)
 | .tup xs=>some xs[i]?
 | .str x=>some ((x.cps[i]?).map fun c=>AV.str ⟨#[c]⟩)
 | .rng lo n=>some (if i<n then some (.int (lo+i))else none)
 | .its kvs=>some ((kvs[i]?).map fun kv=> .tup [kA kv.1,kv.2])
 | .vls kvs=>some ((kvs[i]?).map (·.2))
 | .kys kvs=>some ((kvs[i]?).map fun kv=>kA kv.1)
 | .enm n=>(match h.get n with
  | some (.lst xs)=>some ((xs[i]?).map fun x=> .tup [.int (i:Nat),x])
  | _=>none)
 | .zps x n=>(match h.get n with
  | some (.lst xs)=>(match x.cps[i]?,xs[i]? with
   | some c,some v=>some (some (.tup [.str ⟨#[c]⟩,v]))
   | none,none=>if xs.length=i∧x.cps.size=i then some none else none
   | _,_=>none)
  | _=>none)
 | .zpl n m=>(match h.get n,h.get m with
  | some (.lst xs),some (.lst ys)=>(match xs[i]?,ys[i]? with
   | some x,some y=>some (some (.tup [x,y]))
   | _,_=>some none)
  | _,_=>none)
def RI(W:Wd)(μ0:List Addr)(H0:Hp)(aJ:AI)(J:It):Prop:=∀ μ H ah i,Ext W μ0 H0 μ H→HR W μ ah H→match bf aJ i ah with
 | none=>True
 | some none=>J.stop i H
 | some (some v)=>J.go i H∧∀ x H',J.yld i H x H'→Ext W μ H μ H'∧HR W μ ah H'∧Rl W μ H' v x
def A7(W:Wd)(f:az→AH→Ex AI):TI:=fun σ H R=>∃ μ s ah,SR W μ H s σ ∧ HR W μ ah H∧ag W (RI W) μ H (f s ah) R
def MI(X:Cx)(a0:Addr)(tg e:Expr)(f:az→AH→Ex AI):Prop:=PI X tg e (A7 (Cx.wd X a0) f)
theorem PI.imp{tg e:Expr}{t t':TI}(h:PI X tg e t)(hi:∀ σ H R,t' σ H R→t σ H R):PI X tg e t':=⟨fun pins s σ H R I q=>h.run pins s σ H R I (hi σ H R q)⟩
theorem PI.or{tg e:Expr}{t t':TI}(h:PI X tg e t)(h':PI X tg e t'):PI X tg e (fun σ H R=>t σ H R∨t' σ H R):=⟨fun pins s σ H R I q=>q.elim (h.run pins s σ H R I) (h'.run pins s σ H R I)⟩
theorem aV.none_of{W μ H xs ys}{i:Nat}(r:aV W μ H xs ys)(h:xs[i]? = none):ys.length≤i:=by
 rw[←r.length]; exact Kd.mp h
theorem C7{W:Wd}{μ0:List Addr}{H0:Hp}{n:Nat}{a:Addr}(h:μ0[n]? = some a):RI W μ0 H0 (.lst n) (Itl W.K a):=by
 intro μ H ah i e R;have hn:=e.pre _ _ h;cases q:bf (.lst n) i ah with
 | none=>trivial
 | some r=>
  unfold bf at q;simp only at q;split at q
  ·rename_i xs hg;obtain⟨b,ys,hb,hn',h1,r1⟩:=R.lst hg (.ref hn);cases hb;cases q;cases z:xs[i]? with
   | none=>exact⟨ys,.of h1,r1.none_of z⟩
   | some v=>
    obtain⟨y,hy,ry⟩:=r1.get z;refine⟨⟨ys,y,.of h1,hy⟩,fun x H' ⟨e',hx⟩=> ?_⟩
    subst e';have:=hx ys (.of h1);rw[hy]at this; cases this;exact⟨.refl,R,ry⟩
  ·cases q
theorem Cn{W:Wd}{μ0:List Addr}{H0:Hp}:RI W μ0 H0 .scr (Itl W.K W.a0):=by
 intro μ H ah i e R;show match some ((ah.scr[i]?).map AV.int)with | none=>True | some none=>_ | some (some v)=>_
 cases z:ah.scr[i]? with
 | none=>exact⟨_,R.scr.sq,by rw[Jq]; exact Kd.mp z⟩
 | some k=>
  have hy:(ah.scr.map V.int)[i]? = some (.int k):=by rw[JN,z]; rfl
  refine⟨⟨_,_,R.scr.sq,hy⟩,fun x H' ⟨e',hx⟩=> ?_⟩
  subst e';have:=hx _ R.scr.sq;rw[hy]at this; cases this;exact⟨.refl,R,.int⟩
theorem BK{W:Wd}{μ0:List Addr}{H0:Hp}{xs:List AV}{ys:List V}{a:Addr}(h:SqT W.K H0 a ys)(r:aV W μ0 H0 xs ys):RI W μ0 H0 (.tup xs) (Itt W.K a):=by
 intro μ H ah i e R;have h':=e.tup _ _ h;have r':=r.ext e;show match some xs[i]? with | none=>True | some none=>_ | some (some v)=>_
 cases z:xs[i]? with
 | none=>exact⟨ys,h',r'.none_of z⟩
 | some v=>
  obtain⟨y,hy,ry⟩:=r'.get z;refine⟨⟨ys,y,h',hy⟩,fun x H' ⟨e',hx⟩=> ?_⟩
  subst e';have:=hx ys h';rw[hy]at this; cases this;exact⟨.refl,R,ry⟩
theorem BE{W:Wd}{μ0:List Addr}{H0:Hp}{x:Str}:RI W μ0 H0 (.str x) (Its x):=by
 intro μ H ah i e R;show match some ((x.cps[i]?).map fun c=>AV.str ⟨#[c]⟩)with | none=>True | some none=>_ | some (some v)=>_
 cases z:x.cps[i]? with
 | none=>exact JT.mp z
 | some c=>
  refine⟨(J6.mp z).1,fun y H' ⟨e',c',hc,ey⟩=> ?_⟩
  subst e'; subst ey;rw[z]at hc; cases hc;exact⟨.refl,R,.str⟩
theorem ux{W:Wd}{μ0:List Addr}{H0:Hp}{lo:Int}{n:Nat}:RI W μ0 H0 (.rng lo n) (Itr lo n):=by
 intro μ H ah i e R;show match some (if i<n then some (AV.int (lo+i))else none)with | none=>True | some none=>_ | some (some v)=>_
 by_cases h:i<n
 ·rw[if_pos h];refine⟨h,fun y H' ⟨e',ey⟩=> ?_⟩
  subst e'; subst ey;exact⟨.refl,R,.int⟩
 ·rw[if_neg h];exact Nat.le_of_not_lt h
def kN(v:AV)(h:AH):Option AI:=match v with
 | .tup xs=>some (.tup xs)
 | .scr=>some .scr
 | .str x=>some (.str x)
 | .ref n=>(match h.get n with
  | some (.lst _)=>some (.lst n)
  | _=>none)
 | _=>none
def iD(f:AE):az→AH→Ex AI:=fun s h=>(f s h).bind fun v h1=>match kN v h1 with
 | some J=> .ok J h1
 | none=> .stuck
theorem vC{tg:Expr}{f:AE}(h:ME X a0 e f):MI X a0 tg e (iD f) :=
 PI.imp (PI.or (pi_list h) (PI.or (pi_tup h) (pi_str h))) fun σ H R ⟨μ,s,ah,hs,hr,p⟩=>by
  unfold iD at p;cases q:f s ah with
  | stuck=>rw[q]at p; exact p.elim
  | ok v h1=>
   rw[q]at p;have p':ag (Cx.wd X a0) (RI (Cx.wd X a0)) μ H (match kN v h1 with
    | some J=> .ok J h1
    | none=> .stuck) R:=p
   unfold kN at p';split at p'
   ·rename_i J hJ;split at hJ
    ·cases hJ;refine .inr (.inl ⟨μ,s,ah,hs,hr, ?_⟩);rw[q];intro μ' H' x e R' r;cases r with
     | tup h r=>exact⟨_,rfl,⟨_,h⟩,p' μ' H' _ e R' (BK h r)⟩
    ·cases hJ;refine .inl ⟨μ,s,ah,hs,hr, ?_⟩;rw[q];intro μ' H' x e R' r;cases r;exact⟨_,rfl,⟨_,R'.scr.sq⟩,p' μ' H' _ e R' Cn⟩
    ·cases hJ;refine .inr (.inr ⟨μ,s,ah,hs,hr, ?_⟩);rw[q];intro μ' H' x e R' r;cases r;exact⟨_,rfl,p' μ' H' _ e R' BE⟩
    ·split at hJ
     ·rename_i hg;cases hJ;refine .inl ⟨μ,s,ah,hs,hr, ?_⟩;rw[q];intro μ' H' x e R' r;obtain⟨a,ys,rfl,hn,h2,r2⟩:=R'.lst hg r;exact⟨_,rfl,⟨_,.of h2⟩,p' μ' H' _ e R' (C7 hn)⟩
     ·cases hJ
    ·cases hJ
   ·exact p'.elim
def forL(aJ:AI)(g:AG)(body:AS):Nat→Nat→az→AH→Ex Fl
 | 0,_,_,_=> .stuck
 | f+1,i,s,h=>match bf aJ i h with
  | none=> .stuck
  | some none=> .ok (.nx s) h
  | some (some v)=>(g v s h).bind fun s1 h1=>(body s1 h1).bind fun fl h2=>match fl with
   | .nx s2=>forL aJ g body f (i+1) s2 h2
   | .ct s2=>forL aJ g body f (i+1) s2 h2
   | .bk s2=> .ok (.nx s2) h2
   | .rt v=> .ok (.rt v) h2
def lF(F:Nat)(fi:az→AH→Ex AI)(g:AG)(body:AS):AS:=fun s h=>(fi s h).bind fun J h1=>forL J g body F 0 s h1
theorem lJ {W:Wd} {μ H} {r:Ex Fl} {k:az→AH→Ex Fl} {D:Ends} {N:St→Hp→Prop} (p:aQ W μ H (r.bind fun fl h2=>match fl with
   | .nx s2=>k s2 h2
   | .ct s2=>k s2 h2
   | .bk s2=> .ok (.nx s2) h2
   | .rt v=> .ok (.rt v) h2) D) (hN:∀ μ' H' s2 h2 σ2,Ext W μ H μ' H'→HR W μ' h2 H'→SR W μ' H' s2 σ2→aQ W μ' H' (k s2 h2) D→N σ2 H'):aQ W μ H r { D with nx:=N,ct:=N,bk:=D.nx }:=by
 cases r with
 | stuck=>exact p
 | ok fl h=>
  cases fl with
  | nx s1=>exact fun μ' H' σ' e hr hs=>hN μ' H' s1 h σ' e hr hs (aQ.ext (r:=k s1 h) p e)
  | ct s1=>exact fun μ' H' σ' e hr hs=>hN μ' H' s1 h σ' e hr hs (aQ.ext (r:=k s1 h) p e)
  | bk s1=>exact p
  | rt v=>exact p
theorem C6{tg:Expr}{body:List Stmt}{is:List Nat}{F:Nat}{fi:az→AH→Ex AI}{g:AG}{fb:AS}(hp:PassesOwn (model X.prog X.w) X.A X.env X.xe)(hc:X.calm=true)(hi:MI X a0 tg e fi)(hg:MG X a0 tg is g)(hb:zm X a0 body fb)(hs:ck e=true) :
  MS X a0 (.For tg e body [] pos) (lF F fi g fb) :=
 PS.imp (ps_for hp hc hi hg hb (ef hs)) fun D σ H ⟨μ,s,ah,hs,hr,p⟩=>⟨μ,s,ah,hs,hr,(aQ.bind p).mono fun J H1 ⟨μ1,aJ,h1,e1,hr1,rJ,p1⟩=>by
  refine⟨fun i m σ H=>∃ μ2 s2 h2,Ext (Cx.wd X a0) μ1 H1 μ2 H∧SR (Cx.wd X a0) μ2 H s2 σ ∧ HR (Cx.wd X a0) μ2 h2 H∧aQ (Cx.wd X a0) μ2 H (forL aJ g fb m i s2 h2) D,⟨F,μ1,s,h1,.refl,hs.ext e1,hr1,p1⟩, ?_⟩
  rintro i m σ2 H2 ⟨μ2,s2,h2,e2,hs2,hr2,p2⟩;cases m with
  | zero=>exact p2.elim
  | succ m=>
   unfold forL at p2;have z:=rJ μ2 H2 h2 i e2 hr2;split at p2
   ·exact p2.elim
   ·rename_i q;rw[q]at z;exact .inl ⟨z,p2 μ2 H2 σ2 .refl hr2 hs2⟩
   ·rename_i v q;rw[q]at z;refine .inr ⟨z.1,fun σ' H'=>∃ μ3 s3 h3,Ext (Cx.wd X a0) μ1 H1 μ3 H'∧SR (Cx.wd X a0) μ3 H' s3 σ'∧HR (Cx.wd X a0) μ3 h3 H'∧aQ (Cx.wd X a0) μ3 H' (forL aJ g fb m (i+1) s3 h3) D,fun σ' H' h'=>⟨m,Jy m,h'⟩,fun x H3 hy=> ?_⟩
    obtain⟨e3,hr3,rv⟩:=z.2 x H3 hy;refine⟨μ2,v,s2,h2,hs2.ext e3,hr3,rv,(aQ.bind (rel:=xP (Cx.wd X a0) is σ2) (p2.ext e3)).mono fun σ4 H4 ⟨μ4,s4,h4,e4,hr4,hs4,p4⟩=> ?_⟩
    exact⟨μ4,s4,h4,hs4.1,hr4,lJ p4 fun μ' H' s2' h2' σ2' e5 hr5 hs5 p5=>⟨μ',s2',h2',e2.trans (e3.trans (e4.trans e5)),hs5,hr5,p5⟩⟩⟩
def gM(c:AT)(body:AS):Nat→az→AH→Ex Fl
 | 0,_,_=> .stuck
 | f+1,s,h=>(c s h).bind fun b h1=>if b=true then(body s h1).bind fun fl h2=>(match fl with
   | .nx s2=>gM c body f s2 h2
   | .ct s2=>gM c body f s2 h2
   | .bk s2=> .ok (.nx s2) h2
   | .rt v=> .ok (.rt v) h2)else .ok (.nx s) h1
theorem x8{body:List Stmt}{F:Nat}{fc:AT}{fb:AS}(hp:PassesOwn (model X.prog X.w) X.A X.env X.xe)(hc:MT X a0 c fc)(hb:zm X a0 body fb):MS X a0 (.While c body [] pos) (gM fc fb F) :=
 PS.imp (ps_while hp hc hb) fun D σ H ⟨μ,s,ah,hs,hr,p⟩=>by
  refine⟨fun m σ H=>∃ μ2 s2 h2,SR (Cx.wd X a0) μ2 H s2 σ ∧ HR (Cx.wd X a0) μ2 h2 H∧aQ (Cx.wd X a0) μ2 H (gM fc fb m s2 h2) D,⟨F,μ,s,ah,hs,hr,p⟩, ?_⟩
  rintro m σ2 H2 ⟨μ2,s2,h2,hs2,hr2,p2⟩;cases m with
  | zero=>exact p2.elim
  | succ m=>
   unfold gM at p2;refine⟨μ2,s2,h2,hs2,hr2,(aQ.bind (rel:=jq) p2).mono fun k H3 ⟨μ3,k',h3,e3,hr3,r3,p3⟩=> ?_⟩
   have ek:k'=k:=r3;subst ek;cases k' with
   | true=>
    refine⟨fun σ' H'=>∃ μ3 s3 h3,SR (Cx.wd X a0) μ3 H' s3 σ'∧HR (Cx.wd X a0) μ3 h3 H'∧aQ (Cx.wd X a0) μ3 H' (gM fc fb m s3 h3) D,fun σ' H' h'=>⟨m,Jy m,h'⟩, ?_⟩
    exact⟨μ3,s2,h3,hs2.ext e3,hr3,lJ p3 fun μ' H' s2' h2' σ2' e5 hr5 hs5 p5=>⟨μ',s2',h2',hs5,hr5,p5⟩⟩
   | false=>exact p3 μ3 H3 σ2 .refl hr3 (hs2.ext e3)
end
def a5(s:az):List Nat→az
 | []=>s
 | v::vs=>(a5 s vs).set v none
theorem SR.wipe{W μ H s σ}(h:SR W μ H s σ):∀ vs,SR W μ H (a5 s vs) (wipe σ vs)
 | []=>h
 | v::vs=>(SR.wipe h vs).unset v
theorem iw(σ:St)(j:Nat):∀ vs:List Nat,(wipe σ vs)[j]? = if j∈vs then(if j < σ.length then some none else none)else σ[j]?
 | []=>by simp [L2.wipe]
 | v::vs=>by
  show((wipe σ vs).set v none)[j]? = _;rw[List.getElem?_set];have hl:(wipe σ vs).length = σ.length:=wipe_length σ vs;by_cases h:v=j
  ·subst h;simp [hl]
  ·have h':¬ j=v:=fun z=>h z.symm
   simp [h,h',iw σ j vs]
theorem fm{is vs:List Nat}{σ σ2:St}(c:wF is (wipe σ vs) σ2)(h:∀ i∈is,i∈vs):wipe σ2 vs=wipe σ vs:=by
 apply Lb;intro j;have hl:σ2.length = σ.length:=c.1.trans (wipe_length σ vs);rw[iw,iw,hl];by_cases hj:j∈vs
 ·rw[if_pos hj,if_pos hj]
 ·rw[if_neg hj,if_neg hj,c.2 j fun z=>hj (h j z),iw,if_neg hj]
section
variable {X:Cx}{a0:Addr}{e elt tg iter:Expr}{ifs:List Expr}{scope:Scope}{own:List (Str×Nat)}{pos:Pos}
def uj(X:Cx)(a0:Addr)(ifs:List Expr)(f:AT):Prop:=PTs X ifs (pN (Cx.wd X a0) f)
theorem PTs.imp{t t':TT}(h:PTs X ifs t)(hi:∀ σ H Q,t' σ H Q→t σ H Q):PTs X ifs t':=⟨fun pins s σ H Q I q=>h.run pins s σ H Q I (hi σ H Q q)⟩
theorem As:uj X a0 [] (fun _ h=> .ok true h):=PTs.imp pts_nil fun σ H Q ⟨μ,s,ah,_,hr,p⟩=>ag.ret (W:=Cx.wd X a0) (rel:=jq) p hr rfl
theorem zD{f:AT}(h:MT X a0 e f):uj X a0 [e] f:=pts_one h
def iU(X:Cx)(scope:Scope)(P:Cx→Prop):Prop:=∀(s:Shared) (H:Hp) (C:Addr) (cl:List (Str×Addr)) (fp:List Addr),P (X.blk s H scope (compEnvC scope cl C X.env) fp)
def tR(J:AI)(g:AG)(t:AT)(el:AE)(s:az)(d:Nat):Nat→Nat→AH→Ex AV
 | 0,_,_=> .stuck
 | f+1,i,h=>match bf J i h with
  | none=> .stuck
  | some none=> .ok (.ref d) h
  | some (some v)=>(g v s h).bind fun s1 h1=>(t s1 h1).bind fun b h2=>if b=true then(el s1 h2).bind fun y h3=>(match h3.get d with
    | some (.lst acc)=>if acc.length<sizeLine then tR J g t el s d f (i+1) (h3.set d (.lst (acc++[y])))else .stuck
    | _=> .stuck)else tR J g t el s d f (i+1) h2
def pM(F:Nat)(fi:az→AH→Ex AI)(g:AG)(t:AT)(el:AE)(vs:List Nat):AE:=fun s h=>(fi s h).bind fun J h1=>tR J g t el (a5 s vs) h1.n F 0 (h1.push (.lst []))
theorem uW{W:Wd}{F:Nat}{fi:az→AH→Ex AI}{g:AG}{t:AT}{el:AE}{vs is:List Nat}{σ:St}{H:Hp}{Q:VK}(hv:∀ i∈is,i∈vs)(h:d8 W (pM F fi g t el vs) σ H Q):tLc (A7 W fi) (qd W is g) (pN W t) (d8 W el) vs σ H Q:=by
 obtain⟨μ,s,ah,hs,hr,p⟩:=h;refine⟨μ,s,ah,hs,hr,(ag.bind p).mono fun J H1 ⟨μ1,aJ,h1,e1,hr1,rJ,p1⟩ D hD=> ?_⟩
 have E0:Ext W μ1 H1 (μ1++[D]) (upd H1 D (.lst [])):=Ext.cb hD;have R0:HR W (μ1++[D]) (h1.push (.lst [])) (upd H1 D (.lst [])):=hr1.push hD ⟨[],upd_same,.nil⟩;have hd:(μ1++[D])[h1.n]? = some D:=by rw[hr1.sz]; simp
 refine⟨fun i m H=>∃ μ2 h2,Ext W (μ1++[D]) (upd H1 D (.lst [])) μ2 H∧HR W μ2 h2 H∧bh W μ2 H (tR aJ g t el (a5 s vs) h1.n m i h2) Q,⟨F,_,_,.refl,R0,p1.ext E0⟩, ?_⟩
 rintro i m H2 ⟨μ2,h2,e2,hr2,p2⟩;cases m with
 | zero=>exact p2.elim
 | succ m=>
  unfold tR at p2;have z:=rJ μ2 H2 h2 i (E0.trans e2) hr2;split at p2
  ·exact p2.elim
  ·rename_i q;rw[q]at z;exact .inl ⟨z,p2.ret hr2 (.ref (e2.pre _ _ hd))⟩
  ·rename_i v q;rw[q]at z;refine .inr ⟨z.1,fun H'=>∃ μ3 h3,Ext W (μ1++[D]) (upd H1 D (.lst [])) μ3 H'∧HR W μ3 h3 H'∧bh W μ3 H' (tR aJ g t el (a5 s vs) h1.n m (i+1) h3) Q,fun H' h'=>⟨m,Jy m,h'⟩,fun x H3 hy=> ?_⟩
   obtain⟨e3,hr3,rv⟩:=z.2 x H3 hy;have e03:=E0.trans (e2.trans e3);refine⟨μ2,v,a5 s vs,h2,((hs.ext e1).ext e03).wipe vs,hr3,rv,(ag.bind (p2.ext e3)).mono fun σ4 H4 ⟨μ4,s4,h4,e4,hr4,⟨hs4,c4⟩,p4⟩=>⟨fm c4 hv, ?_⟩⟩
   refine⟨μ4,s4,h4,hs4,hr4,(ag.bind p4).mono fun b H5 ⟨μ5,b',h5,e5,hr5,eb,p5⟩=> ?_⟩
   have eb':b'=b:=eb;subst eb';cases b' with
   | true=>
    rw[if_pos rfl]at p5 ⊢;refine⟨μ5,s4,h5,hs4.ext e5,hr5,(ag.bind p5).mono fun y H6 ⟨μ6,w,h6,e6,hr6,ry,p6⟩=> ?_⟩
    have eD:=e2.trans (e3.trans (e4.trans (e5.trans e6)));split at p6
    ·rename_i acc hg;split at p6
     ·rename_i hl;obtain⟨a,ys,ea,hn,hH,r2⟩:=hr6.lst hg (.ref (eD.pre _ _ hd));cases ea;obtain⟨e7,hr7⟩:=dH hr6 hg hn hH r2 (r2.append (.cons ry .nil));exact⟨ys,hH,r2.length ▸ hl,μ6,_,eD.trans e7,hr7,p6.ext e7⟩
     ·exact p6.elim
    ·exact p6.elim
   | false=>
    rw[if_neg J9]at p5 ⊢;exact⟨μ5,h5,e2.trans (e3.trans (e4.trans e5)),hr5,p5⟩
theorem EC{F:Nat}{fi:az→AH→Ex AI}{g:AG}{t:AT}{el:AE}{is:List Nat}(hc:X.calm=true)(hN:X.N.Nodup)(hi:MI X a0 tg iter fi)(ok:BlkOk X.N X.env.scope scope own)(hv:∀ i∈is,i∈own.map (·.2))
  (hg:iU X scope fun Y=>MG Y a0 tg is g) (ht:iU X scope fun Y=>uj Y a0 ifs t) (he:iU X scope fun Y=>ME Y a0 elt el) (hs:ck iter=true) :
  ME X a0 (.ListComp elt [⟨tg,iter,ifs,0⟩] scope pos) (pM F fi g t el (own.map (·.2))) :=
 PE.imp (pe_lc (g:=qd (Cx.wd X a0) is g) (tt:=pN (Cx.wd X a0) t) (te:=d8 (Cx.wd X a0) el) hc hN hi ok (fun s H C cl fp=>hg s H C cl fp) (fun s H C cl fp=>ht s H C cl fp) (fun s H C cl fp=>he s H C cl fp) (ef hs)) fun _ _ _ h=>uW hv h
theorem uI{F:Nat}{fi:az→AH→Ex AI}{g:AG}{t:AT}{el:AE}{is:List Nat}{i:Nat}{y:Str}{py spos:Pos}(hc:X.calm=true)(hN:X.N.Nodup)(hy:X.N[i]? = some y)(hyl:X.env.scope.names.lookup y=some .local)
  (hl:(py.line == pos.line)=true) (hk:X.env.scope.kind = .function) (ha:(scope.names.any fun(n,k)=>n == y && (k == .local || k == .cell))=false)
  (hi:MI X a0 tg iter fi) (ok:BlkOk X.N X.env.scope scope own) (hv:∀ i∈is,i∈own.map (·.2))
  (hg:iU X scope fun Y=>MG Y a0 tg is g) (ht:iU X scope fun Y=>uj Y a0 ifs t) (he:iU X scope fun Y=>ME Y a0 elt el) (hs:ck iter=true) :
  MS X a0 (.Assign [.Name y py] (.ListComp elt [⟨tg,iter,ifs,0⟩] scope pos) spos) (bZ (pM F fi g t el (own.map (·.2))) (aD i)) :=
 PS.imp (ps_setLc (g:=qd (Cx.wd X a0) is g) (tt:=pN (Cx.wd X a0) t) (te:=d8 (Cx.wd X a0) el) hc hN hy hyl (sw_true hk hyl hl ha) hi ok (fun s H C cl fp=>hg s H C cl fp) (fun s H C cl fp=>ht s H C cl fp) (fun s H C cl fp=>he s H C cl fp) (ef hs)) fun D σ H ⟨μ,s,ah,hs,hr,p⟩=>uW hv ⟨μ,s,ah,hs,hr,(aQ.bind p).mono fun x H1 ⟨μ1,v,h1,e1,hr1,r1,p1⟩=>
  p1 μ1 H1 _ .refl hr1 ((hs.ext e1).set i r1)⟩
end
section
variable {X:Cx}{a0:Addr}{a b e o lo hi:Expr}{es:List Expr}{pos p p2 apos cpos tpos:Pos}
abbrev AP:=az→AH→Ex (Option Int)
def uJ(_:List Addr)(_:Hp)(a b:Option Int):Prop:=a=b
def IT(W:Wd)(f:AP):TO:=fun σ H Q=>∃ μ s ah,SR W μ H s σ ∧ HR W μ ah H∧ag W uJ μ H (f s ah) Q
def MP(X:Cx)(a0:Addr)(e:Option Expr)(f:AP):Prop:=PO X e (IT (Cx.wd X a0) f)
theorem PO.imp{e:Option Expr}{t t':TO}(h:PO X e t)(hi:∀ σ H Q,t' σ H Q→t σ H Q):PO X e t':=⟨fun pins s σ H Q I q=>h.run pins s σ H Q I (hi σ H Q q)⟩
theorem yT:MP X a0 none (fun _ h=> .ok none h):=PO.imp po_none fun σ H Q ⟨μ,s,ah,hs,hr,p⟩=>ag.ret (W:=Cx.wd X a0) (rel:=uJ) p hr rfl
def uX(f:AE):AP:=fun s h=>(f s h).bind fun v h1=>match v with
 | .int i=> .ok (some i) h1
 | _=> .stuck
theorem yC{f:AE}(h:ME X a0 e f):MP X a0 (some e) (uX f):=PO.imp (po_some h) fun σ H Q ⟨μ,s,ah,hs,hr,p⟩=>
 ⟨μ,s,ah,hs,hr,(ag.bind p).mono fun x H1 ⟨μ1,v,h1,e1,hr1,r1,p1⟩=>by
  split at p1
  ·cases r1; exact⟨_,rfl,ag.ret (W:=Cx.wd X a0) (rel:=uJ) p1 hr1 rfl⟩
  ·exact p1.elim⟩
def nR(xs:List AV)(lo hi:Option Int):List AV:=(xs.drop (Nd xs.length 0 lo)).take (Nd xs.length xs.length hi - Nd xs.length 0 lo)
theorem mW{W μ H xs ys lo hi}(r:aV W μ H xs ys):aV W μ H (nR xs lo hi) (cutV ys lo hi):=by
 unfold nR cutV;rw[r.length];exact(r.drop _).take _
def qy(v:AV)(lo hi:Option Int)(h:AH):Ex AV:=match v with
 | .tup xs=> .ok (.tup (nR xs lo hi)) h
 | .str z=>if z.length≤sizeLine then .ok (.str (cutS z lo hi)) h else .stuck
 | .scr=> .ok (.ref h.n) (h.push (.lst (nR (h.scr.map AV.int) lo hi)))
 | .ref n=>(match h.get n with
  | some (.lst xs)=> .ok (.ref h.n) (h.push (.lst (nR xs lo hi)))
  | _=> .stuck)
 | _=> .stuck
theorem vz{xs:List AV}{lo hi}(h1:Nd xs.length 0 lo=0)(h2:Nd xs.length xs.length hi=xs.length):nR xs lo hi=xs:=by
 unfold nR;rw[h1,h2];simp
def Jb(W:Wd):V→Option Int→Option Int→Hp→VK→Prop:=fun x lo hi H Q=>∃ μ v ah,HR W μ ah H∧Rl W μ H v x∧bh W μ H (qy v lo hi ah) Q
theorem Hm:SlR X (Jb (Cx.wd X a0)):=by
 intro pins s σ H x v vl vu lo hi sl Q I rx is p1 p2 ⟨μ,a,ah,hr,ra,p⟩;unfold qy at p;split at p
 ·rename_i xs;cases ra with
  | tup h r=>
   refine sl_tupA pins s σ H _ v vl vu lo hi sl Q I rx is p1 p2 ⟨_,_,rfl,h,fun c=> ?_,fun _ q hq=>jK hr (mW r) p hq⟩
   rw[←r.length]at c;rw[vz c.1 c.2]at p;exact p.ret hr (.tup h r)
 ·split at p
  ·rename_i hl;cases ra;exact sl_str pins s σ H _ v vl vu lo hi sl Q I rx is p1 p2 ⟨_,rfl,hl,p.ret hr .str⟩
  ·exact p.elim
 ·cases ra;exact sl_list pins s σ H _ v vl vu lo hi sl Q I rx is p1 p2 ⟨_,_,rfl,hr.scr.sq,fun q hq=>cG hr (mW (aV.ints _)) p hq⟩
 ·split at p
  ·rename_i xs hg;obtain⟨a,ys,rfl,_,h1,r1⟩:=hr.lst hg ra;exact sl_list pins s σ H _ v vl vu lo hi sl Q I rx is p1 p2 ⟨_,_,rfl,.of h1,fun q hq=>cG hr (mW r1) p hq⟩
  ·exact p.elim
 ·exact p.elim
def GD(f:AE)(fl fh:AP):AE:=fun s h=>(f s h).bind fun v h1=>(fl s h1).bind fun l h2=>(fh s h2).bind fun u h3=>qy v l u h3
theorem DL{lo hi:Option Expr}{f:AE}{fl fh:AP}(he:ME X a0 e f)(hl:MP X a0 lo fl)(hh:MP X a0 hi fh):ME X a0 (.Subscript e (.Slice lo hi none p2) pos) (GD f fl fh) :=
 PE.imp (pe_slice Hm he hl hh) fun σ H Q ⟨μ,s,ah,hs,hr,p⟩=>⟨μ,s,ah,hs,hr,(ag.bind p).mono fun x H1 ⟨μ1,v,h1,e1,hr1,r1,p1⟩=>
  ⟨μ1,s,h1,hs.ext e1,hr1,(ag.bind (rel:=uJ) p1).mono fun l H2 ⟨μ2,l',h2,e2,hr2,r2,p2⟩=>
   ⟨μ2,s,h2,(hs.ext e1).ext e2,hr2,(ag.bind (rel:=uJ) p2).mono fun u H3 ⟨μ3,u',h3,e3,hr3,r3,p3⟩=>by
    have e2':l'=l:=r2;have e3':u'=u:=r3;subst e2'; subst e3';exact⟨μ3,v,h3,hr3,r1.ext (e2.trans e3),p3⟩⟩⟩⟩
def wj(f:AE)(g:AL):AL:=fun s h=>(f s h).bind fun v h1=>match v with
 | .tup xs=>(g s h1).bind fun ys h2=> .ok (xs++ys) h2
 | .ref n=>(match h1.get n with
  | some (.lst xs)=>(g s h1).bind fun ys h2=> .ok (xs++ys) h2
  | _=> .stuck)
 | _=> .stuck
theorem yL{f:AE}{g:AL}(he:ME X a0 e f)(hr:MA X a0 es g):MA X a0 (.Starred e p::es) (wj f g) :=
 PA.imp (StX.pa_star he hr rfl) fun σ H Q ⟨μ,s,ah,hs,hr,p⟩=>⟨μ,s,ah,hs,hr,(ag.bind p).mono fun x H1 ⟨μ1,v,h1,e1,hr1,r1,p1⟩=>by
  split at p1
  ·cases r1 with
   | tup h r=>
    exact⟨_,_,rfl,.inl h,μ1,s,h1,hs.ext e1,hr1,(ag.bind p1).mono fun ys H2 ⟨μ2,as,h2,e2,hr2,r2,p2⟩=>p2.ret hr2 ((r.ext e2).append r2)⟩
  ·split at p1
   ·rename_i xs hg;obtain⟨a,zs,rfl,_,z1,r⟩:=hr1.lst hg r1;exact⟨_,_,rfl,.inr (.of z1),μ1,s,h1,hs.ext e1,hr1,(ag.bind p1).mono fun ys H2 ⟨μ2,as,h2,e2,hr2,r2,p2⟩=>p2.ret hr2 ((r.ext e2).append r2)⟩
   ·exact p1.elim
  ·exact p1.elim⟩
end
section
variable {X:Cx}{a0:Addr}{a b e o lo hi:Expr}{es:List Expr}{pos p p2 apos cpos tpos:Pos}
theorem uy{W μ H}(k:Key):Rl W μ H (kA k) (kV k):=by
 cases k with
 | inl i=>exact .int
 | inr x=>exact .str
theorem bj.get{W μ H}{κ:Type}:∀{xs ys} {i:Nat},bj (κ:=κ) W μ H xs ys→(xs[i]? = none∧ys.length≤i)∨∃ k v x,xs[i]? = some (k,v)∧ys[i]? = some (k,x)∧Rl W μ H v x
 | _,_,_,.nil=> .inl ⟨by simp,by simp⟩
 | _,_,0,.cons r _=> .inr ⟨_,_,_,rfl,rfl,r⟩
 | _,_,i+1,.cons _ t=>by
  rcases bj.get (i:=i) t with ⟨h1,h2⟩ | ⟨k,v,x,h1,h2,h3⟩
  ·exact .inl ⟨by simpa using h1,by simpa using h2⟩
  ·exact .inr ⟨k,v,x,by simpa using h1,by simpa using h2,h3⟩
theorem iH{W μ H ah}{T:Addr}{as:List AV}{xs:List V}(hr:HR W μ ah H)(r:aV W μ H as xs)(hT:H T=none):Ext W μ H μ (upd H T (.tup xs))∧HR W μ ah (upd H T (.tup xs))∧Rl W μ (upd H T (.tup xs)) (.tup as) (.ref T) :=
 have e:Ext W μ H μ (upd H T (.tup xs)):=Ext.fW hT
 ⟨e,hr.tup hT,.tup (.of upd_same) (r.ext e)⟩
theorem BM{W:Wd}{μ0:List Addr}{H0:Hp}{d:Addr}{ob:Obj}{kvs:List (Key×AV)}{kv':List (Key×V)}(h:H0 d=some (.frz ob (.dK kv')))(r:bj W μ0 H0 kvs kv'):RI W μ0 H0 (.its kvs) (Iti d ob kv'):=by
 intro μ H ah i e R;show match some ((kvs[i]?).map fun kv=>AV.tup [kA kv.1,kv.2])with | none=>True | some none=>_ | some (some v)=>_
 have hd:=e.frz _ _ _ h;have r':=r.ext e;rcases bj.get (i:=i) r' with ⟨h1,h2⟩ | ⟨k,v,x,h1,h2,h3⟩
 ·rw[h1]; exact⟨hd,h2⟩
 ·rw[h1];refine⟨⟨hd,(Jl.mp h2).1⟩,fun y H' ⟨T,k',v',q,ey,hT,eH⟩=> ?_⟩
  rw[h2]at q; cases q; subst ey; subst eH;exact iH R (.cons (uy k) (.cons h3 .nil)) hT
theorem CJ{W:Wd}{μ0:List Addr}{H0:Hp}{d:Addr}{ob:Obj}{kvs:List (Key×AV)}{kv':List (Key×V)}(h:H0 d=some (.frz ob (.dK kv')))(r:bj W μ0 H0 kvs kv'):RI W μ0 H0 (.vls kvs) (Itd d ob kv'):=by
 intro μ H ah i e R;show match some ((kvs[i]?).map (·.2))with | none=>True | some none=>_ | some (some v)=>_
 have hd:=e.frz _ _ _ h;have r':=r.ext e;rcases bj.get (i:=i) r' with ⟨h1,h2⟩ | ⟨k,v,x,h1,h2,h3⟩
 ·rw[h1]; exact⟨hd,h2⟩
 ·rw[h1];refine⟨⟨hd,(Jl.mp h2).1⟩,fun y H' ⟨eH,k',q⟩=> ?_⟩
  rw[h2]at q; cases q; subst eH;exact⟨.refl,R,h3⟩
theorem BS{W:Wd}{μ0:List Addr}{H0:Hp}{n:Nat}{a:Addr}(h:μ0[n]? = some a):RI W μ0 H0 (.enm n) (Ite W.K a):=by
 intro μ H ah i e R;have hn:=e.pre _ _ h;cases q:bf (.enm n) i ah with
 | none=>trivial
 | some r=>
  unfold bf at q;simp only at q;split at q
  ·rename_i xs hg;obtain⟨b,ys,hb,hn',h1,r1⟩:=R.lst hg (.ref hn);cases hb;cases q;cases z:xs[i]? with
   | none=>exact⟨ys,.of h1,r1.none_of z⟩
   | some v=>
    obtain⟨y,hy,ry⟩:=r1.get z;refine⟨⟨ys,y,.of h1,hy⟩,fun x H' ⟨T,w,e',hT,eH,hx⟩=> ?_⟩
    subst e'; subst eH;have:=hx ys (.of h1);rw[hy]at this; cases this;exact iH R (.cons .int (.cons ry .nil)) hT
  ·cases q
theorem BV{W:Wd}{μ0:List Addr}{H0:Hp}{n m:Nat}{a b:Addr}(h:μ0[n]? = some a)(h':μ0[m]? = some b):RI W μ0 H0 (.zpl n m) (Itz W.K a b):=by
 intro μ H ah i e R;have hn:=e.pre _ _ h;have hm:=e.pre _ _ h';cases q:bf (.zpl n m) i ah with
 | none=>trivial
 | some r=>
  unfold bf at q;simp only at q;split at q
  ·rename_i xs ys hg hg';obtain⟨a',xs',ea,_,h1,r1⟩:=R.lst hg (.ref hn);obtain⟨b',ys',eb,_,h2,r2⟩:=R.lst hg' (.ref hm);cases ea; cases eb;cases z:xs[i]? with
   | none=>
    simp only[z]at q;cases q;exact⟨xs',ys',.of h1,.of h2,.inl (r1.none_of z)⟩
   | some v=>
    cases z':ys[i]? with
    | none=>
     simp only[z,z']at q;cases q;exact⟨xs',ys',.of h1,.of h2,.inr (r2.none_of z')⟩
    | some w=>
     simp only[z,z']at q;cases q;obtain⟨y,hy,ry⟩:=r1.get z;obtain⟨y2,hy2,ry2⟩:=r2.get z';refine⟨⟨xs',ys',y,y2,.of h1,.of h2,hy,hy2⟩,fun x H' ⟨T,w1,w2,e',hT,eH,hx,hx2⟩=> ?_⟩
     subst e'; subst eH;have:=hx xs' (.of h1);rw[hy]at this; cases this;have:=hx2 ys' (.of h2);rw[hy2]at this; cases this;exact iH R (.cons ry (.cons ry2 .nil)) hT
  ·cases q
def kX(v:AV)(h:AH):Option (List (Key×AV)):=match v with
 | .ref n=>(match h.get n with
  | some (.iY kvs)=>some kvs
  | _=>none)
 | _=>none
theorem HR.iY{W μ ah H}(hr:HR W μ ah H){v:AV}{kvs:List (Key×AV)}{x:V}(hg:kX v ah=some kvs)(r:Rl W μ H v x):∃ d ob kv',x = .ref d∧H d=some (.frz ob (.dK kv'))∧bj W μ H kvs kv':=by
 unfold kX at hg;split at hg
 ·split at hg
  ·rename_i h1;cases hg;obtain⟨a,e,ob,kv',h2,h3⟩:=hr.obj _ _ h1;cases r with
   | ref e'=>
    rw[e]at e'; cases e';exact⟨a,ob,kv',rfl,h2,h3⟩
  ·cases hg
 ·cases hg
def wy(f:AE):az→AH→Ex AI:=fun s h=>(f s h).bind fun v h1=>match kX v h1 with
 | some kvs=> .ok (.its kvs) h1
 | none=> .stuck
def A2(f:AE):az→AH→Ex AI:=fun s h=>(f s h).bind fun v h1=>match kX v h1 with
 | some kvs=> .ok (.vls kvs) h1
 | none=> .stuck
theorem xB {elts:List Expr} {kk:Nat} {f:AE} (he:ME X a0 e f) (hs:aC e=true) (hl:aU apos cpos=true):MI X a0 (.Tuple elts kk tpos) (.Call (.Attribute e "items" apos) [] [] cpos) (wy f) :=
 PI.imp (pi_items he (a6 hs) hl) fun σ H R ⟨μ,s,ah,hs,hr,p⟩=>⟨μ,s,ah,hs,hr,(ag.bind p).mono fun x H1 ⟨μ1,v,h1,e1,hr1,r1,p1⟩=>by
  split at p1
  ·rename_i kvs q;obtain⟨d,ob,kv',rfl,h2,h3⟩:=hr1.iY q r1;exact⟨d,ob,kv',rfl,h2,ag.ret (W:=Cx.wd X a0) (rel:=RI (Cx.wd X a0)) p1 hr1 (BM h2 h3)⟩
  ·exact p1.elim⟩
theorem zd {tg:Expr} {f:AE} (he:ME X a0 e f) (hs:aC e=true) (hl:aU apos cpos=true):MI X a0 tg (.Call (.Attribute e "values" apos) [] [] cpos) (A2 f) :=
 PI.imp (pi_values he (a6 hs) hl) fun σ H R ⟨μ,s,ah,hs,hr,p⟩=>⟨μ,s,ah,hs,hr,(ag.bind p).mono fun x H1 ⟨μ1,v,h1,e1,hr1,r1,p1⟩=>by
  split at p1
  ·rename_i kvs q;obtain⟨d,ob,kv',rfl,h2,h3⟩:=hr1.iY q r1;exact⟨d,ob,kv',rfl,h2,ag.ret (W:=Cx.wd X a0) (rel:=RI (Cx.wd X a0)) p1 hr1 (CJ h2 h3)⟩
  ·exact p1.elim⟩
def uf(i:Int):Bool:=decide (-(2 ^ 62)≤i) && decide (i<2 ^ 62)
theorem fT{i:Int}(h:uf i=true):-(2 ^ 62)≤i∧i<2 ^ 62:=by
 unfold uf at h; rw[Ji]at h; exact⟨of_decide_eq_true h.1,of_decide_eq_true h.2⟩
def eT(vs:List AV)(h:AH):Ex AI:=match vs with
 | [.int j]=>if uf j=true then .ok (.rng 0 j.toNat) h else .stuck
 | _=> .stuck
def BN(vs:List AV)(h:AH):Ex AI:=match vs with
 | [.int i,.int j]=>if uf i=true then(if uf j=true then .ok (.rng i (j - i).toNat) h else .stuck)else .stuck
 | _=> .stuck
theorem y6 {tg:Expr} {f:AL} (hg:Gl X "range") (hm:X.mg "range" = none) (ha:MA X a0 [a] f) (hn:noStar a=true):MI X a0 tg (.Call (.Name "range" p) [a] [] pos) (fun s h=>(f s h).bind eT) :=
 PI.imp (pi_range1 hg hm ha (aH hn)) fun σ H R ⟨μ,s,ah,hs,hr,p⟩=>⟨μ,s,ah,hs,hr,(ag.bind p).mono fun x H1 ⟨μ1,vs,h1,e1,hr1,r1,p1⟩=>by
  unfold eT at p1;split at p1
  ·split at p1
   ·rename_i c;cases r1 with
    | cons r t=>cases r; cases t; exact⟨_,rfl,(fT c).1,(fT c).2,ag.ret (W:=Cx.wd X a0) (rel:=RI (Cx.wd X a0)) p1 hr1 ux⟩
   ·exact p1.elim
  ·exact p1.elim⟩
theorem Aj {tg:Expr} {f:AL} (hg:Gl X "range") (hm:X.mg "range" = none) (ha:MA X a0 [a,b] f) (hn:noStar a=true) (hn2:noStar b=true):MI X a0 tg (.Call (.Name "range" p) [a,b] [] pos) (fun s h=>(f s h).bind BN) :=
 PI.imp (pi_range2 hg hm ha (by rw[aH hn,aH hn2]; rfl) (aH hn2)) fun σ H R ⟨μ,s,ah,hs,hr,p⟩=>⟨μ,s,ah,hs,hr,(ag.bind p).mono fun x H1 ⟨μ1,vs,h1,e1,hr1,r1,p1⟩=>by
  unfold BN at p1;split at p1
  ·split at p1
   ·split at p1
    ·rename_i c c2;cases r1 with
     | cons r t=>cases t with
      | cons r' t=>cases r; cases r'; cases t; exact⟨_,_,rfl,⟨(fT c).1,(fT c).2,(fT c2).1,(fT c2).2⟩,ag.ret (W:=Cx.wd X a0) (rel:=RI (Cx.wd X a0)) p1 hr1 ux⟩
    ·exact p1.elim
   ·exact p1.elim
  ·exact p1.elim⟩
def CP(vs:List AV)(h:AH):Ex AI:=match vs with
 | [.ref n]=>(match h.get n with
  | some (.lst _)=> .ok (.enm n) h
  | _=> .stuck)
 | _=> .stuck
theorem yt {elts:List Expr} {kk:Nat} {f:AL} (hg:Gl X "enumerate") (hm:X.mg "enumerate" = none) (ha:MA X a0 [e] f) (hn:noStar e=true):MI X a0 (.Tuple elts kk tpos) (.Call (.Name "enumerate" p) [e] [] pos) (fun s h=>(f s h).bind CP) :=
 PI.imp (pi_enum hg hm ha (aH hn)) fun σ H R ⟨μ,s,ah,hs,hr,p⟩=>⟨μ,s,ah,hs,hr,(ag.bind p).mono fun x H1 ⟨μ1,vs,h1,e1,hr1,r1,p1⟩=>by
  unfold CP at p1;split at p1
  ·split at p1
   ·rename_i q;cases r1 with
    | cons r t=>
     obtain⟨d,ys,rfl,hn,z1,z2⟩:=hr1.lst q r;cases t;exact⟨_,_,rfl,.of z1,ag.ret (W:=Cx.wd X a0) (rel:=RI (Cx.wd X a0)) p1 hr1 (BS hn)⟩
   ·exact p1.elim
  ·exact p1.elim⟩
def Bs(vs:List AV)(h:AH):Ex AI:=match vs with
 | [.ref n,.ref m]=>(match h.get n,h.get m with
  | some (.lst _),some (.lst _)=> .ok (.zpl n m) h
  | _,_=> .stuck)
 | _=> .stuck
theorem B2 {elts:List Expr} {kk:Nat} {f:AL} (hg:Gl X "zip") (hm:X.mg "zip" = none) (ha:MA X a0 [a,b] f) (hn:noStar a=true) (hn2:noStar b=true):MI X a0 (.Tuple elts kk tpos) (.Call (.Name "zip" p) [a,b] [] pos) (fun s h=>(f s h).bind Bs) :=
 PI.imp (pi_zip hg hm ha (aH hn) (bo (by simp [hn2]))) fun σ H R ⟨μ,s,ah,hs,hr,p⟩=>⟨μ,s,ah,hs,hr,(ag.bind p).mono fun x H1 ⟨μ1,vs,h1,e1,hr1,r1,p1⟩=>by
  unfold Bs at p1;split at p1
  ·split at p1
   ·rename_i q q';cases r1 with
    | cons r t=>cases t with
     | cons r' t=>
      obtain⟨d,ys,rfl,hn,z1,z2⟩:=hr1.lst q r;obtain⟨d',ys',rfl,hn',z1',z2'⟩:=hr1.lst q' r';cases t;exact⟨_,_,_,_,rfl,.of z1,.of z1',ag.ret (W:=Cx.wd X a0) (rel:=RI (Cx.wd X a0)) p1 hr1 (BV hn hn')⟩
   ·exact p1.elim
  ·exact p1.elim⟩
def qg(n:Nat)(kvs:List (Key×AV))(h:AH):AH:=h.set n (.bA kvs)
def mx(h:AH)(n:Nat):Bool:=match h.get n with
 | some (.iY _)=>true
 | _=>false
def eG(pk:az→AH→Option Nat)(f:AE):AE:=fun s h=>match pk s h with
 | some n=>(match h.get n with
  | some (.bA kvs)=>(f s (h.set n (.iY kvs))).bind fun v h1=>if mx h1 n=true then .ok v (qg n kvs h1)else .stuck
  | _=> .stuck)
 | none=>f s h
def fI(pk:az→AH→Option Nat)(f:AS):AS:=fun s h=>match pk s h with
 | some n=>(match h.get n with
  | some (.bA kvs)=>(f s (h.set n (.iY kvs))).bind fun v h1=>if mx h1 n=true then .ok v (qg n kvs h1)else .stuck
  | _=> .stuck)
 | none=>f s h
end
section
variable {X:Cx}{a0:Addr}{a b e o lo hi:Expr}{es:List Expr}{pos p p2 apos cpos tpos:Pos}
theorem fA{W:Wd}{H:Hp}{a:Addr}{kv' ob}(hH:H a=some (.frz ob (.dK kv'))):∀ c ys,SqT W.K H c ys→SqT W.K (upd H a (.dK kv')) c ys:=fun c ys h=>by
 rcases h with h | h
 ·left;have ne:c≠a:=by
   rintro rfl;rcases h with h | ⟨ob,h⟩
   ·rw[hH]at h; cases h
   ·rw[hH]at h; cases h
  unfold Rd;rw[upd_ne ne];exact h
 ·exact .inr h
theorem kK{W:Wd}{μ μ':List Addr}{H H':Hp}{ah ah':AH}{n:Nat}{a:Addr}{kvs:List (Key×AV)}{kv':List (Key×V)}{ob:Obj}(R:HR W μ ah H)(hn:μ[n]? = some a)(hH:H a=some (.dK kv'))
  (E:Ext W μ (upd H a (.frz ob (.dK kv'))) μ' H') (R':HR W μ' ah' H') (hH':H' a=some (.frz ob (.dK kv'))) (r:bj W μ H kvs kv') (hl:mx ah' n=true) :
  Ext W μ H μ' (upd H' a (.dK kv'))∧HR W μ' (qg n kvs ah') (upd H' a (.dK kv')):=by
 have o0:OR W μ H (.bA kvs) a:=⟨kv',hH,r⟩;have e1:Ext W μ H μ (upd H a (.frz ob (.dK kv'))):=Ext.ee o0;have hn':=E.pre _ _ hn;have kp:=fA (W:=W) hH';constructor
 ·refine⟨fun m c h=>E.pre m c h,fun c ys h=>kp c ys (E.tup c ys (e1.tup c ys h)),fun c o u h=> ?_,fun c f h=> ?_⟩
  ·have ne:c≠a:=by
    rintro rfl;rw[hH]at h; cases h
   rw[upd_ne ne];refine E.frz c o u ?_;rw[upd_ne ne]; exact h
  ·have ne:c≠a:=by
    rintro rfl;rw[hH]at h; cases h
   rw[upd_ne ne];refine E.xt c f ?_;rw[upd_ne ne]; exact h
 ·unfold mx at hl;split at hl
  ·rename_i kvs2 g;obtain⟨b,hb,ob2,kv2,q1,q2⟩:=R'.obj n _ g;rw[hn']at hb; cases hb;rw[hH']at q1;have e3:kv'=kv2:=by cases q1; rfl
   subst e3;have hs:W.a0≠a∨∀ o xs,H' W.a0≠some (.frz o (.lst xs)):=by
    by_cases z:W.a0=a
    ·right;intro o xs q;rw[z,hH']at q; cases q
    ·exact .inl z
   have R2:=R'.unlock (kvs:=kvs2) g hn' hH' hs;have r2:bj W μ' (upd H' a (.dK kv')) kvs kv':=bj.keep kp ((r.ext e1).ext E);refine⟨R2.sz,fun m hm=> ?_,R2.nd,fun m ao h=> ?_,R2.scr⟩
   ·unfold qg;rw[AH.get_set];by_cases h:m=n
    ·exact⟨_,by rw[if_pos h]⟩
    ·rw[if_neg h];obtain⟨ao,q⟩:=R2.full m hm;rw[AH.get_set,if_neg h]at q;exact⟨ao,q⟩
   ·unfold qg at h;rw[AH.get_set]at h;by_cases z:m=n
    ·rw[if_pos z]at h; cases h;exact⟨a,z ▸ hn',kv',upd_same,r2⟩
    ·rw[if_neg z]at h;refine R2.obj m ao ?_;rw[AH.get_set,if_neg z]; exact h
  ·cases hl
theorem rG{pk:az→AH→Option Nat}{f:AE}(h:ME X a0 e f):ME X a0 e (eG pk f) :=
 ⟨fun pins s0 σ H Q I q=>by
  obtain⟨μ,s,ah,hs,hr,p⟩:=q;unfold eG at p;split at p
  ·rename_i n _;split at p
   ·rename_i kvs g;obtain⟨a,hn,kv',hH,r⟩:=hr.obj n _ g;refine(pe_lock h).run pins s0 σ H Q I ⟨a,_,hH,trivial,fun od=> ?_⟩
    obtain⟨e1,R1⟩:=hr.lock (ob:=od) g hn hH r;refine⟨μ,s,_,hs.ext e1,R1, ?_⟩;have p':=ag.bind (rel:=Rl (Cx.wd X a0)) p;cases q:f s (ah.set n (.iY kvs))with
    | stuck=>rw[q]at p'; exact p'.elim
    | ok v h1=>
     rw[q]at p;intro μ' H' x E R' rx;have p2:bh (Cx.wd X a0) μ H (if mx h1 n=true then Ex.ok v (qg n kvs h1)else .stuck) Q:=p
     split at p2
     ·rename_i hl;have hH':=E.frz a od _ upd_same;obtain⟨E2,R2⟩:=kK hr hn hH E R' hH' r hl;exact⟨hH',p2 μ' _ x E2 R2 (rx.keep (fA hH'))⟩
     ·exact p2.elim
   ·exact p.elim
  ·exact h.run pins s0 σ H Q I ⟨μ,s,ah,hs,hr,p⟩⟩
theorem wI{W:Wd}{μ0:List Addr}{H0:Hp}{d:Addr}{ob:Obj}{kvs:List (Key×AV)}{kv':List (Key×V)}(h:H0 d=some (.frz ob (.dK kv')))(r:bj W μ0 H0 kvs kv'):RI W μ0 H0 (.kys kvs) (Itk d ob kv'):=by
 intro μ H ah i e R;show match some ((kvs[i]?).map fun kv=>kA kv.1)with | none=>True | some none=>_ | some (some v)=>_
 have hd:=e.frz _ _ _ h;have r':=r.ext e;rcases bj.get (i:=i) r' with ⟨h1,h2⟩ | ⟨k,v,x,h1,h2,h3⟩
 ·rw[h1]; exact⟨hd,h2⟩
 ·rw[h1];refine⟨⟨hd,(Jl.mp h2).1⟩,fun y H' ⟨eH,k',v',q,ey⟩=> ?_⟩
  rw[h2]at q; cases q; subst ey; subst eH;exact⟨.refl,R,uy k⟩
def xF(f:AE):az→AH→Ex AI:=fun s h=>(f s h).bind fun v h1=>match v with
 | .ref n=>(match h1.get n with
  | some (.bA kvs)=> .ok (.kys kvs) (h1.set n (.iY kvs))
  | _=> .stuck)
 | _=> .stuck
theorem CG{te:TE}(h:PE X e te):PE X e (fun σ H Q=>te σ H fun x H1=>∃ d kv',x = .ref d∧H1 d=some (.dK kv')∧∀ od,Q x (upd H1 d (.frz od (.dK kv')))) :=
 ⟨fun pins s σ H Q I q=>wpAny_mono (h.run pins s σ H _ I q) (fun v s1 ⟨x,H1,I1,rx,d,kv',ex,hd,w⟩=>by
  obtain⟨od,I2⟩:=I1.lock hd trivial;exact⟨x,_,I2,rx,w od⟩) (fun _ _ z=>z)⟩
theorem CS{tg:Expr}{f:AE}(he:ME X a0 e f):MI X a0 tg e (xF f) :=
 PI.imp (pi_keys (CG he)) fun σ H R ⟨μ,s,ah,hs,hr,p⟩=>⟨μ,s,ah,hs,hr,(ag.bind p).mono fun x H1 ⟨μ1,v,h1,e1,hr1,r1,p1⟩=>by
  split at p1
  ·rename_i n;split at p1
   ·rename_i kvs g;obtain⟨a,hn,kv',hH,r⟩:=hr1.obj n _ g;cases r1 with
    | ref e'=>
     rw[hn]at e'; cases e';refine⟨a,kv',rfl,hH,fun od=> ?_⟩
     obtain⟨e2,R2⟩:=hr1.lock (ob:=od) g hn hH r;have p2:=ag.ext (W:=Cx.wd X a0) (rel:=RI (Cx.wd X a0)) (r:=.ok (AI.kys kvs) (h1.set n (.iY kvs))) p1 e2;exact⟨a,od,rfl,.inl ⟨kv',upd_same,ag.ret (W:=Cx.wd X a0) (rel:=RI (Cx.wd X a0)) p2 R2 (wI upd_same (r.ext e2))⟩⟩
   ·exact p1.elim
  ·exact p1.elim⟩
def qL(f:AE):az→AH→Ex AI:=fun s h=>(f s h).bind fun v h1=>match kX v h1 with
 | some kvs=> .ok (.kys kvs) h1
 | none=>(match kN v h1 with
  | some J=> .ok J h1
  | none=> .stuck)
theorem Bn{tg:Expr}{f:AE}(he:ME X a0 e f):MI X a0 tg e (qL f) :=
 PI.imp (PI.or (pi_keys he) (vC (tg:=tg) he)) fun σ H R ⟨μ,s,ah,hs,hr,p⟩=>by
  unfold qL at p;cases q:f s ah with
  | stuck=>rw[q]at p; exact p.elim
  | ok v h1=>
   rw[q]at p;have p':ag (Cx.wd X a0) (RI (Cx.wd X a0)) μ H (match kX v h1 with
    | some kvs=> .ok (.kys kvs) h1
    | none=>(match kN v h1 with
     | some J=> .ok J h1
     | none=> .stuck)) R:=p
   cases hl:kX v h1 with
   | none=>
    rw[hl]at p';refine .inr ⟨μ,s,ah,hs,hr, ?_⟩;unfold iD;rw[q];exact p'
   | some kvs=>
    rw[hl]at p';refine .inl ⟨μ,s,ah,hs,hr, ?_⟩;rw[q];intro μ' H' x e' R' r;obtain⟨d,ob,kv',rfl,hH,rr⟩:=R'.iY hl r;exact⟨d,ob,rfl,.inl ⟨kv',hH,p' μ' H' _ e' R' (wI hH rr)⟩⟩
theorem SR.keep{W μ H H'}(e:∀ a ys,SqT W.K H a ys→SqT W.K H' a ys):∀{s σ},SR W μ H s σ → SR W μ H' s σ
 | _,_,.nil=> .nil
 | _,_,.some r t=> .some (r.keep e) (SR.keep e t)
 | _,_,.none t=> .none (SR.keep e t)
theorem zT{st:Stmt}{pk:az→AH→Option Nat}{f:AS}(h:MS X a0 st f):MS X a0 st (fI pk f) :=
 ⟨fun pins s0 σ H D I q=>by
  obtain⟨μ,s,ah,hs,hr,p⟩:=q;unfold fI at p;split at p
  ·rename_i n _;split at p
   ·rename_i kvs g;obtain⟨a,hn,kv',hH,r⟩:=hr.obj n _ g;refine(ps_lock h).run pins s0 σ H D I ⟨a,_,hH,trivial,fun od=> ?_⟩
    obtain⟨e1,R1⟩:=hr.lock (ob:=od) g hn hH r;refine⟨μ,s,_,hs.ext e1,R1, ?_⟩;cases q:f s (ah.set n (.iY kvs))with
    | stuck=>rw[q]at p; exact p.elim
    | ok fl h1=>
     rw[q]at p;have p2:aQ (Cx.wd X a0) μ H (if mx h1 n=true then Ex.ok fl (qg n kvs h1)else .stuck) D:=p
     split at p2
     ·rename_i hl
      cases fl<;>(
       intro μ' H' x E R' rx;have hH':=E.frz a od _ upd_same;obtain⟨E2,R2⟩:=kK hr hn hH E R' hH' r hl;exact⟨hH',p2 μ' _ x E2 R2 (rx.keep (fA hH'))⟩)
     ·exact p2.elim
   ·exact p.elim
  ·exact h.run pins s0 σ H D I ⟨μ,s,ah,hs,hr,p⟩⟩
theorem Ext.grow{W:Wd}{μ:List Addr}{H H':Hp}(h:∀ b o,H b=some o→H' b=some o):Ext W μ H μ H' :=
 ⟨fun _ _ z=>z,fun a ys z=>z.elim (fun z=> .inl (z.elim (fun z=> .inl (h _ _ z)) fun⟨o,z⟩=> .inr ⟨o,h _ _ z⟩)) .inr,fun a o u z=>h _ _ z,fun a f z=>h _ _ z⟩
theorem OR.grow{W:Wd}{μ μ':List Addr}{H H':Hp}{ao:AO}{a:Addr}(z:OR W μ H ao a)(h:∀ b o,H b=some o→H' b=some o)(e:Ext W μ H μ' H'):OR W μ' H' ao a:=by
 obtain⟨o,q,_⟩:=z.xM;exact z.keep e ((h _ _ q).trans q.symm)
theorem HR.grow{W:Wd}{μ:List Addr}{H H':Hp}{ah:AH}(R:HR W μ ah H)(h:∀ b o,H b=some o→H' b=some o):HR W μ ah H' :=
 ⟨R.sz,R.full,R.nd,fun n ao e=>let ⟨a,h1,h2⟩:=R.obj n ao e; ⟨a,h1,h2.grow h (Ext.grow h)⟩,R.scr.elim (fun⟨o,z⟩=> .inl ⟨o,h _ _ z⟩) .inr⟩
theorem HR.B3{W:Wd}{μ:List Addr}{H:Hp}{ah:AH}{p:Addr}{ao:AO}(R:HR W μ ah H)(hp:p∉ μ)(ho:OR W (μ ++ [p]) H ao p):Ext W μ H (μ ++ [p]) H∧HR W (μ ++ [p]) (ah.push ao) H:=by
 have e0:Ext W μ H (μ ++ [p]) H:=⟨fun n a h=>by rw[Kc (Jl.mp h).1]; exact h,fun _ _ z=>z,fun _ _ _ z=>z,fun _ _ z=>z⟩
 refine⟨e0,by simp [AH.push,R.sz],fun n hn=> ?_, ?_,fun n ao' e=> ?_,R.scr⟩
 ·rw[AH.cM];by_cases h:n=ah.n
  ·exact⟨ao,by simp [h]⟩
  ·rw[if_neg h];exact R.full n (by have:n<ah.n+1:=hn; omega)
 ·refine L9.mpr ⟨R.nd,by simp,fun a ha b hb=> ?_⟩
  rw[J8]at hb;subst hb;exact fun z=>hp (z ▸ ha)
 ·rw[AH.cM]at e;by_cases h:n=ah.n
  ·rw[if_pos h]at e; cases e;refine⟨p, ?_,ho⟩;rw[h,R.sz]; simp
  ·rw[if_neg h]at e;obtain⟨a,h1,h2⟩:=R.obj n ao' e;exact⟨a,e0.pre n a h1,h2.keep e0 rfl⟩
theorem HR.last{W:Wd}{μ:List Addr}{H:Hp}{ah:AH}{p:Addr}(R:HR W μ ah H):(μ ++ [p])[ah.n]? = some p:=by rw[R.sz]; simp
def itemsOf(kvs:List (Key×AV)):List AV:=kvs.map fun kv=> .tup [kA kv.1,kv.2]
def Iw(f:AE):AE:=fun s h=>(f s h).bind fun v h1=>match v with
 | .ref n=>(match h1.get n with
  | some (.bA kvs)=> .ok (.ref h1.n) (h1.push (.lst (itemsOf kvs)))
  | _=> .stuck)
 | _=> .stuck
theorem oO{W:Wd}{μ:List Addr}{H:Hp}:∀{kvs:List (Key×AV)} {kv':List (Key×V)} {ts:List Addr},bj W μ H kvs kv'→Paired (fun(t:Addr) (q:Key×V)=>H t=some (.tup [kV q.1,q.2])) ts kv'→aV W μ H (itemsOf kvs) (ts.map V.ref)
 | _,_,_,.nil,h=>by cases h; exact .nil
 | _,_,_,.cons r t,h=>by
  cases h with
  | cons h1 h2=>exact .cons (.tup (.of h1) (.cons (uy _) (.cons r .nil))) (oO t h2)
theorem nE {f:AE} (hc:X.calm=true) (he:ME X a0 e f) (hg:Gl X "list") (hm:X.mg "list" = none) (hs:aC e=true) (hl:aU apos cpos=true) :
  ME X a0 (.Call (.Name "list" p) [.Call (.Attribute e "items" apos) [] [] cpos] [] pos) (Iw f) :=
 PE.imp (LiI.pe_listItems hc he hg hm rfl (a6 hs) hl rfl) fun σ H Q ⟨μ,s,ah,hs,hr,p⟩=>⟨μ,s,ah,hs,hr,(ag.bind p).mono fun x H1 ⟨μ1,v,h1,e1,hr1,r1,p1⟩=>by
  split at p1
  ·split at p1
   ·rename_i kvs g;obtain⟨a,ys,rfl,hn,z1,z2⟩:=hr1.bA g r1;refine⟨a,ys,rfl,z1,fun H' q ts keep hq hts hnot hl' hp=> ?_⟩
    have E1:Ext (Cx.wd X a0) μ1 H1 μ1 H':=Ext.grow keep;have R1:=hr1.grow keep;obtain⟨E2,R2⟩:=R1.B3 (ao:=.lst (itemsOf kvs)) (hr1.Ba hq) ⟨_,hl',aV.ext ⟨fun n a h=>by rw[Kc (Jl.mp h).1]; exact h,fun _ _ z=>z,fun _ _ _ z=>z,fun _ _ z=>z⟩ (oO (z2.ext E1) hp)⟩
    exact p1 _ _ _ (E1.trans E2) R2 (.ref hr1.last)
   ·exact p1.elim
  ·exact p1.elim⟩
theorem A5{m:Str}(h1:aC o=true)(h2:noStar e=true)(h5:aU apos cpos=true):M1 X o m apos e cpos:=by
 have st:starEach [e] X.env=[(false,eval e X.env)]:=aH h2;exact⟨a6 h1,by rw[st]; rfl,h5,by rw[st]; rfl⟩
theorem DR{m:Str}(h1:aC o=true)(h2:noStar a=true)(h3:noStar b=true)(h5:aU apos cpos=true):M2 X o m apos a b cpos:=by
 have st:starEach [a,b] X.env=[(false,eval a X.env),(false,eval b X.env)]:=by rw[aH h2,aH h3]; rfl
 exact⟨a6 h1,by rw[st]; rfl,h5,by rw[st]; rfl⟩
def qO(v:AV)(h:AH):Option (Nat×List (Key×AV)):=match v with
 | .ref n=>(match h.get n with
  | some (.bA kvs)=>some (n,kvs)
  | _=>none)
 | _=>none
theorem HR.qO{W μ ah H}(hr:HR W μ ah H){v:AV}{n}{xs:List (Key×AV)}{x:V}(hg:qO v ah=some (n,xs))(r:Rl W μ H v x):v = .ref n∧ah.get n=some (.bA xs)∧∃ a ys,x = .ref a∧ μ[n]? = some a∧H a=some (.dK ys)∧bj W μ H xs ys:=by
 unfold WC.qO at hg;split at hg
 ·split at hg
  ·rename_i g;cases hg;exact⟨rfl,g,hr.bA g r⟩
  ·cases hg
 ·cases hg
def uM(kvs:List (Key×AV))(k:Key):List (Key×AV):=kvs.filter fun kv=>decide (kv.1≠k)
theorem k7{W μ H}(k:Key):∀{xs ys},bj W μ H xs ys→bj W μ H (uM xs k) (dropK ys k)
 | _,_,.nil=> .nil
 | _,_,.cons (k:=k') r t=>by
  unfold uM dropK;by_cases h:k'=k
  ·simp only[Na,h,ne_eq,not_true,decide_false];exact k7 k t
  ·simp only[Na,ne_eq,h,not_false_eq_true,decide_true];exact .cons r (k7 k t)
def ql(kvs:List (Key×AV))(k:Key)(v:AV):List (Key×AV) :=
 if (kvs.any fun kv=>decide (kv.1=k))=true then kvs.map (fun kv=>if kv.1=k then(kv.1,v)else kv)else kvs++[(k,v)]
theorem bj.any{W μ H}{q:Key→Bool}:∀{xs ys},bj W μ H xs ys→(xs.any fun kv=>q kv.1)=(ys.any fun kv=>q kv.1)
 | _,_,.nil=>rfl
 | _,_,.cons (k:=k') r t=>by simp only[List.any_cons,bj.any (q:=q) t]
theorem bj.append{W μ H}:∀{xs ys us vs},bj (κ:=Key) W μ H xs us→bj W μ H ys vs→bj W μ H (xs++ys) (us++vs)
 | _,_,_,_,.nil,s=>s
 | _,_,_,_,.cons r t,s=> .cons r (bj.append t s)
theorem nS{W μ H}(k:Key){v x}(r0:Rl W μ H v x):∀{xs ys},bj W μ H xs ys→bj W μ H (xs.map fun kv=>if kv.1=k then(kv.1,v)else kv) (ys.map fun kv=>if kv.1=k then(kv.1,x)else kv)
 | _,_,.nil=> .nil
 | _,_,.cons (k:=k') r t=>by
  simp only[JU];by_cases h:k'=k
  ·simp only[h,if_true]; exact .cons r0 (nS k r0 t)
  ·simp only[h,if_false]; exact .cons r (nS k r0 t)
theorem ng{W μ H}(k:Key){v x}{xs ys}(r0:Rl W μ H v x)(r:bj W μ H xs ys):bj W μ H (ql xs k v) (putK ys k x):=by
 unfold ql putK;rw[r.any (q:=fun z=>decide (z=k))]
 split
 ·exact nS k r0 r
 ·exact r.append (.cons r0 .nil)
def AU(f g:AE):AE:=fun s h=>(f s h).bind fun v h1=>match qO v h1 with
 | some _=>(g s h1).bind fun y h2=>(match qO v h2,cA y with
  | some (n,kvs),some k=>(match gJ kvs k with
   | some w=> .ok w (h2.set n (.bA (uM kvs k)))
   | none=> .stuck)
  | _,_=> .stuck)
 | none=> .stuck
theorem zK {f g:AE} (ho:ME X a0 o f) (he:ME X a0 e g) (h1:aC o=true) (h2:noStar e=true) (h5:aU apos cpos=true):ME X a0 (.Call (.Attribute o "pop" apos) [e] [] cpos) (AU f g) :=
 PE.imp (pe_dpop1 ho he (A5 h1 h2 h5)) fun σ H Q ⟨μ,s,ah,hs,hr,p⟩=>⟨μ,s,ah,hs,hr,(ag.bind p).mono fun x H1 ⟨μ1,v,h1,e1,hr1,r1,p1⟩=>by
  split at p1
  ·rename_i nk q;obtain⟨n0,kvs0⟩:=nk;obtain⟨rfl,g0,a,ys,rfl,hn,z1,z2⟩:=hr1.qO q r1;refine⟨a,rfl,.inl ⟨ys,.of z1⟩,μ1,s,h1,hs.ext e1,hr1,(ag.bind p1).mono fun y H2 ⟨μ2,w,h2,e2,hr2,r2,p2⟩=> ?_⟩
   split at p2
   ·rename_i n kvs k q1 q2;split at p2
    ·rename_i w' q3;obtain⟨en,g2,a2,ys2,ea,hn2,z3,z4⟩:=hr2.qO q1 ((Rl.ref hn).ext e2);cases en; cases ea;rcases z4.val (k:=k)with ⟨y1,_⟩ | ⟨v',x',y1,y2,y3⟩
     ·rw[y1]at q3; cases q3
     ·rw[y1]at q3; cases q3;obtain⟨E,R⟩:=je hr2 g2 hn2 z3 z4 (k7 k z4);exact⟨ys2,k,x',z3,bW r2 q2,y2,p2 _ _ _ E R (y3.ext E)⟩
    ·exact p2.elim
   ·exact p2.elim
  ·exact p1.elim⟩
def uo(f g:AE):AE:=fun s h=>(f s h).bind fun v h1=>match qO v h1 with
 | some _=>(g s h1).bind fun y h2=>(match qO v h2,cA y with
  | some (_,kvs),some k=> .ok ((gJ kvs k).getD .non) h2
  | _,_=> .stuck)
 | none=> .stuck
theorem wW {f g:AE} (hu:X.A.units+1<cLine) (ho:ME X a0 o f) (he:ME X a0 e g) (h1:aC o=true) (h2:noStar e=true) (h5:aU apos cpos=true):ME X a0 (.Call (.Attribute o "get" apos) [e] [] cpos) (uo f g) :=
 PE.imp (pe_dget1 hu ho he (A5 h1 h2 h5)) fun σ H Q ⟨μ,s,ah,hs,hr,p⟩=>⟨μ,s,ah,hs,hr,(ag.bind p).mono fun x H1 ⟨μ1,v,h1,e1,hr1,r1,p1⟩=>by
  split at p1
  ·rename_i nk q;obtain⟨n0,kvs0⟩:=nk;obtain⟨rfl,g0,a,ys,rfl,hn,z1,z2⟩:=hr1.qO q r1;refine⟨a,rfl,.inl ⟨ys,.of z1⟩,μ1,s,h1,hs.ext e1,hr1,(ag.bind p1).mono fun y H2 ⟨μ2,w,h2,e2,hr2,r2,p2⟩=> ?_⟩
   split at p2
   ·rename_i n kvs k q1 q2;obtain⟨en,g2,a2,ys2,ea,hn2,z3,z4⟩:=hr2.qO q1 ((Rl.ref hn).ext e2);cases en; cases ea;refine⟨_,.inl ⟨ys2,k,.of z3,bW r2 q2,rfl⟩, ?_⟩;rcases z4.val (k:=k)with ⟨y1,y2⟩ | ⟨v',x',y1,y2,y3⟩
    ·rw[y1]at p2; rw[y2]; exact p2.ret hr2 .non
    ·rw[y1]at p2; rw[y2]; exact p2.ret hr2 y3
   ·exact p2.elim
  ·exact p1.elim⟩
def xw(f g d:AE):AE:=fun s h=>(f s h).bind fun v h1=>match qO v h1 with
 | some _=>(g s h1).bind fun y h2=>(d s h2).bind fun z h3=>(match qO v h3,cA y with
  | some (_,kvs),some k=> .ok ((gJ kvs k).getD z) h3
  | _,_=> .stuck)
 | none=> .stuck
theorem vw {f g d:AE} {c:Expr} (hu:X.A.units+1<cLine) (ho:ME X a0 o f) (he:ME X a0 e g) (hd:ME X a0 c d) (h1:aC o=true) (h2:noStar e=true) (h3:noStar c=true) (h5:aU apos cpos=true):ME X a0 (.Call (.Attribute o "get" apos) [e,c] [] cpos) (xw f g d) :=
 PE.imp (pe_dget2 hu ho he hd (DR h1 h2 h3 h5)) fun σ H Q ⟨μ,s,ah,hs,hr,p⟩=>⟨μ,s,ah,hs,hr,(ag.bind p).mono fun x H1 ⟨μ1,v,h1,e1,hr1,r1,p1⟩=>by
  split at p1
  ·rename_i nk q;obtain⟨n0,kvs0⟩:=nk;obtain⟨rfl,g0,a,ys,rfl,hn,z1,z2⟩:=hr1.qO q r1;refine⟨a,rfl,.inl ⟨ys,.of z1⟩,μ1,s,h1,hs.ext e1,hr1,(ag.bind p1).mono fun y H2 ⟨μ2,w,h2,e2,hr2,r2,p2⟩=> ?_⟩
   refine⟨μ2,s,h2,(hs.ext e1).ext e2,hr2,(ag.bind p2).mono fun z H3 ⟨μ3,w3,h3,e3,hr3,r3,p3⟩=> ?_⟩
   split at p3
   ·rename_i n kvs k q1 q2;obtain⟨en,g2,a2,ys2,ea,hn2,z3,z4⟩:=hr3.qO q1 ((Rl.ref hn).ext (e2.trans e3));cases en; cases ea;refine⟨_,.inl ⟨ys2,k,.of z3,bW r2 q2,rfl⟩, ?_⟩;rcases z4.val (k:=k)with ⟨y1,y2⟩ | ⟨v',x',y1,y2,y3⟩
    ·rw[y1]at p3; rw[y2]; exact p3.ret hr3 r3
    ·rw[y1]at p3; rw[y2]; exact p3.ret hr3 y3
   ·exact p3.elim
  ·exact p1.elim⟩
theorem yR:ME X a0 (.Dict [] [] pos) (fun _ h=> .ok (.ref h.n) (h.push (.bA []))) :=
 PE.imp pe_dnewK fun σ H Q ⟨μ,s,ah,hs,hr,p⟩ q hq=>nU hr .nil p hq
def DG(J:AI)(g:AG)(t:AT)(ek ev:AE)(s:az)(d:Nat):Nat→Nat→AH→Ex AV
 | 0,_,_=> .stuck
 | f+1,i,h=>match bf J i h with
  | none=> .stuck
  | some none=> .ok (.ref d) h
  | some (some v)=>(g v s h).bind fun s1 h1=>(t s1 h1).bind fun b h2=>if b=true then(ek s1 h2).bind fun y h3=>(ev s1 h3).bind fun z h4=>(match h4.get d with
    | some (.bA acc)=>(match cA y with
     | some k=>if acc.length<sizeLine then DG J g t ek ev s d f (i+1) (h4.set d (.bA (ql acc k z)))else .stuck
     | none=> .stuck)
    | _=> .stuck)else DG J g t ek ev s d f (i+1) h2
def Gp(F:Nat)(fi:az→AH→Ex AI)(g:AG)(t:AT)(ek ev:AE)(vs:List Nat):AE:=fun s h=>(fi s h).bind fun J h1=>DG J g t ek ev (a5 s vs) h1.n F 0 (h1.push (.bA []))
theorem Bq{W:Wd}{F:Nat}{fi:az→AH→Ex AI}{g:AG}{t:AT}{ek ev:AE}{vs is:List Nat}{σ:St}{H:Hp}{Q:VK}(hv:∀ i∈is,i∈vs)(h:d8 W (Gp F fi g t ek ev vs) σ H Q):tDc (A7 W fi) (qd W is g) (pN W t) (d8 W ek) (d8 W ev) vs σ H Q:=by
 obtain⟨μ,s,ah,hs,hr,p⟩:=h;refine⟨μ,s,ah,hs,hr,(ag.bind p).mono fun J H1 ⟨μ1,aJ,h1,e1,hr1,rJ,p1⟩ D hD=> ?_⟩
 have E0:Ext W μ1 H1 (μ1++[D]) (upd H1 D (.dK [])):=Ext.cb hD;have R0:HR W (μ1++[D]) (h1.push (.bA [])) (upd H1 D (.dK [])):=hr1.push hD ⟨[],upd_same,.nil⟩;have hd:(μ1++[D])[h1.n]? = some D:=by rw[hr1.sz]; simp
 refine⟨fun i m H=>∃ μ2 h2,Ext W (μ1++[D]) (upd H1 D (.dK [])) μ2 H∧HR W μ2 h2 H∧bh W μ2 H (DG aJ g t ek ev (a5 s vs) h1.n m i h2) Q,⟨F,_,_,.refl,R0,p1.ext E0⟩, ?_⟩
 rintro i m H2 ⟨μ2,h2,e2,hr2,p2⟩;cases m with
 | zero=>exact p2.elim
 | succ m=>
  unfold DG at p2;have z:=rJ μ2 H2 h2 i (E0.trans e2) hr2;split at p2
  ·exact p2.elim
  ·rename_i q;rw[q]at z;exact .inl ⟨z,p2.ret hr2 (.ref (e2.pre _ _ hd))⟩
  ·rename_i v q;rw[q]at z;refine .inr ⟨z.1,fun H'=>∃ μ3 h3,Ext W (μ1++[D]) (upd H1 D (.dK [])) μ3 H'∧HR W μ3 h3 H'∧bh W μ3 H' (DG aJ g t ek ev (a5 s vs) h1.n m (i+1) h3) Q,fun H' h'=>⟨m,Jy m,h'⟩,fun x H3 hy=> ?_⟩
   obtain⟨e3,hr3,rv⟩:=z.2 x H3 hy;have e03:=E0.trans (e2.trans e3);refine⟨μ2,v,a5 s vs,h2,((hs.ext e1).ext e03).wipe vs,hr3,rv,(ag.bind (p2.ext e3)).mono fun σ4 H4 ⟨μ4,s4,h4,e4,hr4,⟨hs4,c4⟩,p4⟩=>⟨fm c4 hv, ?_⟩⟩
   refine⟨μ4,s4,h4,hs4,hr4,(ag.bind p4).mono fun b H5 ⟨μ5,b',h5,e5,hr5,eb,p5⟩=> ?_⟩
   have eb':b'=b:=eb;subst eb';cases b' with
   | true=>
    rw[if_pos rfl]at p5 ⊢;refine⟨μ5,s4,h5,hs4.ext e5,hr5,(ag.bind p5).mono fun y H6 ⟨μ6,w,h6,e6,hr6,ry,p6⟩=> ?_⟩
    refine⟨μ6,s4,h6,(hs4.ext e5).ext e6,hr6,(ag.bind p6).mono fun y2 H7 ⟨μ7,w7,h7,e7,hr7,ry7,p7⟩=> ?_⟩
    have eD:=e2.trans (e3.trans (e4.trans (e5.trans (e6.trans e7))));split at p7
    ·rename_i acc hg;split at p7
     ·rename_i k hk;split at p7
      ·rename_i hl;obtain⟨a,ys,ea,hn,hH,r2⟩:=hr7.bA hg (.ref (eD.pre _ _ hd));cases ea;obtain⟨e8,hr8⟩:=je hr7 hg hn hH r2 (ng k ry7 r2);exact⟨ys,k,bW ry hk,hH,r2.length ▸ hl,μ7,_,eD.trans e8,hr8,p7.ext e8⟩
      ·exact p7.elim
     ·exact p7.elim
    ·exact p7.elim
   | false=>
    rw[if_neg J9]at p5 ⊢;exact⟨μ5,h5,e2.trans (e3.trans (e4.trans e5)),hr5,p5⟩
theorem Eo{kx vx tg iter:Expr}{ifs:List Expr}{scope:Scope}{own:List (Str×Nat)}{F:Nat}{fi:az→AH→Ex AI}{g:AG}{t:AT}{ek ev:AE}{is:List Nat}(hc:X.calm=true)(hN:X.N.Nodup)(hi:MI X a0 tg iter fi)(ok:BlkOk X.N X.env.scope scope own)(hv:∀ i∈is,i∈own.map (·.2))
  (hg:iU X scope fun Y=>MG Y a0 tg is g) (ht:iU X scope fun Y=>uj Y a0 ifs t) (hk:iU X scope fun Y=>ME Y a0 kx ek) (he:iU X scope fun Y=>ME Y a0 vx ev) (hs:ck iter=true) :
  ME X a0 (.DictComp kx vx [⟨tg,iter,ifs,0⟩] scope pos) (Gp F fi g t ek ev (own.map (·.2))) :=
 PE.imp (pe_dc (g:=qd (Cx.wd X a0) is g) (tt:=pN (Cx.wd X a0) t) (tk:=d8 (Cx.wd X a0) ek) (tv:=d8 (Cx.wd X a0) ev) hc hN hi ok (fun s H C cl fp=>hg s H C cl fp) (fun s H C cl fp=>ht s H C cl fp) (fun s H C cl fp=>hk s H C cl fp) (fun s H C cl fp=>he s H C cl fp) (ef hs)) fun _ _ _ h=>Bq hv h
end
end WC
namespace WC
open PySem PySem.Spec PyProof.Rows L2
theorem WalksS.shift{prog:Program}{w:World}{A:Around}{I:Addr}{fp wr:List Addr}{G:Array GenState→Array GenState→Prop}{n:Nat}{P:Nat→Value→Prop}{St:Nat→Shared→Prop}
  (W:WalksS prog w A I fp wr G n P St) (k:Nat) (hk:k≤n):WalksS prog w A I fp wr G (n - k) (fun i=>P (i+k)) (fun i=>St (i+k)) where
 sub:=W.sub
 grefl:=W.grefl
 gtrans:=W.gtrans
 frame:=fun i=>W.frame (i+k)
 item:=fun i s Q E hi st hQ=>W.item (i+k) s Q E (by omega) st fun v s' hp hst m=>hQ v s' hp (by rw[show i+1+k=i+k+1 by omega]; exact hst) m
 done:=fun s Q E st hQ=>W.done s Q E (by rw[show n - k+k=n by omega]at st; exact st) hQ
 self:=fun i=>W.self (i+k)
section
variable {prog:Program}{w:World}{A:Around}{E:Value→Shared→Prop}{s:Shared}
theorem i8{t:Addr}{items:Array Value}{i after:Nat}{Q:List Value→Shared→Prop}(hh:A.handled=none)(ht:IsTup s.heap t items)(hle:i+after≤items.size)(hz:items.size≤sizeLine)
  (hQ:∀ h' tk L,(∀ b o,s.heap.get? b=some o→h'.get? b=some o)→s.heap.get? L=none→h'.get? L=some { cls:=.type "list",data:=.seq ((items.toList.drop i).take (items.size - i - after)).toArray }→
   Q (items.toList.take i++[.ref L]++items.toList.drop (items.size - after)) { s with heap:=h',toks:=tk }):wpAny (model prog w) A (unpackItems (.ref t) (i+1+after) (some i)) Q E s:=by
 have hlt:t≠s.heap.objs.size:=by obtain⟨o,ho,_⟩:=ht; exact Jx (Heap.lt_size ho)
 unfold unpackItems;refine wpAny_bind ?_;unfold notIterableAtAll;refine wpAny_bind (wpAny_specialOf ht.typeIs slot_tuple_iter.lookup ?_);refine wpAny_pure ?_;simp only[Jp,if_false];refine wpAny_bind (wpAny_holding (iter_tuple ht ?_));refine wpAny_bind (wpAny_holding (draw_tuple hlt i 0 _ _ ⟨_,Heap.get?_push_size _ rfl,rfl,rfl⟩ (ht.push _) (by omega) fun h₁ hit₁ hs₁=> ?_))
 have ht₁:IsTup h₁ t items:=(ht.push _).extBut hs₁.extBut hlt;have hl1:((items.toList.drop 0).take i).length=i:=by rw[KG,J0,J5]; omega
 rw[if_neg (by rw[hl1]; omega)]
 have yf:s.heap.objs.size<h₁.objs.size:=by obtain⟨o,ho,_⟩:=hit₁; exact Heap.lt_size ho
 have htl:t<h₁.objs.size:=by obtain⟨o,ho,_⟩:=ht₁; exact Heap.lt_size ho
 refine wpAny_bind (wpAny_holding (wpAny_collect_iter (n:=items.size - i) (.inr (.inr (.inr rfl))) (WalksS.shift (Walks.tuple (A:=A.in1) hh s.heap.objs.size t hlt items).toS i (by omega)) (fun _ _ st=>let ⟨o,ho,hc,_⟩:=st.1; ⟨o,ho,hc⟩)
  ⟨by rw[MX]at hit₁ ⊢; exact hit₁,ht₁⟩ (fun b hb=>by
   have e':b=s.heap.objs.size∨b=t:=by simpa using hb
   rcases e' with rfl | rfl
   ·exact yf
   ·exact htl) (by simp) (fun s' acc m ha=> ?_) (by omega)))
 obtain⟨ha1,ha2⟩:=ha;have hacc:acc.toList=items.toList.drop i:=by
  apply Lb;intro j;rw[LZ,JW,JW];cases q:acc[j]? with
  | some v=>
   have:=ha2 j v q;rw[show i+j=j+i by omega,this]
  | none=>
   have:=JT.mp q;symm;rw[JT];omega
 have hl2:acc.toList.length=items.size - i:=by rw[hacc,Ll,J5]
 have eaf:i+1+after - 1 - i=after:=by omega
 simp only[eaf];rw[if_neg (by rw[hl2]; omega)]
 have hm:acc.toList.length - after=items.size - i - after:=by rw[hl2]
 rw[hm];refine wpAny_bind (wpAny_newObj_type ?_ (by show(MY (items.size - i - after) acc.toList).toArray.size≤sizeLine; rw[Kg,J0]; exact Js (Lm _ _) (by rw[hl2]; omega)))
 refine wpAny_pure ?_;have es:s' = { s with heap:=s'.heap,toks:=s'.toks }:=by
  obtain⟨h,g,d,tk,os⟩:=s';obtain⟨m1,m2,m3,m4,m5⟩:=m;simp only at m2 m3 m4;subst m2; subst m3; subst m4;rfl
 have hk:∀ b o,s.heap.get? b=some o→s'.heap.get? b=some o:=fun b o e=>by
  have hb:b≠s.heap.objs.size:=Jx (Heap.lt_size e);exact m.heap b o (by simpa using hb) (hs₁.2 b hb |>.trans (Heap.get?_push_of_some _ e))
 have hsz':s.heap.get? s'.heap.objs.size=none:=by
  cases q:s.heap.get? s'.heap.objs.size with
  | none=>rfl
  | some o=>exact absurd (Heap.lt_size (hk _ _ q)) (ML _)
 have r:=hQ (s'.heap.push { cls:=.type "list",data:=.seq (acc.toList.take (items.size - i - after)).toArray }) s'.toks s'.heap.objs.size (fun b o e=>Heap.get?_push_of_some _ (hk b o e)) hsz' (by rw[←hacc]; exact Heap.get?_push_size _ rfl)
 rw[es];have e1:items.toList.drop (items.size - after)=acc.toList.drop (items.size - i - after):=by
  rw[hacc,LN]; congr 1; omega
 rw[e1]at r;rw[KG];exact r
theorem lH{it t:Addr}{items:Array Value}(hne:t≠it):∀(n i:Nat) (s:Shared) (Q:List Value→Shared→Prop),s.heap.IsListIter it t i→s.heap.IsList t items→i+n≤items.size→
  (∀ h',h'.IsListIter it t (i+n)→Heap.SameBut it s.heap h'→Q ((items.toList.drop i).take n) { s with heap:=h' })→wpAny (model prog w) A (draw (.ref it) n) Q E s
 | 0,i,s,Q,hit,_,_,k=>wpAny_pure (by simpa using k s.heap hit (Heap.SameBut.refl ..))
 | n+1,i,s,Q,hit,ht,hle,k=>by
  have lt:i<items.size:=by omega
  show wpAny _ _ (pyNext (.ref it) >>= _) Q E s;refine wpAny_bind (wpAny_pyNext_list_item hit ht (x:=items[i]) (by simp [lt]) fun h1 hit1 sb1=>wpAny_bind (wpAny_holding (lH hne n (i+1) _ _ hit1 (ht.extBut sb1.extBut hne) (by omega) fun h2 hit2 sb2=>wpAny_pure ?_)))
  have q:=k h2 (by rw[show i+(n+1)=i+1+n by omega]; exact hit2) (sb1.trans sb2)
  rw[show items.toList.drop i=items[i]::items.toList.drop (i+1) by simp [List.drop_eq_getElem_cons,lt],List.take_succ_cons]at q
  exact q
theorem iC{t:Addr}{items:Array Value}{i after:Nat}{Q:List Value→Shared→Prop}(hh:A.handled=none)(ht:s.heap.IsList t items)(hle:i+after≤items.size)(hz:items.size≤sizeLine)
  (hQ:∀ h' tk L,(∀ b o,s.heap.get? b=some o→h'.get? b=some o)→s.heap.get? L=none→h'.get? L=some { cls:=.type "list",data:=.seq ((items.toList.drop i).take (items.size - i - after)).toArray }→
   Q (items.toList.take i++[.ref L]++items.toList.drop (items.size - after)) { s with heap:=h',toks:=tk }):wpAny (model prog w) A (unpackItems (.ref t) (i+1+after) (some i)) Q E s:=by
 have hlt:t≠s.heap.objs.size:=by obtain⟨o,ho,_⟩:=ht; exact Jx (Heap.lt_size ho)
 unfold unpackItems;refine wpAny_bind ?_;unfold notIterableAtAll;refine wpAny_bind (wpAny_specialOf ht.typeIs slot_list_iter.lookup ?_);refine wpAny_pure ?_;simp only[Jp,if_false];refine wpAny_bind (wpAny_holding (wpAny_pyIter_list ht ?_));refine wpAny_bind (wpAny_holding (lH hlt i 0 _ _ ⟨_,Heap.get?_push_size _ rfl,rfl,rfl⟩ (ht.push _) (by omega) fun h₁ hit₁ hs₁=> ?_))
 have ht₁:h₁.IsList t items:=(ht.push _).extBut hs₁.extBut hlt;have hl1:((items.toList.drop 0).take i).length=i:=by rw[KG,J0,J5]; omega
 rw[if_neg (by rw[hl1]; omega)]
 have yf:s.heap.objs.size<h₁.objs.size:=by obtain⟨o,ho,_⟩:=hit₁; exact Heap.lt_size ho
 have htl:t<h₁.objs.size:=by obtain⟨o,ho,_⟩:=ht₁; exact Heap.lt_size ho
 refine wpAny_bind (wpAny_holding (wpAny_collect_iter (n:=items.size - i) (.inr (.inr (.inl rfl))) (WalksS.shift (Walks.list (A:=A.in1) hh s.heap.objs.size t hlt items).toS i (by omega)) (fun _ _ st=>let ⟨o,ho,hc,_⟩:=st.1; ⟨o,ho,hc⟩)
  ⟨by rw[MX]at hit₁ ⊢; exact hit₁,ht₁⟩ (fun b hb=>by
   have e':b=s.heap.objs.size∨b=t:=by simpa using hb
   rcases e' with rfl | rfl
   ·exact yf
   ·exact htl) (by simp) (fun s' acc m ha=> ?_) (by omega)))
 obtain⟨ha1,ha2⟩:=ha;have hacc:acc.toList=items.toList.drop i:=by
  apply Lb;intro j;rw[LZ,JW,JW];cases q:acc[j]? with
  | some v=>
   have:=ha2 j v q;rw[show i+j=j+i by omega,this]
  | none=>
   have:=JT.mp q;symm;rw[JT];omega
 have hl2:acc.toList.length=items.size - i:=by rw[hacc,Ll,J5]
 have eaf:i+1+after - 1 - i=after:=by omega
 simp only[eaf];rw[if_neg (by rw[hl2]; omega)]
 have hm:acc.toList.length - after=items.size - i - after:=by rw[hl2]
 rw[hm];refine wpAny_bind (wpAny_newObj_type ?_ (by show(MY (items.size - i - after) acc.toList).toArray.size≤sizeLine; rw[Kg,J0]; exact Js (Lm _ _) (by rw[hl2]; omega)))
 refine wpAny_pure ?_;have es:s' = { s with heap:=s'.heap,toks:=s'.toks }:=by
  obtain⟨h,g,d,tk,os⟩:=s';obtain⟨m1,m2,m3,m4,m5⟩:=m;simp only at m2 m3 m4;subst m2; subst m3; subst m4;rfl
 have hk:∀ b o,s.heap.get? b=some o→s'.heap.get? b=some o:=fun b o e=>by
  have hb:b≠s.heap.objs.size:=Jx (Heap.lt_size e);exact m.heap b o (by simpa using hb) (hs₁.2 b hb |>.trans (Heap.get?_push_of_some _ e))
 have hsz':s.heap.get? s'.heap.objs.size=none:=by
  cases q:s.heap.get? s'.heap.objs.size with
  | none=>rfl
  | some o=>exact absurd (Heap.lt_size (hk _ _ q)) (ML _)
 have r:=hQ (s'.heap.push { cls:=.type "list",data:=.seq (acc.toList.take (items.size - i - after)).toArray }) s'.toks s'.heap.objs.size (fun b o e=>Heap.get?_push_of_some _ (hk b o e)) hsz' (by rw[←hacc]; exact Heap.get?_push_size _ rfl)
 rw[es];have e1:items.toList.drop (items.size - after)=acc.toList.drop (items.size - i - after):=by
  rw[hacc,LN]; congr 1; omega
 rw[e1]at r;rw[KG];exact r
end
section
variable {X:Cx}{a0:Addr}{a b e o lo hi tg:Expr}{es:List Expr}{pos p p2 apos cpos tpos:Pos}
def r5(K:Jj)(i after:Nat)(t:TGs):TG:=fun v σ H Q=>∃ a xs,v = .ref a∧(SqT K H a xs∨SqL K H a xs)∧i+after≤xs.length∧
 ∀ p,H p=none→t (xs.take i++[.ref p]++xs.drop (xs.length - after)) σ (upd H p (.lst ((xs.drop i).take (xs.length - i - after)))) Q
theorem Vals.take{xs:List V}{us:List Value}(r:Vals xs us):∀ n,Vals (xs.take n) (us.take n):=by
 induction r with
 | nil=>intro n; simp; exact .nil
 | cons r _ ih=>intro n; cases n with
  | zero=>exact .nil
  | succ n=>exact .cons r (ih n)
theorem Vals.drop{xs:List V}{us:List Value}(r:Vals xs us):∀ n,Vals (xs.drop n) (us.drop n):=by
 induction r with
 | nil=>intro n; simp; exact .nil
 | cons r t ih=>intro n; cases n with
  | zero=>exact .cons r t
  | succ n=>exact ih n
theorem Vals.app{xs:List V}{us:List Value}(r:Vals xs us){ys vs}(q:Vals ys vs):Vals (xs++ys) (us++vs):=by
 induction r with
 | nil=>exact q
 | cons r _ ih=>exact .cons r ih
theorem yK{es:List Expr}{k:Nat}{t:TGs}{i after:Nat}(hc:X.calm=true)(h:PGs X es t)(hn:(assignEach es X.env).length=i+1+after)(hst:(assignEach es X.env).findIdx? (·.1)=some i) :
  PG X (.Tuple es k pos) (r5 X.K i after t):=by
 refine⟨fun pins s σ H v u Q I r hw=> ?_⟩
 obtain⟨a,xs,e1,hq,hl,hw⟩:=hw;subst e1;cases r
 have fin:∀ its:List Value,Vals xs its→xs.length≤sizeLine→∀ h' tk L,(∀ b o,s.heap.get? b=some o→h'.get? b=some o)→s.heap.get? L=none→h'.get? L=some { cls:=.type "list",data:=.seq ((its.toArray.toList.drop i).take (its.toArray.size - i - after)).toArray }→
   wpAny (model X.prog X.w) X.A (assignInOrder ((assignEach es X.env).map (·.2)) (its.toArray.toList.take i++[.ref L]++its.toArray.toList.drop (its.toArray.size - after))) (fun _ s'=>∃ σ' H',Inv X pins σ' H' s'∧Q σ' H') X.xe { s with heap:=h',toks:=tk }:=fun its rv hz h' tk L hk hL hget=>by
  have hlen:xs.length=its.length:=rv.length;have hn':H L=none:=I.hok.gone hL;have eL:its.toArray.toList=its:=by simp
  rw[eL]at hget ⊢;have es:its.toArray.size=xs.length:=by simp [hlen]
  rw[es]at hget ⊢;have I1:Inv X pins σ (upd H L (.lst ((xs.drop i).take (xs.length - i - after)))) { s with heap:=h',toks:=tk }:=by
   refine I.laidN hk hL hn' ⟨?_,_,0,((Vals.drop rv i).take (xs.length - i - after)), ?_⟩
   ·rw[J0]; exact Js (Lm _ _) (by rw[Ll]; omega)
   ·exact hget
  refine h.run pins _ σ _ _ _ Q I1 ?_ (hw L hn');exact Vals.app (Vals.app (Vals.take rv i) (.cons (show RelV (.ref L) (.ref L)from rfl) .nil)) (Vals.drop rv _)
 rw[assign_Tuple];refine wpAny_bind (wpAny_standAt ?_);unfold unpack;rw[hn,hst];rcases hq with hq | hq
 ·obtain⟨its,rv,ht,hz⟩:=I.tuple hq;have hlen:xs.length=its.length:=rv.length;exact wpAny_bind (wpAny_holding (i8 (I.ok.hd hc) ht (by simpa [←hlen]using hl) (by simpa [←hlen]using hz) (fin its rv hz)))
 ·obtain⟨its,rv,ht,hz⟩:=I.list hq;have hlen:xs.length=its.length:=rv.length;exact wpAny_bind (wpAny_holding (iC (I.ok.hd hc) ht.isList (by simpa [←hlen]using hl) (by simpa [←hlen]using hz) (fin its rv hz)))
theorem sT{t:TG}{u:TGs}(h1:PG X e t)(h2:PGs X es u):PGs X (.Starred e p::es) (gCons t u):=by
 refine⟨fun pins s σ H vs us Q I r h=> ?_⟩
 obtain⟨v,vr,e1,h⟩:=h;subst e1;cases r with
 | cons r rr=>
  have hs:(assignEach (.Starred e p::es) X.env).map (·.2)=assign e X.env::(assignEach es X.env).map (·.2):=rfl
  rw[hs];refine assignInOrder_cons (thn (h1.run pins s σ H _ _ _ I r h) fun _ s1 ⟨σ1,H1,I1,q1⟩=> ?_)
  exact h2.run pins s1 σ1 H1 _ _ Q I1 rr q1
theorem tE{is js:List Nat}{f:AG}{g:r9}(ha:MG X a0 e is f)(hb:A0 X a0 es js g):A0 X a0 (.Starred e p::es) (is++js) (dM f g) :=
 PGs.imp (sT ha hb) fun xs σ H Q ⟨μ,vs,s,ah,hs,hr,rv,p⟩=>by
  unfold dM at p;split at p
  ·cases rv with
   | cons r t=>
    refine⟨_,_,rfl,μ,_,s,ah,hs,hr,r,(ag.bind p).mono fun σ1 H1 ⟨μ1,s1,h1,e1,hr1,r1,p1⟩=> ?_⟩
    exact⟨μ1,_,s1,h1,r1.1,hr1,t.ext e1,p1.weak fun _ _ _ _ z=>⟨z.1,(r1.2.mono fun i hi=>J2 _ hi).trans (z.2.mono fun i hi=>JB _ hi)⟩⟩
  ·exact p.elim
def iW:List Expr→Option Nat
 | []=>none
 | .Starred _ _::_=>some 0
 | _::r=>(iW r).map (· + 1)
theorem lX{env:Env}:∀{es:List Expr},(assignEach es env).findIdx? (·.1)=iW es
 | []=>rfl
 | e::es=>by
  cases q:noStar e with
  | true=>
   rw[fe q,LY,lX];cases e<;>first | rfl | (cases q)
  | false=>cases e<;>first | rfl | (cases q)
def qG(v:AV)(h:AH):Option (List AV):=match v with
 | .tup xs=>some xs
 | .ref n=>(match h.get n with
  | some (.lst xs)=>some xs
  | _=>none)
 | _=>none
theorem HR.star{W μ ah H}(hr:HR W μ ah H){v:AV}{xs:List AV}{x:V}(hg:qG v ah=some xs)(r:Rl W μ H v x):∃ a ys,x = .ref a∧(SqT W.K H a ys∨SqL W.K H a ys)∧aV W μ H xs ys:=by
 unfold qG at hg;split at hg
 ·cases hg;cases r with
  | tup h r=>exact⟨_,_,rfl,.inl h,r⟩
 ·split at hg
  ·rename_i g;cases hg;obtain⟨a,ys,rfl,_,z1,z2⟩:=hr.lst g r;exact⟨a,ys,rfl,.inr (.of z1),z2⟩
  ·cases hg
 ·cases hg
def pZ(i after:Nat)(g:r9):AG:=fun v s h=>match qG v h with
 | some xs=>if i+after≤xs.length then g (xs.take i++[.ref h.n]++xs.drop (xs.length - after)) s (h.push (.lst ((xs.drop i).take (xs.length - i - after))))else .stuck
 | none=> .stuck
theorem zR{k:Nat}{is:List Nat}{g:r9}{i after:Nat}(hc:X.calm=true)(h:A0 X a0 es is g)(hs:iW es=some i)(hl:es.length=i+1+after):MG X a0 (.Tuple es k pos) is (pZ i after g) :=
 PG.imp (yK hc h (gU.trans hl) (lX.trans hs)) fun x σ H Q ⟨μ,v,s,ah,hs,hr,rv,p⟩=>by
  unfold pZ at p;split at p
  ·rename_i xs hg;split at p
   ·rename_i hl;obtain⟨a,ys,rfl,hq,r⟩:=hr.star hg rv;refine⟨a,ys,rfl,hq,r.length ▸ hl,fun q hq=> ?_⟩
    have e:Ext (Cx.wd X a0) μ H (μ ++ [q]) (upd H q (.lst ((ys.drop i).take (ys.length - i - after)))):=Ext.cb hq;have el:xs.length=ys.length:=r.length;have r2:=((r.drop i).take (ys.length - i - after));rw[el]at p;have R:=hr.push (o:=.lst ((ys.drop i).take (ys.length - i - after))) (ao:=.lst ((xs.drop i).take (ys.length - i - after))) hq ⟨_,upd_same,r2.ext e⟩;exact⟨_,_,s,_,hs.ext e,R,(((r.take i).ext e).append (.cons (.ref hr.last) .nil)).append ((r.drop (ys.length - after)).ext e),p.ext e⟩
   ·exact p.elim
  ·exact p.elim
def dE(o i v:AV)(h:AH):Ex AV:=match o with
 | .ref n=>(match h.get n with
  | some (.lst xs)=>(match i with
   | .int k=>(match ixN xs.length k with
    | some j=> .ok .non (h.set n (.lst (xs.set j v)))
    | none=> .stuck)
   | _=> .stuck)
  | some (.bA kvs)=>(match cA i with
   | some k=>if kvs.length<sizeLine then .ok .non (h.set n (.bA (ql kvs k v)))else .stuck
   | none=> .stuck)
  | _=> .stuck)
 | _=> .stuck
def EX(W:Wd):TSet:=fun o i v H Q=>∃ μ o' i' v' ah,HR W μ ah H∧Rl W μ H o' o∧Rl W μ H i' i∧Rl W μ H v' v∧ag W (fun _ _ _ _=>True) μ H (dE o' i' v' ah) (fun(_:Unit) H'=>Q H')
theorem Ef(hu:X.A.units+1<cLine):PSet X (EX (Cx.wd X a0)):=by
 intro pins s σ H o i v ov iv u Q I ro ri rv ⟨μ,o',i',v',ah,hr,r1,r2,r3,p⟩;unfold dE at p;split at p
 ·split at p
  ·rename_i xs g;split at p
   ·split at p
    ·rename_i k _ j e;obtain⟨a,ys,rfl,hn,z1,z2⟩:=hr.lst g r1;cases r2;obtain⟨E,R⟩:=dH hr g hn z1 z2 (z2.set j r3);exact set_list pins s σ H _ _ v ov iv u Q I ro ri rv ⟨a,ys,k,j,rfl,rfl,z1,by rw[←z2.length]; exact e,p _ _ () E R trivial⟩
    ·exact p.elim
   ·exact p.elim
  ·rename_i kvs g;split at p
   ·rename_i k q;split at p
    ·rename_i hl;obtain⟨a,ys,rfl,hn,z1,z2⟩:=hr.bA g r1;obtain⟨E,R⟩:=je hr g hn z1 z2 (ng k r3 z2);exact set_dict hu pins s σ H _ _ v ov iv u Q I ro ri rv ⟨a,_,rfl,.inl ⟨ys,k,z1,bW r2 q,z2.length ▸ hl,rfl⟩,p _ _ () E R trivial⟩
    ·exact p.elim
   ·exact p.elim
  ·exact p.elim
 ·exact p.elim
def pB(f g:AE):AG:=fun v s h=>(f s h).bind fun o h1=>(g s h1).bind fun i h2=>(dE o i v h2).bind fun _ h3=> .ok s h3
theorem CC{f g:AE}(hu:X.A.units+1<cLine)(ho:ME X a0 o f)(hi:ME X a0 a g)(hs:il a=true):MG X a0 (.Subscript o a pos) [] (pB f g) :=
 PG.imp (pg_sub ho hi (Ef hu) (by intro v; cases a<;>first | rfl | (cases hs))) fun x σ H Q ⟨μ,v,s,ah,hs,hr,rv,p⟩=>⟨μ,s,ah,hs,hr,(ag.bind p).mono fun y H1 ⟨μ1,w,h1,e1,hr1,r1,p1⟩=>
  ⟨μ1,s,h1,hs.ext e1,hr1,(ag.bind p1).mono fun z H2 ⟨μ2,w2,h2,e2,hr2,r2,p2⟩=>by
   refine⟨μ2,w,w2,v,h2,hr2,r1.ext e2,r2,rv.ext (e1.trans e2), ?_⟩;cases q:dE w w2 v h2 with
   | stuck=>rw[q]at p2; exact p2.elim
   | ok w3 h3=>
    rw[q]at p2;exact fun μ' H' _ e R _=>p2 μ' H' σ e R ⟨((hs.ext e1).ext e2).ext e,.refl⟩⟩⟩
theorem Cz{ta:TE}{f:Str}(ha:PE X o ta):PG X (.Attribute o f pos) (fun v σ H Q=>ta σ H fun x H2=>∃ a C dx fs,x = .ref a∧H2 a=some (.ins C dx fs)∧Cls X.K C∧NoAttr X.K C f∧fs.length<1000∧Q σ (upd H2 a (.ins C dx (putF f v fs)))):=by
 refine⟨fun pins s σ H v u Q I r h=> ?_⟩
 show wpAny _ _ (do
  let ov ← holding [u] (eval o X.env)
  standAt pos.atName
  holding [u,ov] (setAttr ov f u)
  release [u,ov] []) _ _ _
 refine wpAny_bind (wpAny_holding (thn (ha.run pins s σ H _ I h) fun ov s1 ⟨x,H1,I1,rx,a,C,dx,fs,ex,ea,c,n,l,q⟩=> ?_))
 subst ex;obtain rfl:ov=Value.ref a:=rx;refine wpAny_bind (wpAny_standAt (wpAny_bind (wpAny_holding (setattr_ok I1 ea c n l r fun s2 I2=> ?_))))
 exact wpAny_release ⟨σ,_,I2,q⟩
def jt(f:AE)(name:Str)(no:Str→Str→Bool):AG:=fun v s h=>(f s h).bind fun o h1=>(mq name no v o h1).bind fun _ h2=> .ok s h2
theorem Dr{f:AE}{name:Str}{no:Str→Str→Bool}(hk:iR X.K no)(ho:ME X a0 o f):MG X a0 (.Attribute o name pos) [] (jt f name no) :=
 PG.imp (Cz ho) fun x σ H Q ⟨μ,v,s,ah,hs,hr,rv,p⟩=>⟨μ,s,ah,hs,hr,(ag.bind p).mono fun y H1 ⟨μ1,w,h1,e1,hr1,r1,p1⟩=>by
  unfold mq at p1;split at p1
  ·split at p1
   ·rename_i C fs g;split at p1
    ·rename_i hno;split at p1
     ·rename_i hl;obtain⟨a,dx,ys,rfl,hn,z1,z2⟩:=hr1.ins g r1;have ry:=rv.ext e1;have e:Ext (Cx.wd X a0) μ1 H1 μ1 (upd H1 a (.ins (Jo X.K C) dx (putF name x ys))):=Ext.ee (ao:=.ins C fs) ⟨dx,ys,z1,z2⟩;have R:=hr1.set (ao:=.ins C (iu name v fs)) g hn (o:=.ins (Jo X.K C) dx (putF name x ys)) ⟨dx,_,upd_same,bj.ext e (bj.putF ry z2)⟩;exact⟨a,_,dx,ys,rfl,z1,(hk C name hno).1,(hk C name hno).2,z2.length ▸ hl,p1 _ _ σ e R ⟨(hs.ext e1).ext e,.refl⟩⟩
     ·exact p1.elim
    ·exact p1.elim
   ·exact p1.elim
  ·exact p1.elim⟩
end
end WC
namespace WC
open PySem PySem.Spec PySem.W PyProof.Rows PyProof.V L2
def BG(g:AV→AV→Option Bool)(ls:List (Key×AV)):List (Key×AV)→Option Bool
 | []=>some true
 | (k,v)::r=>match gJ ls k with
  | none=>some false
  | some y=>match g v y,BG g ls r with
   | some e,some b=>some (e && b)
   | _,_=>none
def Eg:Nat→AH→AV→AV→Option Bool
 | 0,_,_,_=>none
 | f+1,h,a,b=>match a,b with
  | .ref m,.ref n=>if Kw m n=true then some true else(match h.get m,h.get n with
   | some (.bA ks),some (.bA ls)=>if ks.length=ls.length then BG (Eg f h) ls ks else some false
   | _,_=>lr a b h)
  | _,_=>lr a b h
def jm(a b:AV)(h:AH):Option (Option Bool):=match a,b with
 | .ref m,.ref n=>(match h.get m,h.get n with
  | some (.bA ks),some (.bA ls)=>some (if ks.length=ls.length then BG (Eg 20 h) ls ks else some false)
  | _,_=>none)
 | _,_=>none
def ua:List Nat→List Nat→Bool
 | [],[]=>true
 | x::xs,y::ys=>match Kw x y with
  | true=>ua xs ys
  | false=>false
 | _,_=>false
theorem oG:∀{xs ys:List Nat},ua xs ys=decide (xs=ys)
 | [],[]=>rfl
 | [],_::_=>by simp [ua]
 | _::_,[]=>by simp [ua]
 | x::xs,y::ys=>by
  unfold ua;rw[L8];by_cases h:x=y
  ·subst h;simp only[decide_true];rw[oG];simp
  ·simp [h]
def sEq(a b:Jh):Bool:=ua a.cps.toList b.cps.toList
theorem qB(a b:Jh):sEq a b=decide (a=b):=by
 unfold sEq;rw[oG,K0,decide_eq_true_eq,decide_eq_true_eq];obtain⟨⟨a⟩⟩:=a;obtain⟨⟨b⟩⟩:=b;simp
def oZ:AV→AV→Option Bool
 | .str x,.str y=>some (sEq x y)
 | .int i,.int j=>some (decide (i=j))
 | .bl a,.bl b=>some (decide (a=b))
 | .non,.non=>some true
 | .non,.int _=>some false
 | .int _,.non=>some false
 | .non,.bl _=>some false
 | .bl _,.non=>some false
 | .non,.str _=>some false
 | .str _,.non=>some false
 | .int _,.str _=>some false
 | .str _,.int _=>some false
 | .bl _,.str _=>some false
 | .str _,.bl _=>some false
 | _,_=>none
theorem sH{W:Wd}{μ:List Addr}{H:Hp}{a b:AV}{x y:V}{k:Bool}(ra:Rl W μ H a x)(rb:Rl W μ H b y)(e:oZ a b=some k):scal x y=true∧k=decide (x=y):=by
 unfold oZ at e;split at e
 ·cases ra; cases rb; cases e;rw[qB];exact⟨rfl,by rw[K0]; simp⟩
 ·cases ra; cases rb; cases e;exact⟨rfl,by rw[K0]; simp⟩
 ·cases ra; cases rb; cases e;exact⟨rfl,by rw[K0]; simp⟩
 ·cases ra; cases rb; cases e;exact⟨rfl,rfl⟩
 all_goals first
  | (cases e; done)
  | (cases ra; cases rb; cases e; exact⟨rfl,rfl⟩)
  | (cases ra; cases rb; cases e; exact⟨rfl,by simp⟩)
def d4:dF:=fun a b h=>match oZ a b with
 | some k=> .ok (.bl k) h
 | none=>(match jm a b h with
  | some (some k)=> .ok (.bl k) h
  | some none=> .stuck
  | none=>FR a b h)
def cC:dF:=fun a b h=>match oZ a b with
 | some k=> .ok (.bl (!k)) h
 | none=>(match jm a b h with
  | some (some k)=> .ok (.bl (!k)) h
  | some none=> .stuck
  | none=>FO a b h)
section
variable {X:Cx}{a0:Addr}{pins:List (Addr×Obj)}{σ:KJ}{H:Hp}{s:Shared}{μ:List Addr}{ah:AH}
theorem B4(I:Inv X pins σ H s)(R:HR (Cx.wd X a0) μ ah H){A:Around}(hu:A.units+64<cLine){a b:AV}{x y:V}{v u:Value}{k:Bool}(ra:Rl (Cx.wd X a0) μ H a x)(rb:Rl (Cx.wd X a0) μ H b y)(rx:RelV x v)(ry:RelV y u)(e:lr a b ah=some k) :
  SeqAt.EqP X.prog X.w A s v u k:=by
 obtain⟨d,d',h1,h2,h3,h4,rfl⟩:=nO R ra rb e;obtain⟨as,r1⟩:=Dp.reads I d x v h1 rx;obtain⟨bs,r2⟩:=Dp.reads I d' y u h2 ry;exact(SeqAt.eqAt_reads d d' A s v u as bs r1 r2 (SeqAt.canLay_of_shaped h3) (SeqAt.canLay_of_shaped h4) (SeqAt.room_of_shaped h3 hu)).eqP
def BF(X:Cx)(s:Shared)(A:Around)(ms:List (Key×V))(ns:List (Key×V))(b:Bool):Prop:=∀{va vb:List (Key×Value)},KV ns va→KV ms vb→KP X.prog X.w A s vb va b
theorem KV.look{ms:List (Key×V)}{vb:List (Key×Value)}(r:KV ms vb)(k:Key):(valV ms k=none∧valueAt vb k=none)∨∃ z y,valV ms k=some z∧valueAt vb k=some y∧RelV z y:=by
 have h:=r.val k;cases e:valV ms k with
 | none=>
  rw[e]at h;cases q:valueAt vb k with
  | none=>exact .inl ⟨rfl,rfl⟩
  | some y=>
   rw[q]at h;cases h
 | some z=>
  rw[e]at h;obtain⟨y,h1,h2⟩:=h.some_of;exact .inr ⟨z,y,rfl,h1,h2⟩
theorem uS{A:Around}{g:AV→AV→Option Bool}(ih:∀(a b:AV) (x y:V) (v u:Value) (k:Bool),Rl (Cx.wd X a0) μ H a x→Rl (Cx.wd X a0) μ H b y→RelV x v→RelV y u→g a b=some k→SeqAt.EqP X.prog X.w A s v u k){ls:List (Key×AV)}{ns:List (Key×V)}(r1:bj (Cx.wd X a0) μ H ls ns) :
  ∀{ks:List (Key×AV)} {ms:List (Key×V)} {k:Bool},bj (Cx.wd X a0) μ H ks ms→BG g ls ks=some k→BF X s A ns ms k
 | _,_,_,.nil,e=>by
  intro wa wb;simp only[BG]at e;cases e;unfold KV at wa;cases wa;exact .nil
 | _,_,_,.cons (k:=key) r t,e=>by
  intro wa wb;unfold KV at wa;cases wa with
  | @cons _ pq _ qs hd tl=>
   obtain⟨key',v⟩:=pq;obtain⟨hk,rv⟩:=hd;have hk':key=key':=hk;subst hk';unfold BG at e;have vl:=r1.val (k:=key);split at e
   ·rename_i hn;cases e;rcases vl with ⟨_,h2⟩ | ⟨y,z',h1,_,_⟩
    ·rcases KV.look wb key with ⟨_,g2⟩ | ⟨z,y,g1,_,_⟩
     ·exact .miss g2
     ·rw[h2]at g1; cases g1
    ·rw[hn]at h1; cases h1
   ·rename_i y hy;split at e
    ·rename_i e1 b1 q1 q2;cases e;rcases vl with ⟨h1,_⟩ | ⟨y',z',h1,h2,h3⟩
     ·rw[hy]at h1; cases h1
     ·rw[hy]at h1; cases h1;rcases KV.look wb key with ⟨g1,_⟩ | ⟨z2,y2,g1,g2,g3⟩
      ·rw[h2]at g1; cases g1
      ·rw[h2]at g1; cases g1;exact .hit g2 (ih _ _ _ _ _ _ _ r h3 rv g3 q1) (uS ih r1 t q2 tl wb)
    ·cases e
theorem bj.len{W:Wd}{κ:Type}:∀{xs:List (κ × AV)} {ys:List (κ × V)},bj W μ H xs ys→xs.length=ys.length
 | _,_,.nil=>rfl
 | _,_,.cons _ t=>by simp [bj.len t]
theorem oL(I:Inv X pins σ H s){A:Around}{g:AV→AV→Option Bool}(ih:∀(a b:AV) (x y:V) (v u:Value) (k:Bool),Rl (Cx.wd X a0) μ H a x→Rl (Cx.wd X a0) μ H b y→RelV x v→RelV y u→g a b=some k→SeqAt.EqP X.prog X.w A s v u k)
  {ks ls:List (Key×AV)} {ms ns:List (Key×V)} {p q:Addr} {k:Bool} (hp:H p=some (.dK ms)) (hq:H q=some (.dK ns)) (r1:bj (Cx.wd X a0) μ H ks ms) (r2:bj (Cx.wd X a0) μ H ls ns) (e:(if ks.length=ls.length then BG g ls ks else some false)=some k) :
  ∃ ka kb r,(p == sysModules)=false∧(q == sysModules)=false∧s.heap.DictOf (mixKind X.prog X.w) p ka∧s.heap.DictOf (mixKind X.prog X.w) q kb∧(ka.length=kb.length→KP X.prog X.w A s kb ka r)∧(ka.length == kb.length && r)=k:=by
 obtain⟨_,ya,va,wa,da⟩:=(show ObjOk X.prog X.w H s.heap p (.dK ms)from I.hok p _ hp)
 obtain⟨_,yb,vb,wb,db⟩:=(show ObjOk X.prog X.w H s.heap q (.dK ns)from I.hok q _ hq)
 have l1:=r1.len;have l2:=r2.len;have la:=wa.length;have lb:=wb.length;split at e
 ·rename_i hl;have hl':va.length=vb.length:=by rw[←la,←lb,←l1,←l2]; exact hl
  exact⟨va,vb,k,ya,yb,da,db,fun _=>uS ih r2 r1 e wa wb,by rw[hl']; simp⟩
 ·rename_i hl;cases e;have hl':¬ va.length=vb.length:=by rw[←la,←lb,←l1,←l2]; exact hl
  exact⟨va,vb,false,ya,yb,da,db,fun h=>absurd h hl',by simp⟩
theorem uY(I:Inv X pins σ H s)(R:HR (Cx.wd X a0) μ ah H):∀(f:Nat) (A:Around),A.units+f+64<cLine→∀(a b:AV) (x y:V) (v u:Value) (k:Bool),
  Rl (Cx.wd X a0) μ H a x→Rl (Cx.wd X a0) μ H b y→RelV x v→RelV y u→Eg f ah a b=some k→SeqAt.EqP X.prog X.w A s v u k
 | 0,_,_,_,_,_,_,_,_,_,_,_,_,_,e=>by simp [Eg]at e
 | f+1,A,hu,a,b,x,y,v,u,k,ra,rb,rx,ry,e=>by
  have flat:lr a b ah=some k→SeqAt.EqP X.prog X.w A s v u k:=fun e=>B4 I R (by omega) ra rb rx ry e
  unfold Eg at e;split at e
  ·rename_i m n;split at e
   ·rename_i hmn;cases e;have hmn':m=n:=Nat.eq_of_beq_eq_true hmn;subst hmn';cases ra with
    | ref h1=>
     cases rb with
     | ref h2=>
      rw[h1]at h2;cases h2;cases (show v=Value.ref _ from rx)
      cases (show u=Value.ref _ from ry)
      exact(SeqAt.EqAt.same _).eqP
   ·rename_i hmn;split at e
    ·rename_i ks ls g1 g2;obtain⟨p,ms,rfl,hm,hp,r1⟩:=R.bA g1 ra;obtain⟨q,ns,rfl,hn,hq,r2⟩:=R.bA g2 rb;cases (show v=Value.ref _ from rx)
     cases (show u=Value.ref _ from ry)
     obtain⟨va,vb,r,ya,yb,da,db,hits,hk⟩:=oL I (A:=A.in1) (uY I R f A.in1 (by show A.units+1+f+64<cLine; omega)) hp hq r1 r2 e
     have ne:p≠q:=by
      rintro rfl;have l1:=Jl.mp hm;have l2:=Jl.mp hn;have:=(Lk R.nd).mp (l1.2.trans l2.2.symm);exact hmn (by rw[this]; exact Nat.beq_refl _)
     refine SeqAt.eqP_refs ne fun E Q hQ=> ?_
     refine Mc (knd:=mixKind X.prog X.w) (r:=r) ya yb da db (by omega) hits E Q ?_
     rw[hk];exact hQ
    ·exact flat e
  ·exact flat e
end
section
variable {prog:Program}{w:World}{K:Type}[DecidableEq K]{knd:KeyKind prog w K}{A:Around}{E:Value→Shared→Prop}{s:Shared}
theorem ub{a b:Addr}{ka kb:List (K×Value)}{r:Bool}(ha:(a == sysModules)=false)(hb:(b == sysModules)=false)
  (da:s.heap.DictOf knd a ka) (db:s.heap.DictOf knd b kb) (hu:A.units<cLine) (hits:ka.length=kb.length→KP prog w A.in1 s kb ka r) (Q:Value→Shared→Prop) (h:Q (.bool (!(ka.length == kb.length && r))) s) :
  wpAny (model prog w) A (compareOp .NotEq (.ref a) (.ref b)) Q E s:=by
 refine wpAny_richCompare_same_room (op:=.NotEq) da.typeIs db.typeIs LK
  (wpAny_call_entry LK da.typeIs PySem.F.entry_dict_ne ?_ (PySem.F.args_dict_ne_2 _ _)) hu
 show wpAny _ _ (Builtin.Dict.dictSlotArgs "__ne__" ⟨[.ref a,.ref b],[]⟩ >>= _) _ _ s;refine wpAny_bind ?_;unfold Builtin.Dict.dictSlotArgs;refine wpAny_bind (wpAny_notOrdered_dict da.typeIs ?_);show wpAny _ _ (pure (Value.ref a,Value.ref b)) _ _ s;refine wpAny_pure ?_;refine wpAny_bind (wpAny_isInstance (T := "dict") db.typeIs PySem.F.sub_dict_dict ?_);simp only[Kk,Jp,if_false];refine wpAny_bind (wpAny_pure (wpAny_bind (wpAny_pure ?_)));refine wpAny_bind (PySem.W.samePairsP ha hb da db hits ?_);refine wpAny_pure ⟨_,rfl, ?_, ?_⟩
 ·intro z;cases z
 ·simpa using h
end
section
variable {X:Cx}{a0:Addr}
theorem oJ{pins:List (Addr×Obj)}{σ:KJ}{H:Hp}{s:Shared}{μ:List Addr}{ah:AH}(hu:X.A.units+100<cLine)(I:Inv X pins σ H s)(R:HR (Cx.wd X a0) μ ah H){a b:AV}{x y:V}{v u:Value}{k:Bool}
  (ra:Rl (Cx.wd X a0) μ H a x) (rb:Rl (Cx.wd X a0) μ H b y) (rx:RelV x v) (ry:RelV y u) (e:jm a b ah=some (some k)) :
  ∃ p q ka kb r,v = .ref p∧u = .ref q∧(p == sysModules)=false∧(q == sysModules)=false∧s.heap.DictOf (mixKind X.prog X.w) p ka∧s.heap.DictOf (mixKind X.prog X.w) q kb∧
   (ka.length=kb.length→KP X.prog X.w X.A.in1 s kb ka r)∧(ka.length == kb.length && r)=k:=by
 unfold jm at e;split at e
 ·split at e
  ·rename_i ks ls g1 g2;obtain⟨p,ms,rfl,hm,hp,r1⟩:=R.bA g1 ra;obtain⟨q,ns,rfl,hn,hq,r2⟩:=R.bA g2 rb;obtain⟨va,vb,r,h⟩:=oL I (A:=X.A.in1) (uY I R 20 X.A.in1 (by show X.A.units+1+20+64<cLine; omega)) hp hq r1 r2 (Lx e)
   exact⟨p,q,va,vb,r,rx,ry,h⟩
  ·cases e
 ·cases e
theorem zl(hu:X.A.units+100<cLine):OpR X (compareOp .Eq) (bD (Cx.wd X a0) d4):=by
 intro pins s σ H x y v u Q I rx ry ⟨μ,a,b,ah,hr,ra,rb,p⟩;unfold d4 at p;split at p
 ·rename_i k e;obtain⟨hs,rfl⟩:=sH ra rb e;exact op_eq pins s σ H x y v u Q I rx ry ⟨hs,p.ret hr .bl⟩
 split at p
 ·rename_i k e;obtain⟨pa,qa,ka,kb,r,rfl,rfl,ya,yb,da,db,hits,hk⟩:=oJ hu I hr ra rb rx ry e;refine Mc (knd:=mixKind X.prog X.w) (r:=r) ya yb da db (by omega) hits _ _ ?_
  rw[hk];exact⟨.bl k,H,I,rfl,p.ret hr .bl⟩
 ·exact p.elim
 ·exact Br (by omega) pins s σ H x y v u Q I rx ry ⟨μ,a,b,ah,hr,ra,rb,p⟩
theorem zZ(hu:X.A.units+100<cLine):OpR X (compareOp .NotEq) (bD (Cx.wd X a0) cC):=by
 intro pins s σ H x y v u Q I rx ry ⟨μ,a,b,ah,hr,ra,rb,p⟩;unfold cC at p;split at p
 ·rename_i k e;obtain⟨hs,rfl⟩:=sH ra rb e;exact op_ne pins s σ H x y v u Q I rx ry ⟨hs,p.ret hr .bl⟩
 split at p
 ·rename_i k e;obtain⟨pa,qa,ka,kb,r,rfl,rfl,ya,yb,da,db,hits,hk⟩:=oJ hu I hr ra rb rx ry e;refine ub (knd:=mixKind X.prog X.w) (r:=r) ya yb da db (by omega) hits _ ?_
  rw[hk];exact⟨.bl (!k),H,I,rfl,p.ret hr .bl⟩
 ·exact p.elim
 ·exact CA (by omega) pins s σ H x y v u Q I rx ry ⟨μ,a,b,ah,hr,ra,rb,p⟩
end
def qi:List (AE×AE)→az→AH→Ex (List (AV×AV))
 | [],_,h=> .ok [] h
 | (k,v)::r,s,h=>(k s h).bind fun x h1=>(v s h1).bind fun y h2=>(qi r s h2).bind fun ps h3=> .ok ((x,y)::ps) h3
def sP:List (AV×AV)→Option (List (Key×AV))
 | []=>some []
 | (k,v)::r=>match cA k,sP r with
  | some x,some q=>some ((x,v)::q)
  | _,_=>none
def iQ(kvs more:List (Key×AV)):List (Key×AV):=more.foldl (fun acc kv=>ql acc kv.1 kv.2) kvs
def isNew(h:AH)(n:Nat):Bool:=match h.get n with
 | some (.bA [])=>true
 | _=>false
def AX(ps:List (AE×AE)):AE:=fun s h=>(qi ps s (h.push (.bA []))).bind fun kvs h1=>match sP kvs with
 | some ks=>if isNew h1 h.n=true∧ks.length≤15 then .ok (.ref h.n) (h1.set h.n (.bA (iQ [] ks)))else .stuck
 | none=> .stuck
section
variable {X:Cx}{a0:Addr}{pos:Pos}
def FE(W:Wd)(μ:List Addr)(H:Hp)(a:AV×AV)(b:V×V):Prop:=Rl W μ H a.1 b.1∧Rl W μ H a.2 b.2
inductive Cj(W:Wd)(μ:List Addr)(H:Hp):List (AV×AV)→List (V×V)→Prop where
 | nil:Cj W μ H [] []
 | cons {a b as bs}:FE W μ H a b→Cj W μ H as bs→Cj W μ H (a::as) (b::bs)
theorem mw{W:Wd}:∀{ps:List (AE×AE)} {μ:List Addr} {s:az} {σ:KJ} {ah:AH} {H:Hp} {Q:List (V×V)→Hp→Prop},SR W μ H s σ → HR W μ ah H→ag W (Cj W) μ H (qi ps s ah) Q→
  tPairs (ps.map fun p=>(d8 W p.1,d8 W p.2)) σ H Q
 | [],μ,s,σ,ah,H,Q,hs,R,p=>p.ret R .nil
 | (k,v)::r,μ,s,σ,ah,H,Q,hs,R,p=>by
  refine⟨μ,s,ah,hs,R,(ag.bind p).mono fun x H1 ⟨μ1,a,h1,e1,R1,ra,p1⟩=> ?_⟩
  refine⟨μ1,s,h1,hs.ext e1,R1,(ag.bind p1).mono fun y H2 ⟨μ2,b,h2,e2,R2,rb,p2⟩=> ?_⟩
  refine mw ((hs.ext e1).ext e2) R2 ((ag.bind (rel:=Cj W) p2).mono fun ps H3 ⟨μ3,c,h3,e3,R3,rc,p3⟩=> ?_)
  exact p3.ret R3 (.cons ⟨(ra.ext e2).ext e3,rb.ext e3⟩ rc)
theorem oi{W:Wd}{μ:List Addr}{H:Hp}:∀{as:List (AV×AV)} {bs:List (V×V)} {ks:List (Key×AV)},Cj W μ H as bs→sP as=some ks→∃ ms:List (Key×V),bs=ms.map (fun kv=>(kV kv.1,kv.2))∧bj W μ H ks ms
 | _,_,ks,.nil,e=>by cases e; exact⟨[],rfl,.nil⟩
 | _,_,ks,.cons (a:=(k,v)) (b:=(x,y)) h t,e=>by
  unfold sP at e;split at e
  ·rename_i k' q h1 h2;cases e;obtain⟨ms,hb,r⟩:=oi t h2;have hk:x=kV k':=by
    have r1:Rl W μ H k x:=h.1;cases k with
    | int i=>cases h1; cases r1; rfl
    | str z=>cases h1; cases r1; rfl
    | _=>cases h1
   exact⟨(k',y)::ms,by rw[hb,hk]; rfl,.cons h.2 r⟩
  ·cases e
theorem bj.merge{W:Wd}{μ:List Addr}{H:Hp}:∀{more:List (Key×AV)} {ms:List (Key×V)} {kvs:List (Key×AV)} {ns:List (Key×V)},bj W μ H more ms→bj W μ H kvs ns→bj W μ H (iQ kvs more) (mergeK ns ms)
 | _,_,_,_,.nil,q=>q
 | _,_,kvs,ns,.cons (k:=k) (x:=x) (y:=y) (xs:=xs) (ys:=ys) r t,q=>by
  show bj W μ H (iQ (ql kvs k x) xs) (mergeK (putK ns k y) ys);exact bj.merge t (ng k r q)
theorem zq{ks:List (Option Expr)}{vs:List Expr}{ps:List (AE×AE)}(h:PPs X pos ks vs (ps.map fun p=>(d8 (Cx.wd X a0) p.1,d8 (Cx.wd X a0) p.2)))(h1:ks.all (·.isSome)=true)(h2:ks.length=vs.length)(h3:ks≠[])(h4:ks.length≤15) :
  ME X a0 (.Dict ks vs pos) (AX ps) :=
 PE.imp (pe_disp h h1 h2 h3 h4) fun σ H Q ⟨μ,s,ah,hs,R,p⟩=>by
  intro a ha;have E:Ext (Cx.wd X a0) μ H (μ ++ [a]) (upd H a (.dK [])):=Ext.cb ha;have R1:=R.push (o:=.dK []) (ao:=.bA []) ha ⟨[],upd_same,.nil⟩;refine mw (hs.ext E) R1 ((ag.bind (rel:=Cj (Cx.wd X a0)) (p.ext E)).mono fun bs H2 ⟨μ2,as,h2',e2,R2,rp,p2⟩=> ?_)
  split at p2
  ·rename_i kq hk;split at p2
   ·rename_i hn0;obtain⟨hn,Hq⟩:=hn0;have hn':h2'.get ah.n=some (.bA []):=by
     unfold isNew at hn;split at hn
     ·rename_i q; exact q
     ·cases hn
    have ra:Rl (Cx.wd X a0) μ2 H2 (.ref ah.n) (.ref a):=(Rl.ref (by rw[R.sz]; simp:(μ ++ [a])[ah.n]? = some a)).ext e2
    obtain⟨b,ys,hb,hm,hH,ry⟩:=R2.bA hn' ra;cases hb;cases ry;obtain⟨ms,hbs,rm⟩:=oi rp hk;obtain⟨e3,R3⟩:=je R2 hn' hm hH .nil (bj.merge rm .nil);exact⟨hH,ms,hbs,rm.len ▸ Hq,(p2.ext e3).ret R3 (ra.ext e3)⟩
   ·exact p2.elim
  ·exact p2.elim
end
end WC
namespace PySem
open Sem (wp)
namespace F
theorem gd (a b c:Value):checkTypeCall "zip" ⟨[a,b],[(Str.ofString "strict",c)]⟩=pure ():=by kernel_rfl
theorem gS (a b c:Value):checkBuiltinCall "zip.__new__" ⟨[.type "zip",a,b],[(Str.ofString "strict",c)]⟩=pure ():=by kernel_rfl
theorem dR (obj a b c:Value):argsOk "object.__init__" ⟨[obj,a,b],[(Str.ofString "strict",c)]⟩:=by unfold argsOk; kernel_rfl
end F
abbrev bM(h:Heap)(z TI TO:Addr)(f0:Value):Prop :=
 h.get? z=some { cls:=.type "zip",dict:=none,data:=.fields #[f0,.bool false,.bool true,.ref TI,.ref TO],slots:=#[] }
section
variable {prog:Program}{w:World}{A:Around}{E:Value→Shared→Prop}{s:Shared}{z TI TO i1 i2 it:Addr}{fp fp1 fp2:List Addr}{n n1 n2 i:Nat}{P P1 P2:Nat→Value→Prop}{St St1 St2:Nat→Heap→Prop}{a1 a2:Value}
theorem fg{Q:Option Value→Shared→Prop}(D:Draws prog w A it fp n P St)(st:St i s.heap)(hlt:i<n)
  (hQ:∀ x h' tk,P i x→St (i+1) h'→Heap.SameBut it s.heap h'→Q (some x) { s with heap:=h',toks:=tk }):wpAny (model prog w) A (Builtin.SmallTypes.nextOrEnd (.ref it)) Q E s:=by
 unfold Builtin.SmallTypes.nextOrEnd;exact wpAny_bind (wpAny_attempt (D.item i s _ _ hlt st fun x h' tk a b c=>wpAny_pure (hQ x h' tk a b c)))
theorem gx{Q:Option Value→Shared→Prop}(D:Draws prog w A it fp n P St)(st:St n s.heap)
  (hQ:∀ h',Heap.ExtBut it s.heap h'→Q none { s with heap:=h' }):wpAny (model prog w) A (Builtin.SmallTypes.nextOrEnd (.ref it)) Q E s:=by
 unfold Builtin.SmallTypes.nextOrEnd;refine wpAny_bind (wpAny_attempt (D.done s _ _ st fun h' e x he=> ?_))
 obtain⟨o,ho,hc⟩:=he;exact wpAny_bind (wpAny_isInstance (T := "StopIteration") (b:=true) ⟨o,ho,hc⟩ isSubtype_stop (wpAny_pure (hQ _ x)))
theorem kG{Q:Value→Shared→Prop}(S:ZipSep2 z TI TO i1 i2 fp1 fp2)(D1:Draws prog w A i1 fp1 n1 P1 St1)(D2:Draws prog w A i2 fp2 n2 P2 St2)
  (hz:bM s.heap z TI TO .none) (hTI:IsTupOf2 s.heap TI (.ref i1) (.ref i2)) (hTO:IsTupOf2 s.heap TO a1 a2) (st1:St1 i s.heap) (st2:St2 i s.heap) (hlt1:i<n1) (hlt2:i<n2)
  (hQ:∀ x1 x2 h' tk,P1 i x1→P2 i x2→bM h' z TI TO (rawInt s.heap.objs.size)→IsTupOf2 h' TO x1 x2→St1 (i+1) h'→St2 (i+1) h'→IsTupOf2 h' s.heap.objs.size x1 x2→h'.objs.size=s.heap.objs.size+1→
   (∀ c o,c≠z→c≠TO→c≠i1→c≠i2→s.heap.get? c=some o→h'.get? c=some o)→Q (.ref s.heap.objs.size) { s with heap:=h',toks:=tk }) :
  wpAny (model prog w) A (Builtin.«zip.__next__» ⟨[.ref z],[]⟩) (fun fin s'=>∃ v,fin = .done (.ret v)∧Q v s') E s:=by
 obtain⟨hp,g,d,tk0,os⟩:=s;show wpAny _ _ (field (.ref z) 2 >>= _) _ _ _;refine wpAny_bind (wpAny_field hz rfl (x:=.bool true) rfl ?_);show wpAny _ _ (field (.ref z) 3 >>= _) _ _ _;refine wpAny_bind (wpAny_field hz rfl (x:=.ref TI) rfl ?_);refine wpAny_bind (wpAny_seqItems hTI rfl ?_);show wpAny _ _ (Builtin.SmallTypes.ownedTupleIsFree (.ref z) >>= _) _ _ _;refine wpAny_bind ?_;unfold Builtin.SmallTypes.ownedTupleIsFree;refine wpAny_bind (wpAny_field hz rfl (x:=.none) rfl (wpAny_pure ?_));simp only[if_true];refine wpAny_bind (wpAny_rule ?_);refine wpAny_bind (wpAny_field hz rfl (x:=.ref TO) rfl ?_);refine wpAny_bind (wpAny_setField_rec hz (by simp) fun g0 hz0 hs0=> ?_)
 replace hz0:bM g0 z TI TO .ellipsis:=hz0
 replace hs0:Heap.SameBut z hp g0:=hs0
 refine wpAny_bind ?_;simp only[Ln,Ly,Lz,LO];refine wpAny_bind (wpAny_bind (wpAny_onRaise ?_));show wpAny _ _ (Builtin.SmallTypes.nextOrEnd (.ref i1)) _ _ ⟨g0,g,d,tk0,os⟩;refine fg D1 (D1.over st1 hs0 S.zf1) hlt1 fun x1 p1 tk1 hx1 sn1 hp1=> ?_
 replace hp1:Heap.SameBut i1 g0 p1:=hp1
 have hU1:IsTupOf2 p1 TO a1 a2:=hp1.extBut _ _ S.Ti1 (hs0.extBut _ _ S.TOz hTO);refine wpAny_bind (wpAny_seqItems (s:=⟨p1,g,d,tk1,os⟩) hU1 rfl ?_);refine wpAny_bind (updateSeq_IsTupOf2 (s:=⟨p1,g,d,tk1,os⟩) hU1 fun g1 hT1 hs1=> ?_)
 replace hT1:IsTupOf2 g1 TO x1 a2:=hT1
 replace hs1:Heap.SameBut TO p1 g1:=hs1
 refine wpAny_bind (wpAny_letGo (wpAny_pure ?_));refine wpAny_bind (wpAny_bind (wpAny_onRaise ?_));show wpAny _ _ (Builtin.SmallTypes.nextOrEnd (.ref i2)) _ _ ⟨g1,g,d,tk1,os⟩;refine fg D2 (D2.over (D2.over (D2.over st2 hs0 S.zf2) hp1 S.sep1_2) hs1 S.Tf2) hlt2 fun x2 p2 tk2 hx2 sn2 hp2=> ?_
 replace hp2:Heap.SameBut i2 g1 p2:=hp2
 have hU2:IsTupOf2 p2 TO x1 a2:=hp2.extBut _ _ S.Ti2 hT1;refine wpAny_bind (wpAny_seqItems (s:=⟨p2,g,d,tk2,os⟩) hU2 rfl ?_);refine wpAny_bind (updateSeq_IsTupOf2 (s:=⟨p2,g,d,tk2,os⟩) hU2 fun g2 hT2 hs2=> ?_)
 replace hT2:IsTupOf2 g2 TO x1 x2:=hT2
 replace hs2:Heap.SameBut TO p2 g2:=hs2
 refine wpAny_bind (wpAny_letGo (wpAny_pure (wpAny_pure ?_)));refine wpAny_bind (wpAny_seqItems (s:=⟨g2,g,d,tk2,os⟩) hT2 rfl ?_);refine wpAny_bind (wpAny_newTuple ?_);have yf:g2.objs.size=hp.objs.size:=by rw[hs2.1,hp2.1,hs1.1,hp1.1,hs0.1]
 have hzz:bM g2 z TI TO .ellipsis:=(hs2.extBut _ _ S.TOz.symm (hp2.extBut _ _ S.zi2 (hs1.extBut _ _ S.TOz.symm (hp1.extBut _ _ S.zi1 hz0))));have hkk:∀ c o,c≠z→c≠TO→c≠i1→c≠i2→hp.get? c=some o→g2.get? c=some o:=fun c o cz cT c1 c2 e=>
  (hs2.extBut _ _ cT (hp2.extBut _ _ c2 (hs1.extBut _ _ cT (hp1.extBut _ _ c1 (hs0.extBut _ _ cz e)))))
 have hj1:St1 (i+1) g2:=(D1.over (D1.over (D1.over sn1 hs1 S.Tf1) hp2 S.sep2_1) hs2 S.Tf1);have hj2:St2 (i+1) g2:=(D2.over sn2 hs2 S.Tf2);have hzlt:z<g2.objs.size:=Heap.lt_size hzz;show wpAny _ _ (Builtin.SmallTypes.ownedTupleHandOut (.ref z) (.ref g2.objs.size) >>= _) _ _ ⟨g2.push { cls:=.type "tuple",data:=.seq #[x1,x2] },g,d,tk2,os⟩;refine wpAny_bind ?_;unfold Builtin.SmallTypes.ownedTupleHandOut;have hz₆:bM (g2.push { cls:=.type "tuple",data:=.seq #[x1,x2] }) z TI TO .ellipsis:=Heap.get?_push_of_some _ hzz;refine wpAny_bind (wpAny_setField_rec hz₆ (by simp) fun h₇ hz₇ hs₇=> ?_)
 replace hz₇:bM h₇ z TI TO (rawInt g2.objs.size):=hz₇
 refine wpAny_setField_rec hz₇ (by simp) fun h₈ hz₈ hs₈=> ?_
 replace hz₈:bM h₈ z TI TO (rawInt g2.objs.size):=hz₈
 replace hs₇:Heap.SameBut z (g2.push { cls:=.type "tuple",data:=.seq #[x1,x2] }) h₇:=hs₇
 replace hs₈:Heap.SameBut z h₇ h₈:=hs₈
 have up:∀ c o,c≠z→g2.get? c=some o→h₈.get? c=some o:=fun c o c1 e=>hs₈.extBut _ _ c1 (hs₇.extBut _ _ c1 (Heap.get?_push_of_some _ e))
 have hT₈:IsTupOf2 h₈ g2.objs.size x1 x2:=hs₈.extBut _ _ (Kz hzlt) (hs₇.extBut _ _ (Kz hzlt) (Heap.get?_push_size _ rfl));have hz8:h₈.objs.size=g2.objs.size+1:=by rw[hs₈.1,hs₇.1,Heap.size_push]
 rw[yf]at hz₈ hT₈ hz8;refine wpAny_pure ⟨_,rfl, ?_⟩;show Q (.ref g2.objs.size) ⟨h₈,g,d,tk2,os⟩;rw[yf];exact hQ x1 x2 h₈ tk2 hx1 hx2 hz₈ (up _ _ S.TOz hT2) (D1.frame _ _ _ hj1 fun b hb o e=>up b o (fun q=>S.zf1 (q ▸ hb)) e) (D2.frame _ _ _ hj2 fun b hb o e=>up b o (fun q=>S.zf2 (q ▸ hb)) e) hT₈ hz8 fun c o cz cT c1 c2 e=>up c o cz (hkk c o cz cT c1 c2 e)
theorem lx{Q:Fin→Shared→Prop}(hh:A.handled=none)(S:ZipSep2 z TI TO i1 i2 fp1 fp2)(D1:Draws prog w A i1 fp1 n P1 St1)(D2:Draws prog w A i2 fp2 n P2 St2)
  (hz:bM s.heap z TI TO .none) (hTI:IsTupOf2 s.heap TI (.ref i1) (.ref i2)) (hTO:IsTupOf2 s.heap TO a1 a2) (st1:St1 n s.heap) (st2:St2 n s.heap) (hi1:∀ c,c∈fp2→c≠i1)
  (hE:∀ h' e,(∀ c o,c≠z→c≠TO→c≠i1→c≠i2→s.heap.get? c=some o→h'.get? c=some o)→(∃ o,h'.get? e=some o∧o.cls = .type "StopIteration")→E (.ref e) { s with heap:=h' }) :
  wpAny (model prog w) A (Builtin.«zip.__next__» ⟨[.ref z],[]⟩) Q E s:=by
 obtain⟨hp,g,d,tk0,os⟩:=s;show wpAny _ _ (field (.ref z) 2 >>= _) _ _ _;refine wpAny_bind (wpAny_field hz rfl (x:=.bool true) rfl ?_);show wpAny _ _ (field (.ref z) 3 >>= _) _ _ _;refine wpAny_bind (wpAny_field hz rfl (x:=.ref TI) rfl ?_);refine wpAny_bind (wpAny_seqItems hTI rfl ?_);show wpAny _ _ (Builtin.SmallTypes.ownedTupleIsFree (.ref z) >>= _) _ _ _;refine wpAny_bind ?_;unfold Builtin.SmallTypes.ownedTupleIsFree;refine wpAny_bind (wpAny_field hz rfl (x:=.none) rfl (wpAny_pure ?_));simp only[if_true];refine wpAny_bind (wpAny_rule ?_);refine wpAny_bind (wpAny_field hz rfl (x:=.ref TO) rfl ?_);refine wpAny_bind (wpAny_setField_rec hz (by simp) fun g0 hz0 hs0=> ?_)
 replace hz0:bM g0 z TI TO .ellipsis:=hz0
 replace hs0:Heap.SameBut z hp g0:=hs0
 refine wpAny_bind ?_;simp only[Ln,Ly,Lz,LO];refine wpAny_bind (wpAny_bind (wpAny_onRaise ?_));show wpAny _ _ (Builtin.SmallTypes.nextOrEnd (.ref i1)) _ _ ⟨g0,g,d,tk0,os⟩;refine gx D1 (D1.over st1 hs0 S.zf1) fun q1 hq1=> ?_
 replace hq1:Heap.ExtBut i1 g0 q1:=hq1
 have hz1:bM q1 z TI TO .ellipsis:=hq1 _ _ S.zi1 hz0;dsimp only;refine wpAny_bind (wpAny_setField_rec (s:=⟨q1,g,d,tk0,os⟩) hz1 (by simp) fun q2 hz2 hs2=> ?_)
 replace hs2:Heap.SameBut z q1 q2:=hs2
 have st2':St2 n q2:=D2.frame _ _ _ st2 fun b hb o e=>hs2.extBut _ _ (fun x=>S.zf2 (x ▸ hb)) (hq1 _ _ (hi1 b hb) (hs0.extBut _ _ (fun x=>S.zf2 (x ▸ hb)) e))
 refine wpAny_bind ?_
 wp_delta
 rw[if_neg (by decide)]
 simp only[List.drop_succ_cons,KG,Ln,Ly,Lz,LO];refine wpAny_bind (wpAny_bind (wpAny_bind (gx (s:=⟨q2,g,d,tk0,os⟩) D2 st2' fun q3 hq3=> ?_)))
 replace hq3:Heap.ExtBut i2 q2 q3:=hq3
 simp only[Option.isSome_none,Jp,if_false];refine wpAny_pure (wpAny_pure (wpAny_bind (wpAny_rule ?_)));show wpAny _ _ (newExc (.type "StopIteration") [] >>= _) _ _ _;refine wpAny_bind ?_;simp only[newExc,newTuple];refine wpAny_bind (wpAny_newObj_type ?_ (by size_fits))
 refine wpAny_bind (m:=firstArgMember _ _) (wpAny_of_eq (a:=Value.none) (by first | rfl | (simp only[firstArgMember]; rfl)) ?_)
 refine wpAny_newObj_type ?_ (by size_fits)
 simp only[raiseNew];refine wpAny_bind (wpAny_handled ?_);rw[hh];refine wpAny_bind (wpAny_pure (wpAny_throw ?_));refine hE _ _ (fun c o cz cT c1 c2 x=> ?_) ⟨_,Heap.get?_push_size _ rfl,rfl⟩
 exact Heap.get?_push_of_some _ (Heap.get?_push_of_some _ (hq3 _ _ c2 (hs2.extBut _ _ cz (hq1 _ _ c1 (hs0.extBut _ _ cz x)))))
theorem jc{Q:Option Value→Shared→Prop}(S:ZipSep2 z TI TO i1 i2 fp1 fp2)(D1:Draws prog w A.in1 i1 fp1 n1 P1 St1)(D2:Draws prog w A.in1 i2 fp2 n2 P2 St2)
  (hz:bM s.heap z TI TO .none) (hTI:IsTupOf2 s.heap TI (.ref i1) (.ref i2)) (hTO:IsTupOf2 s.heap TO a1 a2) (st1:St1 i s.heap) (st2:St2 i s.heap) (hlt1:i<n1) (hlt2:i<n2)
  (hQ:∀ x1 x2 h' tk,P1 i x1→P2 i x2→bM h' z TI TO (rawInt s.heap.objs.size)→IsTupOf2 h' TO x1 x2→St1 (i+1) h'→St2 (i+1) h'→IsTupOf2 h' s.heap.objs.size x1 x2→h'.objs.size=s.heap.objs.size+1→
   (∀ c o,c≠z→c≠TO→c≠i1→c≠i2→s.heap.get? c=some o→h'.get? c=some o)→Q (some (.ref s.heap.objs.size)) { s with heap:=h',toks:=tk }) :
  wpAny (model prog w) A (pyNext (.ref z)) Q E s:=by
 have hT:s.TypeIs (.ref z) "zip" := ⟨_,hz,rfl⟩;unfold pyNext
 exact wpAny_bind (wpAny_attempt (wpAny_callSpecial?_slot (name:=Str.ofString "__next__") hT F.slot_zip_next
  (wpAny_call_entry F.slot_zip_next hT F.entry_zip_next
   (kG S D1 D2 hz hTI hTO st1 st2 hlt1 hlt2 fun x1 x2 h' tk y1 y2 b1 b2 d1 d2 b5 b6 b7=>wpAny_pure (hQ x1 x2 h' tk y1 y2 b1 b2 d1 d2 b5 b6 b7)) (F.args_zip_next_1 _))))
theorem jH{Q:Option Value→Shared→Prop}(hh:A.handled=none)(S:ZipSep2 z TI TO i1 i2 fp1 fp2)(D1:Draws prog w A.in1 i1 fp1 n P1 St1)(D2:Draws prog w A.in1 i2 fp2 n P2 St2)
  (hz:bM s.heap z TI TO .none) (hTI:IsTupOf2 s.heap TI (.ref i1) (.ref i2)) (hTO:IsTupOf2 s.heap TO a1 a2) (st1:St1 n s.heap) (st2:St2 n s.heap) (hi1:∀ c,c∈fp2→c≠i1)
  (hQ:∀ h',(∀ c o,c≠z→c≠TO→c≠i1→c≠i2→s.heap.get? c=some o→h'.get? c=some o)→Q none { s with heap:=h' }):wpAny (model prog w) A (pyNext (.ref z)) Q E s:=by
 have hT:s.TypeIs (.ref z) "zip" := ⟨_,hz,rfl⟩;unfold pyNext
 refine wpAny_bind (wpAny_attempt (wpAny_callSpecial?_slot (name:=Str.ofString "__next__") hT F.slot_zip_next
  (wpAny_call_entry F.slot_zip_next hT F.entry_zip_next (lx (by first | exact hh | (show A.in1.handled=none; exact hh)) S D1 D2 hz hTI hTO st1 st2 hi1 fun h' e hk he=> ?_) (F.args_zip_next_1 _))))
 obtain⟨o,ho,hc⟩:=he;refine wpAny_bind (wpAny_isInstance (T := "StopIteration") (b:=true) ⟨o,ho,hc⟩ isSubtype_stop ?_);exact wpAny_pure (hQ _ hk)
theorem jy{f0:Value}{Q:Value→Shared→Prop}(hz:bM s.heap z TI TO f0)(h:Q (.ref z) s):wpAny (model prog w) A (pyIter (.ref z)) Q E s:=by
 have hT:s.TypeIs (.ref z) "zip" := ⟨_,hz,rfl⟩;refine wpAny_pyIter_slot hT F.slot_zip_iter (wpAny_call_entry F.slot_zip_iter hT F.entry_zip_iter ?_ (F.args_zip_iter_1 _));show wpAny _ _ (ret (.ref z)) _ _ s;exact wpAny_pure ⟨_,rfl, "zip",_,hT,F.slot_zip_next.lookup,h⟩
theorem pQ{elts:List Expr}{x1}{pos:Pos}{T:Addr}{Q:Unit→Shared→Prop}(hz:bM s.heap z TI TO (rawInt T))
  (hQ:∀ h',bM h' z TI TO .none→Heap.SameBut z s.heap h'→Q () { s with heap:=h' }) :
  wpAny (model prog w) A (letOwnedTupleGo (.Tuple elts x1 pos) (.ref z) (.ref T)) Q E s:=by
 unfold letOwnedTupleGo;refine wpAny_bind (wpAny_load hz ?_)
 show wpAny _ _ (if (["enumerate", "zip", "dict_itemiterator", "dict_reverseitemiterator", "odict_iterator", "itertools.zip_longest", "itertools.pairwise"].contains "zip" &&
   (#[rawInt T,.bool false,.bool true,.ref TI,.ref TO]:Array Value)[0]? == some (rawInt T))=true then _ else _) Q E s
 rw[if_pos (by simp)]
 refine wpAny_bind (wpAny_rule ?_);show wpAny _ _ (setField (.ref z) 0 .none) Q E s;exact wpAny_setField_rec hz (by simp) fun h' hz' hs'=>hQ h' hz' hs'
end
abbrev yQ(h:Heap)(o1:Obj):Heap:=h.push o1
abbrev yx(h:Heap)(o1:Obj)(l2:Addr):Heap:=(yQ h o1).push { cls:=.type "list_iterator",data:=.fields #[.ref l2,.int 0 0] }
abbrev Ay(h:Heap)(o1:Obj)(l2:Addr):Heap:=(yx h o1 l2).push { cls:=.type "tuple",data:=.seq #[.ref h.objs.size,.ref (yQ h o1).objs.size] }
abbrev y9(h:Heap)(o1:Obj)(l2:Addr):Heap:=(Ay h o1 l2).push { cls:=.type "tuple",data:=.seq #[.none,.none] }
abbrev qw(h:Heap)(o1:Obj)(l2:Addr):Heap:=(y9 h o1 l2).push { cls:=.type "zip",data:=.fields #[.none,.bool false,.bool true,.ref (yx h o1 l2).objs.size,.ref (Ay h o1 l2).objs.size] }
def dm(x:Str)(t:Tok):Obj:={ cls:=.type (if x.cps.all (· < 128)then "str_ascii_iterator" else "str_iterator"),data:=.fields #[.str x t,.int 0 0] }
theorem oU{prog:Program}{w:World}{A:Around}{E:Value→Shared→Prop}{s:Shared}{x:Str}{t:Tok}{Q:Value→Shared→Prop}(h:Q (.ref s.heap.objs.size) { s with heap:=s.heap.push (dm x t) }) :
  wpAny (model prog w) A (pyIter (.str x t)) Q E s:=by
 cases ha:x.cps.all (· < 128)
 ·refine wpAny_pyIter_wide ha ?_;unfold dm at h;rw[ha]at h;exact h
 ·refine wpAny_pyIter_ascii ha ?_;unfold dm at h;rw[ha]at h;exact h
theorem i7(x:Str)(t:Tok)(l2:Addr)(ys:Array Value) :
  Meets (Builtin.«zip.__new__» ⟨[.type "zip",.str x t,.ref l2],[(Str.ofString "strict",.bool true)]⟩) (fun _ R s=>s.heap.IsList l2 ys∧
   R (.ok (.ret (.ref (y9 s.heap (dm x t) l2).objs.size))) { s with heap:=qw s.heap (dm x t) l2 }) :=
 .of_wp fun prog w A R s h=>by
  obtain⟨hp,g,d,tk,os⟩:=s; obtain⟨hl2,h⟩:=h;have hsub:=sub_zip;have hL2:Heap.IsList (Shared.heap ⟨hp.push (dm x t),g,d,tk,os⟩) l2 ys:=Heap.IsList.push hl2 _;have e2:(Str.ofString "strict" != ("strict" : Str))=false:=by decide +kernel
  have q1:∀{A':Around} {E:Value→Shared→Prop} {Q:Value→Shared→Prop},Q (.ref hp.objs.size) ⟨hp.push (dm x t),g,d,tk,os⟩→wpAny (model prog w) A' (pyIter (.str x t)) Q E ⟨hp,g,d,tk,os⟩ :=
   fun q=>oU (s:=⟨hp,g,d,tk,os⟩) q
  wp_walk using q1,wpAny_pyIter_list hL2;exact⟨_,rfl,h⟩
end PySem
namespace PySem
section
variable {prog:Program}{w:World}{A:Around}{E:Value→Shared→Prop}{s:Shared}
theorem tO{x:Str}{t:Tok}{l2:Addr}{ys:Array Value}{Q:Value→Shared→Prop}(hl2:s.heap.IsList l2 ys)
  (h:∀ h',bM h' (s.heap.objs.size+4) (s.heap.objs.size+2) (s.heap.objs.size+3) .none→IsTupOf2 h' (s.heap.objs.size+2) (.ref s.heap.objs.size) (.ref (s.heap.objs.size+1))→
   IsTupOf2 h' (s.heap.objs.size+3) .none .none→h'.get? s.heap.objs.size=some (dm x t)→h'.IsListIter (s.heap.objs.size+1) l2 0→h'.objs.size=s.heap.objs.size+5→
   (∀ c o,s.heap.get? c=some o→h'.get? c=some o)→Q (.ref (s.heap.objs.size+4)) { s with heap:=h' }) :
  wpAny (model prog w) A (call (.type "zip") [.str x t,.ref l2] [(Str.ofString "strict",.bool true)]) Q E s:=by
 refine callType_newKw F.called_zip (by decide) (F.gd _ _ _) (F.gS _ _ _) (fun obj=>F.dR obj _ _ _) F.entry_zip_new
  (i7 x t l2 ys) ⟨hl2, ?_⟩
 generalize ho:dm x t=o1;have free1:o1.isFreed=false:=by rw[←ho]; rfl
 have z1:(yQ s.heap o1).objs.size=s.heap.objs.size+1:=Heap.size_push ..;have z2:(yx s.heap o1 l2).objs.size=s.heap.objs.size+2:=by rw[Heap.size_push,z1]
 have z3:(Ay s.heap o1 l2).objs.size=s.heap.objs.size+3:=by rw[Heap.size_push,z2]
 have z4:(y9 s.heap o1 l2).objs.size=s.heap.objs.size+4:=by rw[Heap.size_push,z3]
 have z5:(qw s.heap o1 l2).objs.size=s.heap.objs.size+5:=by rw[Heap.size_push,z4]
 have g5:(qw s.heap o1 l2).get? (y9 s.heap o1 l2).objs.size=some _:=Heap.get?_push_size _ rfl;have g4:(qw s.heap o1 l2).get? (Ay s.heap o1 l2).objs.size=some _:=Heap.get?_push_of_some _ (Heap.get?_push_size _ rfl);have g3:(qw s.heap o1 l2).get? (yx s.heap o1 l2).objs.size=some _:=Heap.get?_push_of_some _ (Heap.get?_push_of_some _ (Heap.get?_push_size _ rfl));have g2:(qw s.heap o1 l2).get? (yQ s.heap o1).objs.size=some _:=Heap.get?_push_of_some _ (Heap.get?_push_of_some _ (Heap.get?_push_of_some _ (Heap.get?_push_size _ rfl)));have g1:(qw s.heap o1 l2).get? s.heap.objs.size=some o1:=Heap.get?_push_of_some _ (Heap.get?_push_of_some _ (Heap.get?_push_of_some _ (Heap.get?_push_of_some _ (Heap.get?_push_size _ free1))));show _∧_;rw[z2,z3,z4]at g5;rw[z1,z2]at g3;rw[z3]at g4;rw[z1]at g2;rw[z4];exact⟨⟨_,g5,rfl⟩,h _ g5 g3 g4 (by rw[ho]; exact g1) ⟨_,g2,rfl,rfl⟩ z5 fun c o x=>
  Heap.get?_push_of_some _ (Heap.get?_push_of_some _ (Heap.get?_push_of_some _ (Heap.get?_push_of_some _ (Heap.get?_push_of_some _ x))))⟩
theorem jB{M:Model}{pos:Pos}{T:String}{first:List Value}{args:List (Bool×Sem Value)}{kws:List (Option Str×Sem Value)}{Q:Value→Shared→Prop}
  (hplain:args.any (·.1)=false) (hk:kws.any (·.1.isNone)=false)
  (h:wpAny M A (evalArgs (.type T) true args kws) (fun a s₁=>wpAny M A (call (.type T) (first++a.pos) a.kw) Q E s₁) E s) :
  wpAny M A (callWith pos (.type T) first args kws) Q E s:=by
 unfold callWith;refine wpAny_bind (wpAny_holding (wpAny_mono h (fun a s₁ h₁=>wpAny_bind (wpAny_standAt ?_)) fun _ _ x=>x))
 simp only[hplain,hk,KC];refine wpAny_bind (wpAny_pure ?_);exact wpAny_bind (wpAny_mono h₁ (fun r s₂ hr=>wpAny_bind (wpAny_holding (wpAny_point (wpAny_pure hr)))) fun _ _ x=>x)
end
end PySem
namespace WC
open PySem PySem.Spec PyProof.Rows L2
def GC(K:Jj)(x:Str)(a:Addr):It :=
 ⟨fun i H=>∃(xs:List V) (y:V) (c:Nat),SqL K H a xs∧xs[i]? = some y∧x.cps[i]? = some c,
  fun i H v H'=>∃ T y c,v = .ref T∧H T=none∧H'=upd H T (.tup [.str ⟨#[c]⟩,y])∧x.cps[i]? = some c∧∀ xs,SqL K H a xs→xs[i]? = some y,
  fun i H=>∃ xs:List V,SqL K H a xs∧xs.length=i∧x.cps.size=i⟩
theorem Ds{z TI TO i1 i2 l:Addr}(h1:TI≠z)(h2:TO≠z)(h3:TI≠TO)(h4:TI≠i1)(h5:i1≠z)(h6:TO≠i1)(h7:TI≠i2)(h8:z≠i2)(h9:z≠l)(ui:TO≠i2)(DB:TO≠l)(z9:i1≠i2)(Be:i1≠l) :
  ZipSep2 z TI TO i1 i2 [i1] [i2,l] where
 TIz:=h1
 TOz:=h2
 TITO:=h3
 TIi1:=h4
 mem1:=by simp
 zf1:=by simp [La h5]
 Tf1:=by simp [h6]
 TIi2:=h7
 mem2:=by simp
 zf2:=by simp [h8,h9]
 Tf2:=by simp [ui,DB]
 sep1_2:=by simp [z9,Be]
 sep2_1:=by simp [La z9]
theorem Az(n l:Nat)(h:l<n):ZipSep2 (n+4) (n+2) (n+3) n (n+1) [n] [n+1,l]:=by
 refine Ds ?_ ?_ ?_ ?_ ?_ ?_ ?_ ?_ ?_ ?_ ?_ ?_ ?_
 ·show(n+2:Nat)≠n+4; omega
 ·show(n+3:Nat)≠n+4; omega
 ·show(n+2:Nat)≠n+3; omega
 ·show(n+2:Nat)≠n; omega
 ·show(n:Nat)≠n+4; omega
 ·show(n+3:Nat)≠n; omega
 ·show(n+2:Nat)≠n+1; omega
 ·show(n+4:Nat)≠n+1; omega
 ·show(n+4:Nat)≠l; omega
 ·show(n+3:Nat)≠n+1; omega
 ·show(n+3:Nat)≠l; omega
 ·show(n:Nat)≠n+1; omega
 ·show(n:Nat)≠l; omega
theorem lQ {prog:Program} {w:World} {A:Around} {ty:String} (hh:A.handled=none) (hty:ty = "str_ascii_iterator" ∨ ty = "str_iterator") (it:Addr) (x:Str) (t:Tok) :
  Draws prog w A it [it] x.cps.size (fun i v=>∃ c u,x.cps[i]? = some c∧v = .str ⟨#[c]⟩ u) (fun i h=>h.IsStrIter it ty x t i):=by
 rcases hty with rfl | rfl
 ·exact Draws.strAscii hh it x t
 ·exact Draws.strWide hh it x t
theorem td {P:Program} {w:World} {K:Jj} {elts:List Expr} {kk:Nat} {tpos:Pos} {a z TI TO i1 i2:Addr} {x:Str} {t:Tok} {ty:String} (hty:ty = "str_ascii_iterator" ∨ ty = "str_iterator") (S:ZipSep2 z TI TO i1 i2 [i1] [i2,a]) (hne:a≠i2) :
  Turn P w K (.Tuple elts kk tpos) (GC K x a) [z,TI,TO,i1,i2] z (fun i h=>bM h z TI TO .none∧IsTupOf2 h TI (.ref i1) (.ref i2)∧(∃ x y,IsTupOf2 h TO x y)∧h.IsStrIter i1 ty x t i∧h.IsListIter i2 a i) where
 mem:=by simp
 obj:=fun i h st c hc=>by
  obtain⟨hz,hTI,⟨x,y,hTO⟩,⟨o1,e1,_,d1⟩,⟨o2,e2,_,d2⟩⟩:=st;have e':c=z∨c=TI∨c=TO∨c=i1∨c=i2:=by simpa using hc
  rcases e' with q | q | q | q | q
  ·rw[q]; exact⟨_,hz,fun v q=>nomatch q⟩
  ·rw[q]; exact⟨_,hTI,fun v q=>nomatch q⟩
  ·rw[q]; exact⟨_,hTO,fun v q=>nomatch q⟩
  ·rw[q]; exact⟨o1,e1,fun v q=>by rw[d1]at q; cases q⟩
  ·rw[q]; exact⟨o2,e2,fun v q=>by rw[d2]at q; cases q⟩
 keep:=fun i h h' st k=>by
  obtain⟨hz,hTI,⟨x,y,hTO⟩,⟨o1,e1,r1⟩,h2⟩:=st;exact⟨k z (by simp) _ hz,k TI (by simp) _ hTI,⟨x,y,k TO (by simp) _ hTO⟩,⟨o1,k i1 (by simp) _ e1,r1⟩,h2.at fun o q=>k i2 (by simp) o q⟩
 item:=by
  intro X hP hw hK hc i pins s σ H E I hf st hg;subst hP hw hK;obtain⟨hz,hTI,⟨x0,y0,hTO⟩,h1,h2⟩:=st;obtain⟨xs,y,c,hqx,hx,hcp⟩:=hg;obtain⟨its,rv,p,_⟩:=I.list hqx;obtain⟨u,hu,ru⟩:=rv.get hx;have hzl:z<s.heap.objs.size:=Heap.lt_size hz;have hh:X.A.in1.handled=none:=I.ok.hd hc;have l1:i<x.cps.size:=(J6.mp hcp).1;have l2:i<its.toArray.size:=by
   have:=(Jl.mp hu).1;simpa using this
  refine jc S (lQ hh hty i1 x t) (Draws.list hh i2 a hne its.toArray) hz hTI hTO h1 ⟨h2,p.isList⟩ l1 l2 fun x1 x2 h' tk p1 p2 z' TO' s1' s2' hT yf hk=> ?_
  obtain⟨c',u1,hc',rfl⟩:=p1;rw[hcp]at hc';cases hc';have p2':its.toArray[i]? = some x2:=p2;have e2:x2=u:=by
   have:its[i]? = some x2:=by simpa using p2'
   rw[hu]at this;exact(Lx this).symm
  subst e2;refine⟨_,rfl,pQ (s:={ s with heap:=h',toks:=tk }) z' fun h'' z'' sb=> ?_⟩
  have hT2:h''.get? s.heap.objs.size=some { cls:=.type "tuple",data:=.seq #[.str ⟨#[c]⟩ u1,x2] }:=(sb.2 _ (Kz hzl)).trans hT;have new:ObjOk X.prog X.w (upd H s.heap.objs.size (.tup [.str ⟨#[c]⟩,y])) h'' s.heap.objs.size (.tup [.str ⟨#[c]⟩,y]) :=
   ⟨by show 2≤sizeLine; decide,[.str ⟨#[c]⟩ u1,x2],.cons ⟨_,rfl⟩ (.cons ru .nil),⟨_,hT2,rfl,_,rfl⟩⟩
  have I1:Inv X pins σ (upd H s.heap.objs.size (.tup [.str ⟨#[c]⟩,y])) { s with heap:=h'',toks:=tk } :=
   I.turnedNew (t':=tk) (ch:=[z,TI,TO,i1,i2]) (fun c o hb q=>(sb.2 c (fun q'=>hb (by simp [q']))).trans (hk c o (fun q'=>hb (by simp [q'])) (fun q'=>hb (by simp [q'])) (fun q'=>hb (by simp [q'])) (fun q'=>hb (by simp [q'])) q)) hf (Jw _) new
  refine⟨.ref s.heap.objs.size,_,I1,rfl,⟨_,y,c,rfl,I.hok.fresh (Jw _),rfl,hcp,fun l hl=>by rw[I.list_inj hl hqx]; exact hx⟩,⟨z'', ?_,⟨.str ⟨#[c]⟩ u1,x2, ?_⟩, ?_, ?_⟩,fun c hcm=> ?_⟩
  ·exact(sb.2 _ S.TIz).trans (hk _ _ S.TIz S.TITO S.TIi1 S.TIi2 hTI)
  ·exact(sb.2 _ S.TOz).trans TO'
  ·obtain⟨o1,e1,r1⟩:=s1';exact⟨o1,(sb.2 _ S.zi1.symm).trans e1,r1⟩
  ·exact s2'.1.at fun o q=>(sb.2 _ S.zi2.symm).trans q
  ·have hlt:c<s.heap.objs.size:=by
    have e':c=z∨c=TI∨c=TO∨c=i1∨c=i2:=by simpa using hcm
    rcases e' with q | q | q | q | q
    ·rw[q]; exact hzl
    ·rw[q]; exact Heap.lt_size hTI
    ·rw[q]; exact Heap.lt_size hTO
    ·rw[q]; obtain⟨_,e1,_⟩:=h1; exact Heap.lt_size e1
    ·rw[q]; obtain⟨_,e2,_⟩:=h2; exact Heap.lt_size e2
   rw[upd_ne (Jx hlt)];exact(hf c hcm).1
 done:=by
  intro X hP hw hK hc i pins s σ H E I hf st hg;subst hP hw hK;obtain⟨hz,hTI,⟨x0,y0,hTO⟩,h1,h2⟩:=st;obtain⟨xs,hqx,e1,e2⟩:=hg;obtain⟨its,rv,p,_⟩:=I.list hqx;have hh:X.A.handled=none:=I.ok.hd hc;have el:its.toArray.size=i:=by rw[Kg,←rv.length,e1]
  have D1:=lQ (prog:=X.prog) (w:=X.w) (show X.A.in1.handled=none from hh) hty i1 x t
  have D2:=Draws.list (prog:=X.prog) (w:=X.w) (show X.A.in1.handled=none from hh) i2 a hne its.toArray
  rw[e2]at D1;rw[el]at D2;refine jH (n:=i) hh S D1 D2 hz hTI hTO h1 ⟨h2,p.isList⟩ (fun c hc e=>S.sep1_2 (e ▸ hc)) fun h' hk=>⟨rfl, ?_⟩
  exact I.turnedL (t':=s.toks) (ch:=[z,TI,TO,i1,i2]) (fun c o hb q=>hk c o (fun q'=>hb (by simp [q'])) (fun q'=>hb (by simp [q'])) (fun q'=>hb (by simp [q'])) (fun q'=>hb (by simp [q'])) q) hf
 self:=fun A i s Q E st h=>jy st.1 h
section
variable {X:Cx}{a0:Addr}{e e2:Expr}{p pos tpos cp kp:Pos}{elts:List Expr}{kk j:Nat}
def sS(K:Jj)(ta:TA):TI:=fun σ H R=>ta σ H fun vs H1=>∃ x b ys,vs=[.str x,.ref b]∧SqL K H1 b ys∧R (GC K x b) H1
theorem Ae {ta:TA} (hg:Gl X "zip") (hm:X.mg "zip" = none) (ha:PA X [e,e2] ta) (hs:noStar e=true) (hs2:noStar e2=true) :
  PI X (.Tuple elts kk tpos) (.Call (.Name "zip" p) [e,e2] [⟨some "strict",.Constant (.bool true) j cp,kp⟩] pos) (sS X.K ta):=by
 refine⟨fun pins s σ H R I h=> ?_⟩
 have hpl:(backTo pos (starEach [e,e2] X.env)).any (·.1)=false:=bo (by simp [hs,hs2])
 refine wpAny_Call_Name_kw (ld_blt I hg hm MZ ?_);refine jB hpl rfl (evalArgs_kw2 rfl (thn (ha.run pos pins s σ H _ I h) fun us s1 ⟨vs,H1,I1,r1,q1⟩=> ?_) (aH hs))
 refine wpAny_mono (Q:=fun ks s2=>ks=[.bool true]∧s2=s1) ?_ (fun ks s2 hks=> ?_) fun _ _ x=>x
 ·exact evalAll_cons (wpAny_bind (Constant_bool (wpAny_bind (wpAny_standAt (wpAny_pure (evalAll_nil (And.intro rfl rfl)))))))
 obtain⟨rfl,rfl⟩:=hks;obtain⟨x,b,ys,ex,hqy,q⟩:=q1;subst ex;cases r1 with
 | cons r rr=>
  cases rr with
  | cons r' rr=>
   cases rr;obtain⟨t,rfl⟩:=r;cases r';obtain⟨its2,rv2,p2,_⟩:=I1.list hqy;have lb:b<s2.heap.objs.size:=p2.lt;refine tO p2.isList fun h' hz hTI hTO h1 h2 yf hk=>jy hz ?_
   have I2:Inv X pins σ H1 { s2 with heap:=h' }:=I1.kept (t':=s2.toks) hk
   have S:ZipSep2 (s2.heap.objs.size+4) (s2.heap.objs.size+2) (s2.heap.objs.size+3) s2.heap.objs.size (s2.heap.objs.size+1) [s2.heap.objs.size] [s2.heap.objs.size+1,b] :=
    Az _ _ lb
   have hit:∃ ty,(ty = "str_ascii_iterator" ∨ ty = "str_iterator")∧h'.IsStrIter s2.heap.objs.size ty x t 0:=by
    cases ha:x.cps.all (· < 128)
    ·exact⟨"str_iterator",.inr rfl,_,h1,by simp [dm,ha],rfl⟩
    ·exact⟨"str_ascii_iterator",.inl rfl,_,h1,by simp [dm,ha],rfl⟩
   obtain⟨ty,hty,hit⟩:=hit;refine⟨s2.heap.objs.size+4,[s2.heap.objs.size+4,s2.heap.objs.size+2,s2.heap.objs.size+3,s2.heap.objs.size,s2.heap.objs.size+1],_,_,H1,rfl,I2,td hty S (by have:b<s2.heap.objs.size:=lb; exact Jx (Kh this)),⟨hz,hTI,⟨_,_,hTO⟩,hit,h2⟩,fun c hcm=> ?_,q⟩
   have e':c=s2.heap.objs.size+4∨c=s2.heap.objs.size+2∨c=s2.heap.objs.size+3∨c=s2.heap.objs.size∨c=s2.heap.objs.size+1:=by simpa using hcm
   have hle:s2.heap.objs.size≤c:=by
    rcases e' with z | z | z | z | z
    ·rw[z]; exact KQ _ _
    ·rw[z]; exact KQ _ _
    ·rw[z]; exact KQ _ _
    ·rw[z]; exact Jw _
    ·rw[z]; exact KQ _ _
   exact I1.fpOk hle (I1.hok.fresh hle)
theorem Dd{W:Wd}{μ0:List Addr}{H0:Hp}{x:Str}{n:Nat}{b:Addr}(h:μ0[n]? = some b):RI W μ0 H0 (.zps x n) (GC W.K x b):=by
 intro μ H ah i e R;have hn:=e.pre _ _ h;cases q:bf (.zps x n) i ah with
 | none=>trivial
 | some r=>
  unfold bf at q;simp only at q;split at q
  ·rename_i xs hg;obtain⟨b',ys,eb,_,h1,r1⟩:=R.lst hg (.ref hn);cases eb;cases zc:x.cps[i]? with
   | none=>
    cases zx:xs[i]? with
    | none=>
     simp only[zc,zx]at q;split at q
     ·rename_i hl;cases q;exact⟨ys,.of h1,by rw[←r1.length]; exact hl.1,hl.2⟩
     ·cases q
    | some v=>simp only[zc,zx]at q; cases q
   | some c=>
    cases zx:xs[i]? with
    | none=>simp only[zc,zx]at q; cases q
    | some v=>
     simp only[zc,zx]at q;cases q;obtain⟨y,hy,ry⟩:=r1.get zx;refine⟨⟨ys,y,c,.of h1,hy,zc⟩,fun v' H' ⟨T,w1,c',e',hT,eH,hc',hx⟩=> ?_⟩
     subst e'; subst eH;rw[zc]at hc'; cases hc';have:=hx ys (.of h1);rw[hy]at this; cases this;exact iH R (.cons .str (.cons ry .nil)) hT
  ·cases q
def Dk(vs:List AV)(h:AH):Ex AI:=match vs with
 | [.str x,.ref m]=>(match h.get m with
  | some (.lst _)=> .ok (.zps x m) h
  | _=> .stuck)
 | _=> .stuck
theorem za {f:AL} (hg:Gl X "zip") (hm:X.mg "zip" = none) (ha:MA X a0 [e,e2] f) (hn:noStar e=true) (hn2:noStar e2=true) :
  MI X a0 (.Tuple elts kk tpos) (.Call (.Name "zip" p) [e,e2] [⟨some "strict",.Constant (.bool true) j cp,kp⟩] pos) (fun s h=>(f s h).bind Dk) :=
 PI.imp (Ae hg hm ha hn hn2) fun σ H R ⟨μ,s,ah,hs,hr,p⟩=>⟨μ,s,ah,hs,hr,(ag.bind p).mono fun x H1 ⟨μ1,vs,h1,e1,hr1,r1,p1⟩=>by
  unfold Dk at p1;split at p1
  ·split at p1
   ·rename_i q;cases r1 with
    | cons r t=>cases t with
     | cons r' t=>
      obtain⟨d,ys,rfl,hn,z1,z2⟩:=hr1.lst q r';cases r;cases t;exact⟨_,_,_,rfl,.of z1,ag.ret (W:=Cx.wd X a0) (rel:=RI (Cx.wd X a0)) p1 hr1 (Dd hn)⟩
   ·exact p1.elim
  ·exact p1.elim⟩
end
section
variable {X:Cx}{a0:Addr}
theorem zV{pins:List (Addr×Obj)}{σ:KJ}{H:Hp}{s:Shared}{E:Value→Shared→Prop}{D:Addr}{S:Key→Bool}{n:Nat}{k:Key}{u:Value}{Q:Value→Shared→Prop}(I:Inv X pins σ H s)(hD:H D=some (SetK X.prog X.w D S n))(room:n+1<scanBound)(ru:RelV (kV k) u)
  (h:∀ s',Inv X pins σ (upd H D (SetK X.prog X.w D (fun j=>S j || decide (j=k)) (if S k=true then n else n+1))) s'→Q .none s'):wpAny (model X.prog X.w) X.A (call (.builtin "set.add") [.ref D,u]) Q E s:=by
 refine call_set_add (kV_is ru) (key_scan ru) (setK_get I hD) room fun h' sb new=> ?_
 have he:∃ u,h'.get? D=some u:=by
  have ⟨o,_,_,_,ho,_⟩:=new;exact⟨o,ho⟩
 exact h _ (I.write (e:=D) (t':=s.toks+1) (by rw[hD]; trivial) (.inl rfl) (fun b u hb hu=>(sb.2 b hb).trans hu) he (setK_new new))
def IF(P:Program)(w:World)(wi:TI)(g:TG)(tt:TT)(te:TE)(vs:List Nat):TE:=fun σ H Q=>wi σ H fun J H1=>∀ D,H1 D=none→∃ W:Nat→Nat→Hp→Prop,(∃ m,W 0 m (upd H1 D (SetK P w D (fun _=>false) 0)))∧∀ i m H,W i m H→
 (J.stop i H∧Q (.ref D) H)∨(J.go i H∧∃ Nx:Hp→Prop,(∀ H',Nx H'→∃ m',m'<m∧W (i+1) m' H')∧∀ x H',J.yld i H x H'→g x (wipe σ vs) H' fun σ2 H2=>wipe σ2 vs=wipe σ vs∧tt σ2 H2 fun b H3=>
  if b=true then te σ2 H3 fun y H4=>∃(k:Key) (S:Key→Bool) (n:Nat),y=kV k∧H4 D=some (SetK P w D S n)∧n+1<scanBound∧Nx (upd H4 D (SetK P w D (fun j=>S j || decide (j=k)) (if S k=true then n else n+1)))else Nx H3)
theorem Fd{elt tg iter:Expr}{ifs:List Expr}{scope:Scope}{own:List (Jh×Nat)}{pos:Pos}{wi:TI}{g:TG}{tt:TT}{te:TE}(hc:X.calm=true)(hN:X.N.Nodup)(hi:PI X tg iter wi)(ok:BlkOk X.N X.env.scope scope own)
  (hg:∀(s:Shared) (H:Hp) (C:Addr) (cl:List (Jh×Addr)) (fp:List Addr),PG (X.blk s H scope (compEnvC scope cl C X.env) fp) tg g) (ht:∀(s:Shared) (H:Hp) (C:Addr) (cl:List (Jh×Addr)) (fp:List Addr),PTs (X.blk s H scope (compEnvC scope cl C X.env) fp) ifs tt)
  (he:∀(s:Shared) (H:Hp) (C:Addr) (cl:List (Jh×Addr)) (fp:List Addr),PE (X.blk s H scope (compEnvC scope cl C X.env) fp) elt te) (hs:∀ x,foldedSetIterable iter X.env x=pure x) :
  PE X (.SetComp elt [⟨tg,iter,ifs,0⟩] scope pos) (IF X.prog X.w wi g tt te (own.map (·.2))):=by
 refine⟨fun pins s σ H Q I h=> ?_⟩
 rw[PpSet.eval_SetComp];have hfree:∀ y∈scope.names,y.2 = .free→∃ c,X.env.cells.lookup y.1=some c:=fun y hy e=>(ok.free y hy e).elim (fun k=>I.ok.has _ (.inl k)) fun k=>I.ok.has _ (.inr k)
 refine wpAny_comprehension_free (use:=none) rfl hs (closure_ok hfree) ok.kind (fun y hy e=>by rw[ok.uniq y hy,e])
  (thn (hi.run pins s σ H _ I h) fun xv s1 hx=>thn hx fun itv s2 h2=> ?_)
 obtain⟨it,fp,tn,J,H2,rfl,I2,T,st2,f2,q⟩:=h2;refine PpSet.newSet_ok (newEnv_comp ?_);have hDn:H2 s2.heap.objs.size=none:=I2.hok.fresh (Jw _);obtain⟨W,⟨m0,w0⟩,turn⟩:=q _ hDn;generalize hs3:({ s2 with heap:=s2.heap.push { cls:=.type "set",dict:=none,data:=.set #[] 0 (.fresh 0 0 (!X.w.params.followText "set-order")) } }:Shared)=s3
 have h3:s3.heap=s2.heap.push { cls:=.type "set",dict:=none,data:=.set #[] 0 (.fresh 0 0 (!X.w.params.followText "set-order")) }:=by rw[←hs3]
 have sz:∀ b∈fp,b<s2.heap.objs.size:=fun b hb=>let ⟨o,e,_⟩:=T.obj _ _ st2 b hb; Heap.lt_size e
 have I3:Inv X pins σ (upd H2 s2.heap.objs.size (SetK X.prog X.w s2.heap.objs.size (fun _=>false) 0)) s3:=by
  rw[←hs3];refine I2.laid (t':=s2.toks) (fun b o e=>Heap.get?_push_of_some _ e) (Jw _) (setK_new ?_)
  exact⟨_,#[],0,_,Heap.get?_push_size _ rfl,⟨rfl,rfl,rfl⟩,rfl,(fun e he=>by simp at he),(fun k=>by simp),(by decide),(by rfl),rfl⟩
 generalize hD:s2.heap.objs.size=D at hDn w0 turn I3 sz;have f3:∀ b∈fp,FpOk X pins (upd H2 D (SetK X.prog X.w D (fun _=>false) 0)) b∧b<s3.heap.objs.size:=fun b hb=>by
  have hlt:=sz b hb;refine⟨⟨?_,(f2 b hb).2⟩,by rw[h3,Heap.size_push,hD]; exact Kh hlt⟩
  rw[upd_ne (Jx hlt)];exact(f2 b hb).1
 have st3:tn 0 s3.heap:=T.keep _ _ _ st2 fun b _ o e=>by rw[h3]; exact Heap.get?_push_of_some _ e
 have I4:=block_start I3 ok hN f3;have nfp:∀ b∈fp,(upd H2 D (SetK X.prog X.w D (fun _=>false) 0)) b=none:=fun b hb=>(f3 b hb).1.1
 generalize hH3:upd H2 D (SetK X.prog X.w D (fun _=>false) 0)=H3 at I3 I4 w0 nfp f3
 generalize hcl:cellsFrom (s3.heap.objs.size+1) scope.names (cloFrom X.env.cells scope.names [])=cl at I4;have pg:=hg s3 H3 s3.heap.objs.size cl fp;have pt:=ht s3 H3 s3.heap.objs.size cl fp;have pe:=he s3 H3 s3.heap.objs.size cl fp;show codeAny _ _ (.compStart (.SetComp elt [⟨tg,iter,ifs,0⟩] scope pos) 0 (.ref it) (.ref D) (compEnvC scope cl s3.heap.objs.size X.env)) (compPost (model X.prog X.w) X.A X.xe none (EP X pins σ Q) (.ref D) s3.heap.objs.size) { s3 with heap:=pushCells (s3.heap.push { cls:=.type "dict",data:=.dict #[] }) scope.names }
 have cL:(compEnvC scope cl s3.heap.objs.size X.env).locals=s3.heap.objs.size:=rfl;generalize compEnvC scope cl s3.heap.objs.size X.env=ce at I4 pg pt pe cL ⊢;generalize hs4:({ s3 with heap:=pushCells (s3.heap.push { cls:=.type "dict",data:=.dict #[] }) scope.names }:Shared)=s4 at I4 ⊢
 have st4:tn 0 s4.heap:=T.keep _ _ _ st3 fun b _ o e=>by rw[←hs4]; exact pushCells_keeps _ _ _ _ (Heap.get?_push_of_some _ e)
 have stat:∀{σ':KJ} {H':Hp} {s':Shared},Inv (X.blk s3 H3 scope ce fp) [] σ' H' s'→(∀ b∈fp,H' b=none)→∀ b∈fp,FpOk (X.blk s3 H3 scope ce fp) [] H' b:=fun{σ' H' s'} I' hn b hb=>
  ⟨hn b hb,(I'.ok.exf b hb).1,I'.ok.exfs b hb,.inl hb,fun x c e=>(I'.ok.exf b hb).2 x c e,fun p hp=>absurd (show p∈([]:List (Addr×Obj))++[]from hp) (by simp)⟩
 have loop:codeAny (model X.prog X.w) X.A (.compLoop (.SetComp elt [⟨tg,iter,ifs,0⟩] scope pos) 0 (.ref it) (.ref D) ce) (compPost (model X.prog X.w) X.A X.xe none (EP X pins σ Q) (.ref D) s3.heap.objs.size) s4:=by
  refine PpSet.compLoopS_any (fun n s'=>∃ i H',Inv (X.blk s3 H3 scope ce fp) [] (wipe σ (own.map (·.2))) H' s'∧tn i s'.heap∧(∀ b∈fp,H' b=none)∧W i n H') ?_ m0 ⟨0,H3,I4,st4,nfp,w0⟩
  rintro n s5 ⟨i,H5,I5,st5,n5,w5⟩;rcases turn i n H5 w5 with ⟨stop,qq⟩ | ⟨go,Nx,hNx,step⟩
  ·refine thnF (T.done (X.blk s3 H3 scope ce fp) rfl rfl rfl hc i [] s5 _ H5 (fun _ _=>False) I5 (stat I5 n5) st5 stop) fun r s6 ⟨hr,I6⟩=> ?_
   subst hr;have I7:Inv X pins σ H5 s6:=I3.call' (ch:=fp) I6.os I6.base I6.hok I6.bare fun b hb=>⟨(f3 b hb).1.2.2.2.1,(f3 b hb).1.2.1,(f3 b hb).1.2.2.2.2.1,(f3 b hb).1.2.2.2.2.2⟩
   have nC:H5 s3.heap.objs.size=none:=by
    have z:H5 ce.locals=none:=I6.free;rw[cL]at z;exact z
   obtain⟨m,hn,_⟩:=I6.loc;have hn:s6.heap.Ns ce.locals m:=hn;rw[cL]at hn;obtain⟨k0,k1,k2,k3,k4,k5⟩:=I3.fpOk (Jw _) nC;exact⟨m,hn,fun h'' sb=>⟨.ref D,H5,I7.turned (t':=s6.toks) (fun b o hb e=>(sb.2 b hb).trans e) k0 k1 k3 k4 k5,rfl,qq⟩⟩
  ·refine thnF (T.item (X.blk s3 H3 scope ce fp) rfl rfl rfl hc i [] s5 _ H5 (fun _ _=>False) I5 (stat I5 n5) st5 go) fun r s6 ⟨u,hr,h6⟩=> ?_
   subst hr;refine thnF h6 fun _ s7 ⟨x,H7,I7,r7,y7,st7,n7⟩=> ?_
   have I7':=I7.pinned (stat I7 n7) (T.obj _ _ st7);refine thnF (pg.run _ s7 _ H7 x u _ I7' r7 (step x H7 y7)) fun _ s8 ⟨σ8,H8,I8,hw8,q8⟩=> ?_
   refine thnF (pt.run _ s8 σ8 H8 _ I8 q8) fun b s9 ⟨H9,I9,q9⟩=> ?_
   have fin:∀{s':Shared} {H':Hp},Inv (X.blk s3 H3 scope ce fp) ([]++pinsAt fp s7.heap) σ8 H' s'→Nx H'→∃ m,m<n∧∃ i H',Inv (X.blk s3 H3 scope ce fp) [] (wipe σ (own.map (·.2))) H' s'∧tn i s'.heap∧(∀ b∈fp,H' b=none)∧W i m H':=fun{s' H'} I' nx=>by
    obtain⟨m',hm,w'⟩:=hNx H' nx;have pin':∀ b∈fp,∀ o,s7.heap.get? b=some o→s'.heap.get? b=some o∧H' b=none:=fun b hb o e=>
     let z:=I'.pin (b,o) (JB _ (JB _ (mem_pinsAt hb e)))
     ⟨z.1,z.2.1⟩
    have hl:(wipe σ (own.map (·.2))).length = σ8.length:=by rw[←hw8,wipe_length]
    refine⟨m',hm,i+1,H',(I'.unpinned (pins:=[])).weak hl (fun j v e=> ?_),T.keep _ _ _ st7 fun b hb o e=>(pin' b hb o e).1,fun b hb=> ?_,w'⟩
    ·rw[←hw8]at e;exact(wipe_some e).1
    ·obtain⟨o,e,_⟩:=T.obj _ _ st7 b hb;exact(pin' b hb o e).2
   cases b with
   | false=>
    simp only[Jp,if_false]at q9 ⊢;exact fin I9 q9
   | true=>
    simp only[if_true]at q9 ⊢;refine thnF (pe.run _ s9 σ8 H9 _ I9 q9) fun z s10 ⟨yv,H10,I10,r10,k,S0,n0,ey,hD10,hz10,nx⟩=> ?_
    subst ey;exact zV (X:=X.blk s3 H3 scope ce fp) I10 hD10 hz10 r10 fun s11 I11=>fin I11 nx
 exact PpSet.codeAny_compStart_set loop (T.self X.A 0 _ _ _ st4 loop)
def Bb(P:Program)(w:World):List V→Hp→VK→Prop:=fun xs H Q=>∃ D S n,xs=[.ref D]∧H D=some (SetK P w D S n)∧Q (.int (n:Nat)) H
theorem Ap:CallR X (.builtin "len") (Bb X.prog X.w):=by
  intro pins s σ H xs us Q I r h;obtain⟨D,S,n,rfl,hD,q⟩:=h;cases r with
  | cons r t=>
    cases t;cases r;obtain⟨o,es,ep,t,ho,hex,hd,_,_,hb,hf,hn⟩:=setK_get I hD
    refine call_len_set ho hex hd hf (by have h1:((scanBound:Nat):Int)<2 ^ 63:=by decide
                                         omega) ⟨.int (n:Nat),H,I.tok _,⟨_,by rw[hn]⟩,q⟩
theorem ag.xJ{α β γ δ:Type}{W:Wd}{μ0 μ:List Addr}{H0 H:Hp}{rel:List Addr→Hp→ α → β → Prop}{rel':List Addr→Hp→ γ → δ → Prop}{r:Ex α}{k:α → AH→Ex γ}{Q:δ → Hp→Prop}(p:ag W rel' μ0 H0 (r.bind k) Q) :
  ag W rel μ H r (fun b H1=>∃ μ1 a h1,Ext W μ H μ1 H1∧HR W μ1 h1 H1∧rel μ1 H1 a b∧ag W rel' μ0 H0 (k a h1) Q):=by
 cases r with
 | stuck=>exact p
 | ok a h=>exact fun μ' H' b e hr rl=>⟨μ',a,h,e,hr,rl,p⟩
theorem pE{K:Jj}{H:Hp}{D:Addr}{φ:Heap→Prop}{o:HO}(hD:H D=some (.ext φ)){a:Addr}{ys:List V}(h:SqT K H a ys):SqT K (upd H D o) a ys :=
 SqT.upd (W:=⟨K,a⟩) (p:=D) h fun u e=>by
  rw[hD]at e; cases e;exact⟨fun _ z=>(nomatch z),fun _ _ z=>(nomatch z)⟩
theorem HR.Gk{W:Wd}{μ:List Addr}{H:Hp}{ah:AH}{D:Addr}{φ:Heap→Prop}{o:HO}(R:HR W μ ah H)(hD:H D=some (.ext φ)):HR W μ ah (upd H D o):=by
 have kp:∀ a ys,SqT W.K H a ys→SqT W.K (upd H D o) a ys:=fun a ys h=>pE hD h
 refine⟨R.sz,R.full,R.nd,fun n ao e=> ?_,R.scr.upd fun u e ob v z=> ?_⟩
 ·obtain⟨a,h1,h2⟩:=R.obj n ao e;have ne:a≠D:=by
   rintro rfl;cases ao with
   | lst xs=>obtain⟨_,z,_⟩:=h2; rw[hD]at z; cases z
   | bA xs=>obtain⟨_,z,_⟩:=h2; rw[hD]at z; cases z
   | ins C xs=>obtain⟨_,_,z,_⟩:=h2; rw[hD]at z; cases z
   | iY xs=>obtain⟨_,_,z,_⟩:=h2; rw[hD]at z; cases z
  refine⟨a,h1, ?_⟩;cases ao with
  | lst xs=>obtain⟨ys,e1,r⟩:=h2; exact⟨ys,(upd_ne ne).trans e1,aV.keep kp r⟩
  | bA xs=>obtain⟨ys,e1,r⟩:=h2; exact⟨ys,(upd_ne ne).trans e1,bj.keep kp r⟩
  | ins C xs=>obtain⟨dx,ys,e1,r⟩:=h2; exact⟨dx,ys,(upd_ne ne).trans e1,bj.keep kp r⟩
  | iY xs=>obtain⟨ob,ys,e1,r⟩:=h2; exact⟨ob,ys,(upd_ne ne).trans e1,bj.keep kp r⟩
 ·rw[hD]at e; cases e; cases z
def cZ(k:Key)(seen:List Key):Bool:=seen.any fun j=>decide (j=k)
def DI(J:AI)(g:AG)(t:AT)(el:AE)(s:az):Nat→Nat→List Key→AH→Ex AV
 | 0,_,_,_=> .stuck
 | f+1,i,seen,h=>match bf J i h with
  | none=> .stuck
  | some none=> .ok (.int (seen.length:Nat)) h
  | some (some v)=>(g v s h).bind fun s1 h1=>(t s1 h1).bind fun b h2=>if b=true then(el s1 h2).bind fun y h3=>(match cA y with
    | some k=>if seen.length+1<scanBound then DI J g t el s f (i+1) (if cZ k seen=true then seen else k::seen) h3 else .stuck
    | none=> .stuck)else DI J g t el s f (i+1) seen h2
def mU(F:Nat)(fi:az→AH→Ex AI)(g:AG)(t:AT)(el:AE)(vs:List Nat):AE:=fun s h=>(fi s h).bind fun J h1=>DI J g t el (a5 s vs) F 0 [] h1
theorem CF{P:Program}{w:World}{W:Wd}{F:Nat}{fi:az→AH→Ex AI}{g:AG}{t:AT}{el:AE}{vs is:List Nat}{σ:KJ}{H:Hp}{Q:VK}(hv:∀ i∈is,i∈vs)(h:d8 W (mU F fi g t el vs) σ H Q) :
  IF P w (A7 W fi) (qd W is g) (pN W t) (d8 W el) vs σ H fun x H1=>Bb P w [x] H1 Q:=by
 obtain⟨μ,s,ah,hs,hr,p⟩:=h;refine⟨μ,s,ah,hs,hr,(ag.bind p).mono fun J H1 ⟨μ1,aJ,h1,e1,hr1,rJ,p1⟩ D hD=> ?_⟩
 refine⟨fun i m H=>∃ μ2 h2 seen S n,Ext W μ1 H1 μ2 H∧HR W μ2 h2 H∧H D=some (SetK P w D S n)∧(∀ j,S j=cZ j seen)∧n=seen.length∧bh W μ1 H1 (DI aJ g t el (a5 s vs) m i seen h2) Q,
  ⟨F,μ1,h1,[],_,0,Ext.fW hD,hr1.tup hD,upd_same,fun j=>rfl,rfl,p1⟩, ?_⟩
 rintro i m H2 ⟨μ2,h2,seen,S,n,e2,hr2,hSD,hS,hn,p2⟩;cases m with
 | zero=>exact p2.elim
 | succ m=>
  unfold DI at p2;have z:=rJ μ2 H2 h2 i e2 hr2;split at p2
  ·exact p2.elim
  ·rename_i q;rw[q]at z;exact .inl ⟨z,D,S,n,rfl,hSD,by rw[hn]; exact p2 μ2 H2 _ e2 hr2 .int⟩
  ·rename_i v q;rw[q]at z;refine .inr ⟨z.1,fun H'=>∃ μ2 h2 seen S n,Ext W μ1 H1 μ2 H'∧HR W μ2 h2 H'∧H' D=some (SetK P w D S n)∧(∀ j,S j=cZ j seen)∧n=seen.length∧bh W μ1 H1 (DI aJ g t el (a5 s vs) m (i+1) seen h2) Q,fun H' h'=>⟨m,Jy m,h'⟩,fun x H3 hy=> ?_⟩
   obtain⟨e3,hr3,rv⟩:=z.2 x H3 hy;have e03:=e2.trans e3;refine⟨μ2,v,a5 s vs,h2,((hs.ext e1).ext e03).wipe vs,hr3,rv,(ag.xJ p2).mono fun σ4 H4 ⟨μ4,s4,h4,e4,hr4,⟨hs4,c4⟩,p4⟩=>⟨fm c4 hv, ?_⟩⟩
   refine⟨μ4,s4,h4,hs4,hr4,(ag.xJ p4).mono fun b H5 ⟨μ5,b',h5,e5,hr5,eb,p5⟩=> ?_⟩
   have eb':b'=b:=eb;subst eb';cases b' with
   | true=>
    rw[if_pos rfl]at p5 ⊢;refine⟨μ5,s4,h5,hs4.ext e5,hr5,(ag.xJ p5).mono fun y H6 ⟨μ6,w6,h6,e6,hr6,ry,p6⟩=> ?_⟩
    have eD:Ext W μ2 H2 μ6 H6:=e3.trans (e4.trans (e5.trans e6));have hD6:=eD.xt D _ hSD;split at p6
    ·rename_i k hk;split at p6
     ·rename_i hl;refine⟨k,S,n,bW ry hk,hD6,by rw[hn]; exact hl,μ6,h6,_,_,_, ?_,hr6.Gk hD6,upd_same,fun j=> ?_, ?_,p6⟩
      ·exact⟨fun m a z=>(e2.trans eD).pre m a z,fun a ys z=>pE hD6 ((e2.trans eD).tup a ys z),fun a o u z=>by rw[upd_ne (ne_of_none z hD)]; exact(e2.trans eD).frz a o u z,
        fun a f z=>by rw[upd_ne (ne_of_none z hD)]; exact(e2.trans eD).xt a f z⟩
      ·rw[hS j];by_cases hm:cZ k seen=true
       ·rw[if_pos hm];by_cases hj:j=k
        ·subst hj; rw[hm]; rfl
        ·simp [hj]
       ·rw[if_neg hm];show(cZ j seen || decide (j=k))=(decide (k=j) || cZ j seen)
        rw[M0];by_cases hj:j=k
        ·subst hj; simp
        ·have:¬ k=j:=fun z=>hj z.symm
         simp [hj,this]
      ·rw[hS k];by_cases hm:cZ k seen=true
       ·rw[if_pos hm,if_pos hm]; exact hn
       ·rw[if_neg hm,if_neg hm,hn]; rfl
     ·exact p6.elim
    ·exact p6.elim
   | false=>
    rw[if_neg J9]at p5 ⊢;exact⟨μ5,h5,seen,S,n,e2.trans (e3.trans (e4.trans e5)),hr5,(e3.trans (e4.trans e5)).xt D _ hSD,hS,hn,p5⟩
theorem tG {p pos spos:Pos} {elt tg iter:Expr} {ifs:List Expr} {scope:Scope} {own:List (Jh×Nat)} {F:Nat} {fi:az→AH→Ex AI} {g:AG} {t:AT} {el:AE} {is:List Nat} (hc:X.calm=true) (hN:X.N.Nodup) (hG:Gl X "len") (hm:X.mg "len" = none)
  (hi:MI X a0 tg iter fi) (ok:BlkOk X.N X.env.scope scope own) (hv:∀ i∈is,i∈own.map (·.2))
  (hg:iU X scope fun Y=>MG Y a0 tg is g) (ht:iU X scope fun Y=>uj Y a0 ifs t) (he:iU X scope fun Y=>ME Y a0 elt el) (hs:ck iter=true) :
  ME X a0 (.Call (.Name "len" p) [.SetComp elt [⟨tg,iter,ifs,0⟩] scope spos] [] pos) (mU F fi g t el (own.map (·.2))) :=
 PE.imp (pe_callB Ap hG hm boot_len (pa_cons (Fd (g:=qd (Cx.wd X a0) is g) (tt:=pN (Cx.wd X a0) t) (te:=d8 (Cx.wd X a0) el) hc hN hi ok (fun s H C cl fp=>hg s H C cl fp) (fun s H C cl fp=>ht s H C cl fp) (fun s H C cl fp=>he s H C cl fp) (ef hs)) pa_nil) (by decide) (by decide) rfl rfl) fun _ _ _ h=>CF hv h
end
section
variable {X:Cx}{a0:Addr}{a b e o:Expr}{es:List Expr}{pos p apos cpos tpos:Pos}{x:Str}
def IE(X:Cx)(a0:Addr)(x:Str)(v:AV):Prop:=∃(u:Value) (y:V),X.mg x=some u∧RelV y u∧∀ μ H,Rl (Cx.wd X a0) μ H v y
theorem zz {v:AV} (hg:Gl X x) (h:IE X a0 x v) (hd:(x == ("__debug__" : Str))=false):ME X a0 (.Name x pos) (fun _ h=> .ok v h):=by
 obtain⟨u,y,hm,r,rl⟩:=h;exact dX (pe_glob hg hm r hd) rl
theorem Bm {T:String} (hg:Gl X x) (hm:X.mg x=none) (hv:bootBuiltins x=some (.type T)) (hn:x≠ "__name__") (hd:(x == ("__debug__" : Str))=false):ME X a0 (.Name x pos) (fun _ h=> .ok (.ty T) h) :=
 dX (v:=.ty T) (pe_bltn (v:=.ty T) hg hm hv rfl hn hd) fun _ _=> .ty
abbrev eX:=Str→Option (List (Str×AV))
def vm(X:Cx)(a0:Addr)(tab:eX):Prop:=∀ x kvs,tab x=some kvs→∃ es n,KDict X.K X.w (Jo X.K x) es n∧(∀ k v,kvs.lookup k=some v→∃ u y,JX X.K (Jo X.K x) k=some (some u)∧RelV y u∧∀ μ H,Rl (Cx.wd X a0) μ H v y)∧∀ k,kvs.lookup k=none→JX X.K (Jo X.K x) k=some none
def pL(tab:eX)(neg:Bool)(g:dF):dF:=fun a b h=>match b with
 | .glo x=>(match tab x,a with
  | some kvs,.str k=>(match kvs.lookup k with
   | some _=> .ok (.bl (!neg)) h
   | none=> .ok (.bl neg) h)
  | _,_=> .stuck)
 | _=>g a b h
theorem Bk{tab:eX}{g:dF}(K:vm X a0 tab)(ho:OpR X (compareOp .In) (bD (Cx.wd X a0) g)):OpR X (compareOp .In) (bD (Cx.wd X a0) (pL tab false g)):=by
 intro pins s σ H x y v u Q I rx ry ⟨μ,a,b,ah,hr,ra,rb,p⟩;unfold pL at p;split at p
 ·split at p
  ·rename_i kvs k ht;split at p
   ·rename_i w hk;obtain⟨es,n,D,hD,_⟩:=K _ _ ht;obtain⟨u0,y0,h1,_,_⟩:=hD _ _ hk;cases ra; cases rb;exact op_in_kd D pins s σ H _ _ v u Q I rx ry ⟨_,_,rfl,rfl,h1,p.ret hr .bl⟩
   ·rename_i hk;obtain⟨es,n,D,_,hF⟩:=K _ _ ht;cases ra; cases rb;exact op_in_kd D pins s σ H _ _ v u Q I rx ry ⟨_,_,rfl,rfl,hF _ hk,p.ret hr .bl⟩
  ·exact p.elim
 ·exact ho pins s σ H x y v u Q I rx ry ⟨μ,a,_,ah,hr,ra,rb,p⟩
theorem tj{tab:eX}{g:dF}(K:vm X a0 tab)(ho:OpR X (compareOp .NotIn) (bD (Cx.wd X a0) g)):OpR X (compareOp .NotIn) (bD (Cx.wd X a0) (pL tab true g)):=by
 intro pins s σ H x y v u Q I rx ry ⟨μ,a,b,ah,hr,ra,rb,p⟩;unfold pL at p;split at p
 ·split at p
  ·rename_i kvs k ht;split at p
   ·rename_i w hk;obtain⟨es,n,D,hD,_⟩:=K _ _ ht;obtain⟨u0,y0,h1,_,_⟩:=hD _ _ hk;cases ra; cases rb;exact op_notIn_kd D pins s σ H _ _ v u Q I rx ry ⟨_,_,rfl,rfl,h1,p.ret hr .bl⟩
   ·rename_i hk;obtain⟨es,n,D,_,hF⟩:=K _ _ ht;cases ra; cases rb;exact op_notIn_kd D pins s σ H _ _ v u Q I rx ry ⟨_,_,rfl,rfl,hF _ hk,p.ret hr .bl⟩
  ·exact p.elim
 ·exact ho pins s σ H x y v u Q I rx ry ⟨μ,a,_,ah,hr,ra,rb,p⟩
def c7(tab:eX)(g:dF):dF:=fun a b h=>match a with
 | .glo x=>(match tab x,b with
  | some kvs,.str k=>(match kvs.lookup k with
   | some v=> .ok v h
   | none=> .stuck)
  | _,_=> .stuck)
 | _=>g a b h
theorem zY{tab:eX}(K:vm X a0 tab)(hu:X.A.units+1<cLine):IxR X (bD (Cx.wd X a0) (c7 tab di)):=by
 intro value slice pins s σ H x y v u Q I rx ry ⟨μ,a,b,ah,hr,ra,rb,p⟩ hs;unfold c7 at p;split at p
 ·split at p
  ·rename_i kvs k ht;split at p
   ·rename_i w hk;obtain⟨es,n,D,hD,_⟩:=K _ _ ht;obtain⟨u0,y0,h1,h2,h3⟩:=hD _ _ hk;cases ra; cases rb;cases rx;exact KL (kd_type D I) Ku.lookup (op_item_kd D pins s σ H _ _ _ u Q I (show RelV (.ref _) (.ref _)from rfl) ry ⟨_,_,y0,rfl,rfl,h1,h2,p.ret hr (h3 μ H)⟩) hs
   ·exact p.elim
  ·exact p.elim
 ·exact Cy hu value slice pins s σ H x y v u Q I rx ry ⟨μ,_,b,ah,hr,ra,rb,p⟩ hs
theorem BH{tab:eX}{f f':AE}(K:vm X a0 tab)(hu:X.A.units+1<cLine)(ha:ME X a0 a f)(hb:ME X a0 b f')(hs:PlainIx b):ME X a0 (.Subscript a b pos) (aq f f' (c7 tab di)) :=
 PE.imp (pe_ix (zY K hu) ha hb hs) fun _ _ _ h=>nQ h
def uB(i:Nat)(f:AE)(g:Int→Int→Int):AS:=fun s h=>match s[i]? with
 | some (some (.int k))=>(f s h).bind fun w h1=>(match w with
  | .int j=> .ok (.nx (s.set i (some (.int (g k j))))) h1
  | _=> .stuck)
 | _=> .stuck
theorem mi{i:Nat}{f:AE}{p':Pos}(hN:X.N.Nodup)(hi:X.N[i]? = some x)(hx:Loc X.env.scope x)(hf:X.fn x=true∨X.env.scope.names.lookup x=some .local)(he:ME X a0 e f):MS X a0 (.AugAssign (.Name x p') .Add e pos) (uB i f fun a b=>a+b) :=
 PS.imp (ps_aug hN hi hx he ip_add hf) fun D σ H ⟨μ,s,ah,hs,hr,p⟩=>by
  unfold uB at p;split at p
  ·rename_i k q;obtain⟨y,hy,ry⟩:=hs.get q;cases ry;refine⟨_,hy,μ,s,ah,hs,hr,(aQ.bind (rel:=Rl (Cx.wd X a0)) p).mono fun z H1 ⟨μ1,w,h1,e1,hr1,r1,p1⟩=> ?_⟩
   split at p1
   ·cases r1;exact⟨_,_,rfl,rfl,p1 μ1 H1 _ .refl hr1 ((hs.ext e1).set i .int)⟩
   ·exact p1.elim
  ·exact p.elim
def Af(sc:Scope)(ts vs:List Expr):Bool :=
 !(ts.length == 2 || ts.length == 3) || (vs.length != ts.length) || (vs.any fun | .Starred .. => true | _=>false) || (ts.any fun | .Name x p=> !(sc.names.lookup x == some .local && p.line == (ts.head?.map (·.pos.line)).getD 0) | _=>true) || vs.all (foldedForSure 8)
theorem gk{α β:Type}{f:α → Option β}:∀{l:List α},(∃ a∈l,f a=none)→(l.filterMap f).length≠l.length
 | [],h=>by obtain⟨a,h,_⟩:=h; cases h
 | x::xs,h=>by
  have hle:(xs.filterMap f).length≤xs.length:=Lc f xs;cases q:f x with
  | none=>
   rw[List.filterMap_cons_none q,Jn];omega
  | some y=>
   rw[List.filterMap_cons_some q,Jn,Jn];obtain⟨a,ha,hn⟩:=h;rcases Jv.mp ha with e | ha
   ·subst e; rw[q]at hn; cases hn
   ·have:=gk (l:=xs) ⟨a,ha,hn⟩;omega
theorem Ax{env:Env}{ts vs:List Expr}{k1 k2:Nat}{p1 p2:Pos}(h:Af env.scope ts vs=true):swappedStores [.Tuple ts k1 p1] (.Tuple vs k2 p2) env=pure none:=by
 unfold swappedStores;unfold Af at h;simp only[JC,pure_bind]at h ⊢;split
 ·rfl
 ·split
  ·rfl
  ·split
   ·rfl
   ·rename_i h1 h2 h3;have hE:vs.all (foldedForSure 8)=true:=by
     rcases h with ((((h | h) | h) | h) | h)
     ·exact absurd (.inl (.inl h)) h1
     ·exact absurd (.inl (.inr h)) h1
     ·exact absurd h h2
     ·refine absurd (.inl ?_) h3;obtain⟨t,ht,hn⟩:=Lo.mp h;rw[bne_iff_ne];refine gk ⟨t,ht, ?_⟩;cases t with
      | Name x p=>
       refine if_neg fun z=> ?_
       have hn':(!(env.scope.names.lookup x == some .local && p.line == (ts.head?.map (·.pos.line)).getD 0))=true:=hn
       rw[show(env.scope.names.lookup x == some .local && p.line == (ts.head?.map (·.pos.line)).getD 0)=true from z]at hn'
       cases hn'
      | _=>first | rfl | (cases hn)
     ·exact h
    rw[if_pos hE]
theorem zw{ts vs:List Expr}{k1 k2:Nat}{p1 p2:Pos}{is:List Nat}{f:AE}{g:AG}(he:ME X a0 (.Tuple vs k2 p2) f)(hg:MG X a0 (.Tuple ts k1 p1) is g)(hw:Af X.env.scope ts vs=true) :
  MS X a0 (.Assign [.Tuple ts k1 p1] (.Tuple vs k2 p2) pos) (bZ f g) :=
 PS.imp (ps_asg he hg rfl (Ax hw) rfl) fun D σ H ⟨μ,s,ah,hs,hr,p⟩=>⟨μ,s,ah,hs,hr,(aQ.bind p).mono fun x H1 ⟨μ1,v,h1,e1,hr1,r1,p1⟩=>
  ⟨μ1,v,s,h1,hs.ext e1,hr1,r1,(jM p1).weak fun _ _ _ _ z=>z.1⟩⟩
theorem ag.of_eq{α β:Type}{W:Wd}{rel:List Addr→Hp→ α → β → Prop}{μ:List Addr}{H:Hp}{r r':Ex α}{Q:β → Hp→Prop}(p:ag W rel μ H r Q)(e:r=r'):ag W rel μ H r' Q:=e ▸ p
def wc(J:AI)(g:AG)(t:AT)(el:AE)(s:az)(d:Nat):Nat→Nat→AH→Ex AV
 | 0,_,_=> .stuck
 | f+1,i,h=>match bf J i h with
  | none=> .stuck
  | some none=> .ok .non h
  | some (some v)=>(g v s h).bind fun s1 h1=>(t s1 h1).bind fun b h2=>if b=true then(el s1 h2).bind fun y h3=>(match h3.get d with
    | some (.lst acc)=>if acc.length<sizeLine then wc J g t el s d f (i+1) (h3.set d (.lst (acc++[y])))else .stuck
    | _=> .stuck)else wc J g t el s d f (i+1) h2
def xy(F:Nat)(J:AI)(g:AG)(t:AT)(fi1:az→AH→Ex AI)(g1:AG)(t1:AT)(el:AE)(vs1:List Nat)(s:az)(d:Nat):Nat→Nat→AH→Ex AV
 | 0,_,_=> .stuck
 | f+1,i,h=>match bf J i h with
  | none=> .stuck
  | some none=> .ok (.ref d) h
  | some (some v)=>(g v s h).bind fun s1 h1=>(t s1 h1).bind fun b h2=>if b=true then(fi1 s1 h2).bind fun J1 h3=>(wc J1 g1 t1 el (a5 s1 vs1) d F 0 h3).bind fun _ h4=>xy F J g t fi1 g1 t1 el vs1 s d f (i+1) h4
   else xy F J g t fi1 g1 t1 el vs1 s d f (i+1) h2
def vW(F:Nat)(fi:az→AH→Ex AI)(g:AG)(t:AT)(fi1:az→AH→Ex AI)(g1:AG)(t1:AT)(el:AE)(vs vs1:List Nat):AE:=fun s h=>(fi s h).bind fun J h1=>xy F J g t fi1 g1 t1 el vs1 (a5 s vs) h1.n F 0 (h1.push (.lst []))
theorem rQ{W:Wd}{F:Nat}{fi fi1:az→AH→Ex AI}{g g1:AG}{t t1:AT}{el:AE}{vs vs1 is:List Nat}{σ:KJ}{H:Hp}{Q:VK}(hv:∀ i∈is,i∈vs)(h:d8 W (vW F fi g t fi1 g1 t1 el vs vs1) σ H Q) :
  tLc2 (A7 W fi) (qd W is g) (pN W t) (A7 W fi1) (qd W vs1 g1) (pN W t1) (d8 W el) vs vs1 σ H Q:=by
 obtain⟨μ,s,ah,hs,hr,p⟩:=h;refine⟨μ,s,ah,hs,hr,(ag.bind p).mono fun J H1 ⟨μ1,aJ,h1,e1,hr1,rJ,p1⟩ D hD=> ?_⟩
 have E0:Ext W μ1 H1 (μ1++[D]) (upd H1 D (.lst [])):=Ext.cb hD;have R0:HR W (μ1++[D]) (h1.push (.lst [])) (upd H1 D (.lst [])):=hr1.push hD ⟨[],upd_same,.nil⟩;have hd:(μ1++[D])[h1.n]? = some D:=by rw[hr1.sz]; simp
 refine⟨fun i m H=>∃ μ2 h2,Ext W (μ1++[D]) (upd H1 D (.lst [])) μ2 H∧HR W μ2 h2 H∧bh W μ2 H (xy F aJ g t fi1 g1 t1 el vs1 (a5 s vs) h1.n m i h2) Q,⟨F,_,_,.refl,R0,p1.ext E0⟩, ?_⟩
 rintro i m H2 ⟨μ2,h2,e2,hr2,p2⟩;cases m with
 | zero=>exact p2.elim
 | succ m=>
  unfold xy at p2;have z:=rJ μ2 H2 h2 i (E0.trans e2) hr2;split at p2
  ·exact p2.elim
  ·rename_i q;rw[q]at z;exact .inl ⟨z,p2.ret hr2 (.ref (e2.pre _ _ hd))⟩
  ·rename_i v q;rw[q]at z;refine .inr ⟨z.1,fun H'=>∃ μ3 h3,Ext W (μ1++[D]) (upd H1 D (.lst [])) μ3 H'∧HR W μ3 h3 H'∧bh W μ3 H' (xy F aJ g t fi1 g1 t1 el vs1 (a5 s vs) h1.n m (i+1) h3) Q,fun H' h'=>⟨m,Jy m,h'⟩,fun x H3 hy=> ?_⟩
   obtain⟨e3,hr3,rv⟩:=z.2 x H3 hy;have e03:=E0.trans (e2.trans e3);refine⟨μ2,v,a5 s vs,h2,((hs.ext e1).ext e03).wipe vs,hr3,rv,(ag.bind (p2.ext e3)).mono fun σ4 H4 ⟨μ4,s4,h4,e4,hr4,⟨hs4,c4⟩,p4⟩=>⟨fm c4 hv, ?_⟩⟩
   refine⟨μ4,s4,h4,hs4,hr4,(ag.bind p4).mono fun b H5 ⟨μ5,b',h5,e5,hr5,eb,p5⟩=> ?_⟩
   have eb':b'=b:=eb;subst eb';cases b' with
   | false=>
    rw[if_neg J9]at p5 ⊢;exact⟨μ5,h5,e2.trans (e3.trans (e4.trans e5)),hr5,p5⟩
   | true=>
    rw[if_pos rfl]at p5 ⊢;have e25:=e2.trans (e3.trans (e4.trans e5));refine⟨μ5,s4,h5,hs4.ext e5,hr5,(ag.bind p5).mono fun J1 H6 ⟨μ6,aJ1,h6,e6,hr6,rJ1,p6⟩=> ?_⟩
    refine⟨fun j k H=>∃ μ7 h7,Ext W μ6 H6 μ7 H∧HR W μ7 h7 H∧bh W μ7 H ((wc aJ1 g1 t1 el (a5 s4 vs1) h1.n k j h7).bind fun _ h8=>xy F aJ g t fi1 g1 t1 el vs1 (a5 s vs) h1.n m (i+1) h8) Q,⟨F,μ6,h6,.refl,hr6,p6⟩, ?_⟩
    rintro j k H7 ⟨μ7,h7,e7,hr7,p7⟩;cases k with
    | zero=>exact p7.elim
    | succ k=>
     unfold wc at p7;have z1:=rJ1 μ7 H7 h7 j e7 hr7;split at p7
     ·exact p7.elim
     ·rename_i q1;rw[q1]at z1;exact .inl ⟨z1,μ7,h7,e25.trans (e6.trans e7),hr7,p7⟩
     ·rename_i v1 q1;rw[q1]at z1;refine .inr ⟨z1.1,fun H=>∃ μ7 h7,Ext W μ6 H6 μ7 H∧HR W μ7 h7 H∧bh W μ7 H ((wc aJ1 g1 t1 el (a5 s4 vs1) h1.n k (j+1) h7).bind fun _ h8=>xy F aJ g t fi1 g1 t1 el vs1 (a5 s vs) h1.n m (i+1) h8) Q,fun H' h'=>⟨k,Jy k,h'⟩,fun x1 H8 hy1=> ?_⟩
      obtain⟨e8,hr8,rv1⟩:=z1.2 x1 H8 hy1;have e48:Ext W μ4 H4 μ7 H8:=e5.trans (e6.trans (e7.trans e8));have p8:bh W μ7 H8 ((g1 v1 (a5 s4 vs1) h7).bind fun s1 h1'=>((t1 s1 h1').bind fun b h2=>if b=true then(el s1 h2).bind fun y h3=>(match h3.get h1.n with
       | some (.lst acc)=>if acc.length<sizeLine then wc aJ1 g1 t1 el (a5 s4 vs1) h1.n k (j+1) (h3.set h1.n (.lst (acc++[y])))else .stuck
       | _=> .stuck)else wc aJ1 g1 t1 el (a5 s4 vs1) h1.n k (j+1) h2).bind fun _ h8=>xy F aJ g t fi1 g1 t1 el vs1 (a5 s vs) h1.n m (i+1) h8) Q:=by
       refine(p7.ext e8).of_eq ?_;cases g1 v1 (a5 s4 vs1) h7<;>rfl
      refine⟨μ7,v1,a5 s4 vs1,h7,(hs4.ext e48).wipe vs1,hr8,rv1,(ag.bind p8).mono fun σ9 H9 ⟨μ9,s9,h9,e9,hr9,⟨hs9,c9⟩,p9⟩=>⟨fm c9 fun i hi=>hi, ?_⟩⟩
      have p9':bh W μ9 H9 ((t1 s9 h9).bind fun b h2=>((if b=true then(el s9 h2).bind fun y h3=>(match h3.get h1.n with
       | some (.lst acc)=>if acc.length<sizeLine then wc aJ1 g1 t1 el (a5 s4 vs1) h1.n k (j+1) (h3.set h1.n (.lst (acc++[y])))else .stuck
       | _=> .stuck)else wc aJ1 g1 t1 el (a5 s4 vs1) h1.n k (j+1) h2).bind fun _ h8=>xy F aJ g t fi1 g1 t1 el vs1 (a5 s vs) h1.n m (i+1) h8)) Q:=by
       refine p9.of_eq ?_;cases t1 s9 h9<;>rfl
      refine⟨μ9,s9,h9,hs9,hr9,(ag.bind p9').mono fun b H10 ⟨μ10,b',ui,e10,hr10,eb,p10⟩=> ?_⟩
      have eb':b'=b:=eb;subst eb';cases b' with
      | false=>
       rw[if_neg J9]at p10 ⊢;exact⟨μ10,ui,e7.trans (e8.trans (e9.trans e10)),hr10,p10⟩
      | true=>
       rw[if_pos rfl]at p10 ⊢;have p10':bh W μ10 H10 ((el s9 ui).bind fun y h3=>((match h3.get h1.n with
        | some (.lst acc)=>if acc.length<sizeLine then wc aJ1 g1 t1 el (a5 s4 vs1) h1.n k (j+1) (h3.set h1.n (.lst (acc++[y])))else .stuck
        | _=> .stuck:Ex AV).bind fun _ h8=>xy F aJ g t fi1 g1 t1 el vs1 (a5 s vs) h1.n m (i+1) h8)) Q:=by
        refine p10.of_eq ?_;cases el s9 ui<;>rfl
       refine⟨μ10,s9,ui,hs9.ext e10,hr10,(ag.bind p10').mono fun y H11 ⟨μ11,w,DB,e11,hr11,ry,p11⟩=> ?_⟩
       have eD:=e25.trans (e6.trans (e7.trans (e8.trans (e9.trans (e10.trans e11)))));split at p11
       ·rename_i acc hg;split at p11
        ·rename_i hl;obtain⟨a,ys,ea,hn,hH,r2⟩:=hr11.lst hg (.ref (eD.pre _ _ hd));cases ea;obtain⟨e12,hr12⟩:=dH hr11 hg hn hH r2 (r2.append (.cons ry .nil));exact⟨ys,hH,r2.length ▸ hl,μ11,_,(e7.trans (e8.trans (e9.trans (e10.trans e11)))).trans e12,hr12,p11.ext e12⟩
        ·exact p11.elim
       ·exact p11.elim
theorem CM{elt tg iter tg1 iter1:Expr}{ifs ifs1:List Expr}{scope:Scope}{own:List (Jh×Nat)}{F:Nat}{fi fi1:az→AH→Ex AI}{g g1:AG}{t t1:AT}{el:AE}{is is1:List Nat}(hc:X.calm=true)(hN:X.N.Nodup)(hi:MI X a0 tg iter fi)(ok:BlkOk X.N X.env.scope scope own)(hv:∀ i∈is,i∈own.map (·.2))(hv1:∀ i∈is1,i∈own.map (·.2))
  (hg:iU X scope fun Y=>MG Y a0 tg is g) (ht:iU X scope fun Y=>uj Y a0 ifs t) (hi1:iU X scope fun Y=>MI Y a0 tg1 iter1 fi1) (hg1:iU X scope fun Y=>MG Y a0 tg1 is1 g1) (ht1:iU X scope fun Y=>uj Y a0 ifs1 t1) (he:iU X scope fun Y=>ME Y a0 elt el) (hs:ck iter=true) (hs1:ck iter1=true) :
  ME X a0 (.ListComp elt [⟨tg,iter,ifs,0⟩,⟨tg1,iter1,ifs1,0⟩] scope pos) (vW F fi g t fi1 g1 t1 el (own.map (·.2)) is1) :=
 PE.imp (pe_lc2 (g:=qd (Cx.wd X a0) is g) (tt:=pN (Cx.wd X a0) t) (wi1:=A7 (Cx.wd X a0) fi1) (g1:=qd (Cx.wd X a0) is1 g1) (tt1:=pN (Cx.wd X a0) t1) (te:=d8 (Cx.wd X a0) el) hc hN hi ok hv1 (fun s H C cl fp=>hg s H C cl fp) (fun s H C cl fp=>ht s H C cl fp)
  (fun s H C cl fp=>hi1 s H C cl fp) (fun s H C cl fp=>hg1 s H C cl fp) (fun s H C cl fp=>ht1 s H C cl fp) (fun s H C cl fp=>he s H C cl fp) (ef hs) (fun env x=>ef hs1 x)) fun _ _ _ h=>rQ hv h
theorem ug{elt tg iter tg1 iter1:Expr}{ifs ifs1:List Expr}{scope:Scope}{own:List (Jh×Nat)}{F:Nat}{fi fi1:az→AH→Ex AI}{g g1:AG}{t t1:AT}{el:AE}{is is1:List Nat}{i:Nat}{y:Jh}{py spos:Pos}(hc:X.calm=true)(hN:X.N.Nodup)(hy:X.N[i]? = some y)(hyl:X.env.scope.names.lookup y=some .local)
  (hl:(py.line == pos.line)=true) (hk:X.env.scope.kind = .function) (ha:(scope.names.any fun(n,k)=>n == y && (k == .local || k == .cell))=false)
  (hi:MI X a0 tg iter fi) (ok:BlkOk X.N X.env.scope scope own) (hv:∀ i∈is,i∈own.map (·.2)) (hv1:∀ i∈is1,i∈own.map (·.2))
  (hg:iU X scope fun Y=>MG Y a0 tg is g) (ht:iU X scope fun Y=>uj Y a0 ifs t) (hi1:iU X scope fun Y=>MI Y a0 tg1 iter1 fi1) (hg1:iU X scope fun Y=>MG Y a0 tg1 is1 g1) (ht1:iU X scope fun Y=>uj Y a0 ifs1 t1) (he:iU X scope fun Y=>ME Y a0 elt el) (hs:ck iter=true) (hs1:ck iter1=true) :
  MS X a0 (.Assign [.Name y py] (.ListComp elt [⟨tg,iter,ifs,0⟩,⟨tg1,iter1,ifs1,0⟩] scope pos) spos) (bZ (vW F fi g t fi1 g1 t1 el (own.map (·.2)) is1) (aD i)) :=
 PS.imp (ps_setLc2 (g:=qd (Cx.wd X a0) is g) (tt:=pN (Cx.wd X a0) t) (wi1:=A7 (Cx.wd X a0) fi1) (g1:=qd (Cx.wd X a0) is1 g1) (tt1:=pN (Cx.wd X a0) t1) (te:=d8 (Cx.wd X a0) el) hc hN hy hyl (sw_true hk hyl hl ha) hi ok hv1 (fun s H C cl fp=>hg s H C cl fp) (fun s H C cl fp=>ht s H C cl fp)
  (fun s H C cl fp=>hi1 s H C cl fp) (fun s H C cl fp=>hg1 s H C cl fp) (fun s H C cl fp=>ht1 s H C cl fp) (fun s H C cl fp=>he s H C cl fp) (ef hs) (fun env x=>ef hs1 x)) fun D σ H ⟨μ,s,ah,hs,hr,p⟩=>rQ hv ⟨μ,s,ah,hs,hr,(aQ.bind p).mono fun x H1 ⟨μ1,v,h1,e1,hr1,r1,p1⟩=>
  p1 μ1 H1 _ .refl hr1 ((hs.ext e1).set i r1)⟩
end
end WC
namespace PySem.ExtT
open PySem.AutoSeq1
theorem meets{l b:Addr}{items items2:Array Value}{n n2:Nat}{od:Option Addr}{sl:Array (Option Value)}(hc0:¬(!items.isEmpty && Builtin.List.listTooLong (items.size+items2.size))=true)(hc1:items.size≤sizeLine)(hs2:items.size+items2.size≤sizeLine+1) :
  Meets (Builtin.«list.extend» ⟨[.ref l,.ref b],[]⟩) (fun _ R s=>(s.heap.get? l=some { cls:=.type "list",data:=.seq items n }∧s.heap.get? b=some ⟨.type "tuple",od,.seq items2 n2,sl⟩)∧R (.ok (.ret .none)) { s with heap:=s.heap.update l (Obj.mapSeq fun x=>x++items2) }) :=
 .of_wp fun prog w A R s h=>by
  obtain⟨hp,g,d,tk,os⟩:=s;obtain⟨⟨hl,hb⟩,h⟩:=h;have k1:=sub_tuple_tuple;have k2:=sub_list_list;have k3:=sub_tuple_list;have k4:=sub_list_tuple;have hz:(items++items2).size≤sizeLine+1:=by rw[Array.size_append]; exact hs2
  wp_walk using(wpAny_updateSeq hl rfl (hz:=hc1) (_hz':=hz)),wpAny_loadPart' hl,wpAny_loadPart' hb;exact⟨_,rfl,h⟩
end PySem.ExtT
namespace WC
open PySem L2
section
variable {X:Cx}{a0:Addr}
def EF(K:Jj):V→List V→Hp→VK→Prop:=fun x vs H Q=>∃ l b xs zs,x = .ref l∧vs=[.ref b]∧H l=some (.lst xs)∧SqT K H b zs∧xs.length+zs.length≤sizeLine∧Q .non (upd H l (.lst (xs++zs)))
theorem zU:MtM X "list.extend" (EF X.K):=by
 intro pins s σ H x vs v us Q I rx rv ⟨l,b,xs,zs,ex,ev,hl,hb,hz,q⟩;subst ex; subst ev;cases rx;obtain⟨u,rfl,ru⟩:=rv.one;cases ru;obtain⟨_,its,n,r1,_,e1⟩:=I.lstM hl;obtain⟨its2,r2,ht,_⟩:=I.tuple hb;obtain⟨⟨oc,od,dt,sl⟩,e2,hc,n2,hd⟩:=ht;have hc':oc = .type "tuple" := hc;have hd':dt = .seq its2.toArray n2:=hd;subst hc'; subst hd';have l1:xs.length=its.length:=r1.length;have l2:zs.length=its2.length:=r2.length;have hs:its.toArray.size+its2.toArray.size≤sizeLine:=by simp only[Kg]; omega
 have ht:¬ (!its.toArray.isEmpty && Builtin.List.listTooLong (its.toArray.size+its2.toArray.size))=true:=by
  rw[notLongL hs,Bool.and_false]; decide
 refine call_meets F.slot_list_extend ⟨_,e1,rfl⟩ F.entry_list_extend (F.args_list_extend_2 _ _) (PySem.ExtT.meets ht (by simp only[Kg]; omega) (by omega)) ⟨⟨e1,e2⟩, ?_⟩
 exact⟨.non,_,I.lset (its':=its++its2) hl e1 (by simp) (r1.append r2) (by rw[JY]; omega),rfl,q⟩
def eZ:AM:=fun v as h=>match v,as with
 | .ref n,[.ref m]=>(match h.get n,h.get m with
  | some (.lst xs),some (.lst ys)=>if xs.length+ys.length≤sizeLine then .ok .non (h.set n (.lst (xs++ys)))else .stuck
  | _,_=> .stuck)
 | .ref n,[.tup ys]=>(match h.get n with
  | some (.lst xs)=>if xs.length+ys.length≤sizeLine then .ok .non (h.set n (.lst (xs++ys)))else .stuck
  | _=> .stuck)
 | _,_=> .stuck
theorem ow:MtR X "list.extend" (eW (Cx.wd X a0) eZ):=by
 intro pins s σ H x vs v us Q I rx rv ⟨μ,v',as,ah,hr,rv',ra,p⟩;unfold eZ at p;split at p
 ·split at p
  ·rename_i g1 g2;split at p
   ·rename_i hl;cases ra with
    | cons rw' t=>
     cases t;obtain⟨a,ys,rfl,hn,h1,r1⟩:=hr.lst g1 rv';obtain⟨b,zs,rfl,_,h2,r2⟩:=hr.lst g2 rw';obtain⟨e,hr'⟩:=dH hr g1 hn h1 r1 (r1.append r2);exact mt_extend pins s σ H _ _ v us Q I rx rv ⟨a,b,ys,zs,rfl,rfl,h1,h2,by rw[←r1.length,←r2.length]; exact hl,p _ _ _ e hr' .non⟩
   ·exact p.elim
  ·exact p.elim
 ·split at p
  ·rename_i g1;split at p
   ·rename_i hl;cases ra with
    | cons rw' t=>
     cases t;obtain⟨a,ys,rfl,hn,h1,r1⟩:=hr.lst g1 rv';cases rw' with
     | tup h2 r2=>
      obtain⟨e,hr'⟩:=dH hr g1 hn h1 r1 (r1.append r2);exact zU pins s σ H _ _ v us Q I rx rv ⟨a,_,ys,_,rfl,rfl,h1,h2,by rw[←r1.length,←r2.length]; exact hl,p _ _ _ e hr' .non⟩
   ·exact p.elim
  ·exact p.elim
 ·exact p.elim
end
end WC
namespace WC
open PySem PySem.Spec PyProof.Rows L2
section
variable {X:Cx}{a0:Addr}{e o:Expr}{es:List Expr}{pos tpos:Pos}
def sO(i j:Int):Bool:=decide (0≤j) && decide (j≤1000) && decide (i.natAbs<2 ^ 512)
theorem vg{i:Int}(h:i.natAbs<2 ^ 512):Builtin.Int.intBits i≤512:=by
 unfold Builtin.Int.intBits;split
 ·exact K1 _
 ·have:i.natAbs.log2<512:=by
   rcases Nat.eq_zero_or_pos i.natAbs with h0 | hp
   ·rw[h0]; decide
   ·exact(Nat.log2_lt (Kz hp)).mpr h
  omega
theorem xm{i j:Int}(h:sO i j=true):0≤j∧(Builtin.Int.intBits i:Int) * j≤2 ^ 27:=by
 unfold sO at h;simp only[Ji,decide_eq_true_eq]at h;obtain⟨⟨h1,h2⟩,h3⟩:=h;have hb:=vg h3;refine⟨h1, ?_⟩;have k:(Builtin.Int.intBits i:Int) * j≤512 * j:=Int.mul_le_mul_of_nonneg_right (by omega) h1
 have k2:(2:Int) ^ 27=134217728:=by decide
 omega
def ki:dF:=fZ sO fun i j=> .int (i ^ j.toNat)
theorem Aq:OpR X (binaryOp .Pow) (bD (Cx.wd X a0) ki) :=
 cH (P:=fun i j=>0≤j∧(Builtin.Int.intBits i:Int) * j≤2 ^ 27) (gv:=fun i j=> .int (i ^ j.toNat)) (opI fun _ _ _ _ _ _ _ hc q=>pow_int hc.1 hc.2 q) (fun i j h=>xm h) fun _ _ _ _=> .int
def DP(i j:Int):Bool:=decide (0≤j) && decide (j≤1000000) && decide (i.natAbs<2 ^ 64)
def Ei:dF:=fZ DP fun i j=> .int (i * 2 ^ j.toNat)
theorem yq:OpR X (binaryOp .LShift) (bD (Cx.wd X a0) Ei) :=
 cH op_shl (fun i j h=>by
  unfold DP at h;simp only[Ji,decide_eq_true_eq]at h;exact⟨h.1.1,h.1.2,h.2⟩) fun _ _ _ _=> .int
def Gx(i j:Int):Bool:=decide (0≤j)
def zo:dF:=fZ Gx fun i j=> .int (i / 2 ^ j.toNat)
theorem Ad:OpR X (binaryOp .RShift) (bD (Cx.wd X a0) zo):=cH op_shr (fun i j h=>of_decide_eq_true h) fun _ _ _ _=> .int
def l6(i j:Nat)(f:AL):AS:=fun s h=>(f s h).bind fun vs h1=>match vs with
 | [v,w]=> .ok (.nx ((s.set i (some v)).set j (some w))) h1
 | _=> .stuck
def A8(i j l:Nat)(f:AL):AS:=fun s h=>(f s h).bind fun vs h1=>match vs with
 | [u,v,w]=> .ok (.nx (((s.set i (some u)).set j (some v)).set l (some w))) h1
 | _=> .stuck
def iF(sc:Scope)(line:Nat)(x:Jh)(p:Pos):Bool:=sc.names.lookup x == some .local && p.line == line
def lW(n:Nat)(vs:List Expr):Bool:=vs.length == n && !(vs.any fun | .Starred .. => true | _=>false) && !(vs.all (foldedForSure 8)) && !(vs.all (constantsAlone 8))
def ji(sc:Scope)(x:Jh)(px:Pos)(y:Jh)(py:Pos)(vs:List Expr):Bool:=lW 2 vs && (iF sc px.line x px && iF sc px.line y py && decide (x≠y))
def jd(sc:Scope)(x:Jh)(px:Pos)(y:Jh)(py:Pos)(z:Jh)(pz:Pos)(vs:List Expr):Bool :=
 lW 3 vs && (iF sc px.line x px && iF sc px.line y py && iF sc px.line z pz && (decide (x≠y) && decide (x≠z) && decide (y≠z)))
theorem zF{env:Env}{x y:Jh}{px py pt:Pos}{vs:List Expr}{k1 k2:Nat}{p2:Pos}(hk:env.blockKind = .function)(h:ji env.scope x px y py vs=true) :
  swappedStores [.Tuple [.Name x px,.Name y py] k1 pt] (.Tuple vs k2 p2) env=pure (some [x,y]):=by
 unfold ji lW iF at h;simp only[Ji,JF,decide_eq_true_eq,beq_iff_eq]at h;obtain⟨⟨⟨⟨h1,h2⟩,h3⟩,h4⟩,⟨⟨h5,h6⟩,⟨h7,h8⟩⟩,h9⟩:=h;have n1:env.kindOf x=some .local:=h5;have n2:env.kindOf y=some .local:=h7;unfold swappedStores;simp only[pure_bind,Jn,Ki,h1,hk,h2,h3,h4,Mu,K2,Mo,Expr.pos,LR,L0,n1,n2,h8,beq_self_eq_true,L1,if_true,Mi,Kk,bne_self_eq_false,M4,Jp,if_false];have ed:([x,y]:List Jh).eraseDups=[x,y]:=by
  simp [LS,L3,h9,La h9]
 simp [ed];intro x1 hx hs;have t:(vs.any fun | .Starred .. => true | _=>false)=true:=Lo.mpr ⟨x1,hx,hs⟩
 rw[h2]at t;cases t
theorem yS{env:Env}{x y z:Jh}{px py pz pt:Pos}{vs:List Expr}{k1 k2:Nat}{p2:Pos}(hk:env.blockKind = .function)(h:jd env.scope x px y py z pz vs=true) :
  swappedStores [.Tuple [.Name x px,.Name y py,.Name z pz] k1 pt] (.Tuple vs k2 p2) env=pure (some [x,y,z]):=by
 unfold jd lW iF at h;simp only[Ji,JF,decide_eq_true_eq,beq_iff_eq]at h;obtain⟨⟨⟨⟨h1,h2⟩,h3⟩,h4⟩,⟨⟨⟨h5,h6⟩,⟨h7,h8⟩⟩,⟨ui,DB⟩⟩,⟨z9,Be⟩,Dz⟩:=h;have n1:env.kindOf x=some .local:=h5;have n2:env.kindOf y=some .local:=h7;have n3:env.kindOf z=some .local:=ui;unfold swappedStores;simp only[pure_bind,Jn,Ki,h1,hk,h2,h3,h4,Mu,K2,Mo,Expr.pos,LR,L0,n1,n2,n3,h8,DB,beq_self_eq_true,L1,if_true,Mi,Bool.or_true,Kk,bne_self_eq_false,M4,Jp,if_false];have ed:([x,y,z]:List Jh).eraseDups=[x,y,z]:=by
  simp [LS,L3,z9,Be,Dz,La z9,La Be,La Dz]
 simp [ed];intro x1 hx hs;have t:(vs.any fun | .Starred .. => true | _=>false)=true:=Lo.mpr ⟨x1,hx,hs⟩
 rw[h2]at t;cases t
theorem AB{i j:Nat}{x y:Jh}{px py pt:Pos}{k1 k2:Nat}{p2:Pos}{a b:Expr}{f:AL}(hk:X.env.blockKind = .function)(hc:X.calm=true)(hN:X.N.Nodup)(hi:X.N[i]? = some x)(hj:X.N[j]? = some y)(ho:ji X.env.scope x px y py [a,b]=true)(ha:MA X a0 [a,b] f) :
  MS X a0 (.Assign [.Tuple [.Name x px,.Name y py] k1 pt] (.Tuple [a,b] k2 p2) pos) (l6 i j f):=by
 have ho':=ho;unfold ji iF at ho';simp only[Ji,decide_eq_true_eq,beq_iff_eq]at ho';obtain⟨_,⟨⟨h5,_⟩,⟨h7,_⟩⟩,h9⟩:=ho';have hij:i≠j:=fun z=>h9 (by subst z; rw[hi]at hj; cases hj; rfl)
 refine PS.imp (ps_par hc hN hi hj hij h5 h7 ha (zF hk ho)) fun D σ H ⟨μ,s,ah,hs,hr,p⟩=>⟨μ,s,ah,hs,hr,(aQ.bind (rel:=aV (Cx.wd X a0)) p).mono fun vs H1 ⟨μ1,as,h1,e1,hr1,r1,p1⟩=> ?_⟩
 split at p1
 ·cases r1 with
  | cons q t=>
   cases t with
   | cons q2 t2=>
    cases t2;exact⟨_,_,rfl,p1 μ1 H1 _ .refl hr1 (((hs.ext e1).set i q).set j q2)⟩
 ·exact p1.elim
theorem yY{i j l:Nat}{x y z:Jh}{px py pz pt:Pos}{k1 k2:Nat}{p2:Pos}{a b c:Expr}{f:AL}(hk:X.env.blockKind = .function)(hc:X.calm=true)(hN:X.N.Nodup)(hi:X.N[i]? = some x)(hj:X.N[j]? = some y)(hl:X.N[l]? = some z)(ho:jd X.env.scope x px y py z pz [a,b,c]=true)
  (ha:MA X a0 [a,b,c] f):MS X a0 (.Assign [.Tuple [.Name x px,.Name y py,.Name z pz] k1 pt] (.Tuple [a,b,c] k2 p2) pos) (A8 i j l f):=by
 have ho':=ho;unfold jd iF at ho';simp only[Ji,decide_eq_true_eq,beq_iff_eq]at ho';obtain⟨_,⟨⟨⟨h5,_⟩,⟨h7,_⟩⟩,⟨ui,_⟩⟩,⟨z9,Be⟩,Dz⟩:=ho';have hij:i≠j:=fun q=>z9 (by subst q; rw[hi]at hj; cases hj; rfl)
 have hil:i≠l:=fun q=>Be (by subst q; rw[hi]at hl; cases hl; rfl)
 have hjl:j≠l:=fun q=>Dz (by subst q; rw[hj]at hl; cases hl; rfl)
 refine PS.imp (ps_par3 hc hN hi hj hl hij hil hjl h5 h7 ui ha (yS hk ho)) fun D σ H ⟨μ,s,ah,hs,hr,p⟩=>⟨μ,s,ah,hs,hr,(aQ.bind (rel:=aV (Cx.wd X a0)) p).mono fun vs H1 ⟨μ1,as,h1,e1,hr1,r1,p1⟩=> ?_⟩
 split at p1
 ·cases r1 with
  | cons q t=>
   cases t with
   | cons q2 t2=>
    cases t2 with
    | cons q3 t3=>
     cases t3;exact⟨_,_,_,rfl,p1 μ1 H1 _ .refl hr1 ((((hs.ext e1).set i q).set j q2).set l q3)⟩
 ·exact p1.elim
def wu(i:Nat)(f:AE):AS:=fun s h=>match s[i]? with
 | some (some (.int k))=>(f s h).bind fun w h1=>(match w with
  | .int j=>if (decide (-(2 ^ 64)<k) && decide (k<2 ^ 64)) || (decide (-(2 ^ 64)<j) && decide (j<2 ^ 64))then .ok (.nx (s.set i (some (.int (k * j))))) h1 else .stuck
  | _=> .stuck)
 | _=> .stuck
theorem tI{x:Jh}{i:Nat}{f:AE}{p':Pos}(hN:X.N.Nodup)(hi:X.N[i]? = some x)(hx:Loc X.env.scope x)(hf:X.fn x=true∨X.env.scope.names.lookup x=some .local)(he:ME X a0 e f):MS X a0 (.AugAssign (.Name x p') .Mult e pos) (wu i f) :=
 PS.imp (ps_aug hN hi hx he iop_mul hf) fun D σ H ⟨μ,s,ah,hs,hr,p⟩=>by
  unfold wu at p;split at p
  ·rename_i k q;obtain⟨y,hy,ry⟩:=hs.get q;cases ry;refine⟨_,hy,μ,s,ah,hs,hr,(aQ.bind (rel:=Rl (Cx.wd X a0)) p).mono fun z H1 ⟨μ1,w,h1,e1,hr1,r1,p1⟩=> ?_⟩
   split at p1
   ·split at p1
    ·rename_i c;cases r1;simp only[JC,Ji,decide_eq_true_eq]at c;exact⟨_,_,rfl,rfl,c,p1 μ1 H1 _ .refl hr1 ((hs.ext e1).set i .int)⟩
    ·exact p1.elim
   ·exact p1.elim
  ·exact p.elim
def AN(f:AE)(name:Jh)(no:Jh→Jh→Bool)(g:AE):AS:=fun s h=>(f s h).bind fun o h1=>match o with
 | .ref n=>(match h1.get n with
  | some (.ins C fs)=>if no C name=true then(match fs.lookup name with
   | some (.int k)=>(g s h1).bind fun w h2=>(match w with
    | .int j=>(match h2.get n with
     | some (.ins C2 fs2)=>if C2=C∧fs2.length<1000 then .ok (.nx s) (h2.set n (.ins C2 (iu name (.int (k+j)) fs2)))else .stuck
     | _=> .stuck)
    | _=> .stuck)
   | _=> .stuck)else .stuck
  | _=> .stuck)
 | _=> .stuck
theorem tW{f g:AE}{name:Jh}{no:Jh→Jh→Bool}(hk:iR X.K no)(ho:ME X a0 o f)(he:ME X a0 e g):MS X a0 (.AugAssign (.Attribute o name tpos) .Add e pos) (AN f name no g) :=
 PS.imp (ps_fldaug ho he in_add) fun D σ H ⟨μ,s,ah,hs,hr,p⟩=>⟨μ,s,ah,hs,hr,(aQ.bind (rel:=Rl (Cx.wd X a0)) p).mono fun x H1 ⟨μ1,v,h1,e1,hr1,r1,p1⟩=>by
  split at p1
  ·split at p1
   ·rename_i n C fs hg;split at p1
    ·rename_i hno;split at p1
     ·rename_i k hl;obtain⟨a,dx,ys,rfl,hn,hH,r2⟩:=hr1.ins hg r1;rcases r2.lookup (k:=name)with ⟨z1,_⟩ | ⟨v',z,z1,z2,rz⟩
      ·rw[z1]at hl; cases hl
      ·rw[z1]at hl;cases hl;cases rz;refine⟨a,_,dx,ys,_,rfl,hH,(hk C name hno).1,(hk C name hno).2,z2,μ1,s,h1,hs.ext e1,hr1,(aQ.bind (rel:=Rl (Cx.wd X a0)) p1).mono fun y H2 ⟨μ2,w,h2,e2,hr2,rw2,p2⟩=> ?_⟩
       split at p2
       ·rename_i j;cases rw2;split at p2
        ·rename_i C2 fs2 g2;split at p2
         ·rename_i hc;obtain⟨rfl,hlen⟩:=hc;obtain⟨b,dx2,ys2,hb,hn2,hH2,r3⟩:=hr2.ins g2 ((Rl.ref hn).ext e2);cases hb;have E:Ext (Cx.wd X a0) μ2 H2 μ2 (upd H2 a (.ins (Jo X.K C2) dx2 (putF name (.int (k+j)) ys2))):=Ext.ee (ao:=.ins C2 fs2) ⟨dx2,ys2,hH2,r3⟩;have R:=hr2.set (ao:=.ins C2 (iu name (.int (k+j)) fs2)) g2 hn2 (o:=.ins (Jo X.K C2) dx2 (putF name (.int (k+j)) ys2)) ⟨dx2,_,upd_same,bj.ext E (bj.putF .int r3)⟩;exact⟨k,j,rfl,rfl,dx2,ys2,hH2,r3.length ▸ hlen,p2 μ2 _ σ E R (((hs.ext e1).ext e2).ext E)⟩
         ·exact p2.elim
        ·exact p2.elim
       ·exact p2.elim
     ·exact p1.elim
    ·exact p1.elim
   ·exact p1.elim
  ·exact p1.elim⟩
end
section
variable {X:Cx}{a0:Addr}{e o:Expr}{es:List Expr}{pos apos cpos:Pos}
theorem uU{W:Wd}{μ H}{ys:List Str}{ah:AH}{Q:VK}(hr:HR W μ ah H)(q:bh W μ H (.ok (.ref ah.n) (ah.push (.lst (ys.map AV.str)))) Q):rNewStrs ys H Q:=by
 intro p hp;have e:Ext W μ H (μ ++ [p]) (upd H p (.lst (ys.map V.str))):=Ext.cb hp;refine q (μ ++ [p]) _ _ e (hr.push hp ⟨_,upd_same,aV.strs ys⟩) (.ref ?_);rw[hr.sz]; simp
def pO:AM:=fun v as h=>match v,as with
 | .str a,[.str b]=>if (b.length == 0)=false then(if a.length≤1000000 then .ok (.ref h.n) (h.push (.lst ((Txt.split a b).map AV.str)))else .stuck)else .stuck
 | _,_=> .stuck
theorem tY:MtR X "str.split" (eW (Cx.wd X a0) pO):=cU mt_split fun x xs H Q ⟨μ,v,as,ah,hr,rv,ra,p⟩=>by
 unfold pO at p;split at p
 ·split at p
  ·rename_i h1;split at p
   ·rename_i h2;cases rv;cases ra with
    | cons r t=>
     cases r; cases t;exact⟨_,_,rfl,rfl,h1,by rw[sizeLine_eq]; omega,uU hr p⟩
   ·exact p.elim
  ·exact p.elim
 ·exact p.elim
def oW:List AV→Option (List Str)
 | []=>some []
 | .str x::r=>(match oW r with
  | some l=>some (x::l)
  | none=>none)
 | _::_=>none
theorem mH{W μ H}:∀{vs xs ss},aV W μ H vs xs→oW vs=some ss→xs=ss.map V.str
 | _,_,_,.nil,e=>by simp [oW]at e; subst e; rfl
 | v::vs,_,_,.cons r t,e=>by
  cases v with
  | str b=>
   simp only[oW]at e;split at e
   ·rename_i bs q;cases e;cases r;rw[mH t q]; rfl
   ·cases e
  | _=>simp [oW]at e
def oS(a:Str)(vs:List AV)(h:AH):Ex AV:=match oW vs with
 | some ys=>if (ys.map (·.length)).sum+ys.length * a.length≤1000000 then .ok (.str (Txt.join a ys)) h else .stuck
 | none=> .stuck
def lV:AM:=fun v as h=>match v,as with
 | .str a,[.tup xs]=>oS a xs h
 | .str a,[.ref n]=>(match h.get n with
  | some (.lst xs)=>oS a xs h
  | _=> .stuck)
 | _,_=> .stuck
theorem uR:MtR X "str.join" (eW (Cx.wd X a0) lV):=cU mt_join fun x xs H Q ⟨μ,v,as,ah,hr,rv,ra,p⟩=>by
 unfold lV at p;split at p
 ·unfold oS at p;split at p
  ·rename_i ys q;split at p
   ·rename_i hz;cases rv;cases ra with
    | cons r t=>
     cases t;cases r with
     | tup h r=>
      have e:=mH r q;subst e;exact⟨_,_,ys,rfl,rfl,.inr h,by omega,p.ret hr .str⟩
   ·exact p.elim
  ·exact p.elim
 ·split at p
  ·rename_i zs hg;unfold oS at p;split at p
   ·rename_i ys q;split at p
    ·rename_i hz;cases rv;cases ra with
     | cons r t=>
      cases t;obtain⟨a,us,rfl,_,h1,r1⟩:=hr.lst hg r;have e:=mH r1 q;subst e;exact⟨_,_,ys,rfl,rfl,.inl (.of h1),by omega,p.ret hr .str⟩
    ·exact p.elim
   ·exact p.elim
  ·exact p.elim
 ·exact p.elim
def nu:AM:=fun v as h=>match v,as with
 | .str a,[.str b]=>if a.length≤1000000 then .ok (.str (Txt.lstripChars a b)) h else .stuck
 | _,_=> .stuck
theorem qJ:MtR X "str.lstrip" (eW (Cx.wd X a0) nu):=cU mt_lstripChars fun x xs H Q ⟨μ,v,as,ah,hr,rv,ra,p⟩=>by
 unfold nu at p;split at p
 ·split at p
  ·rename_i h2;cases rv;cases ra with
   | cons r t=>
    cases r; cases t;exact⟨_,_,rfl,rfl,by rw[sizeLine_eq]; omega,p.ret hr .str⟩
  ·exact p.elim
 ·exact p.elim
def qN:AM:=fun v as h=>match v,as with
 | .str a,[.str b]=> .ok (.int (Txt.count a b)) h
 | _,_=> .stuck
theorem t9:MtR X "str.count" (eW (Cx.wd X a0) qN):=cU mt_count fun x xs H Q ⟨μ,v,as,ah,hr,rv,ra,p⟩=>by
 unfold qN at p;split at p
 ·cases rv;cases ra with
  | cons r t=>
   cases r; cases t;exact⟨_,_,rfl,rfl,p.ret hr .int⟩
 ·exact p.elim
def eS(f:AE):AE:=fun s h=>(f s h).bind fun v h1=>match v with
 | .str y=>if y.length≤1000000 then .ok (.str y) h1 else .stuck
 | .int i=>if i.natAbs.log2<1920 then .ok (.str (toString i)) h1 else .stuck
 | .bl b=> .ok (.str (if b=true then("True" : Str)else("False" : Str))) h1
 | _=> .stuck
def DZ(te:TE):TE:=fun σ H Q=>te σ H fun x H1=>(∃ y:Str,x = .str y∧y.length≤sizeLine∧Q (.str y) H1)∨(∃ i:Int,x = .int i∧i.natAbs.log2<1920∧Q (.str (toString i)) H1)∨∃ b:Bool,x = .bl b∧Q (.str (if b=true then("True" : Str)else("False" : Str))) H1
theorem ze{te:TE}(he:PE X e te):PE X (.FormattedValue e (-1) none pos) (DZ te):=by
 refine⟨fun pins s σ H Q I h=> ?_⟩
 refine wpAny_FormattedValue_plain (thn (he.run pins s σ H _ I h) fun v s1 hv=> ?_)
 obtain⟨x,H1,I1,r1,q⟩:=hv;rcases q with ⟨y,rfl,hz,q⟩ | ⟨i,rfl,hz,q⟩ | ⟨b,rfl,q⟩
 ·obtain⟨t,rfl⟩:=r1;exact wpAny_formatField_str ⟨.str y,H1,I1,⟨t,rfl⟩,q⟩ ⟨.str y,H1,I1.tok _,⟨_,rfl⟩,q⟩ hz
 ·obtain⟨t,rfl⟩:=r1;exact wpAny_formatField_int hz ⟨.str (toString i),H1,I1.tok _,⟨_,rfl⟩,q⟩
 ·cases r1;exact wpAny_formatField_bool ⟨.str _,H1,I1.tok _,⟨_,rfl⟩,q⟩
theorem Dt{f:AE}(he:ME X a0 e f):ME X a0 (.FormattedValue e (-1) none pos) (eS f) :=
 PE.imp (ze he) fun σ H Q ⟨μ,s,ah,hs,hr,p⟩=>⟨μ,s,ah,hs,hr,(ag.bind p).mono fun x H1 ⟨μ1,v,h1,e1,hr1,r1,p1⟩=>by
  split at p1
  ·split at p1
   ·rename_i hz;cases r1;exact .inl ⟨_,rfl,by rw[sizeLine_eq]; omega,p1.ret hr1 .str⟩
   ·exact p1.elim
  ·split at p1
   ·rename_i hz;cases r1;exact .inr (.inl ⟨_,rfl,hz,p1.ret hr1 .str⟩)
   ·exact p1.elim
  ·cases r1;exact .inr (.inr ⟨_,rfl,p1.ret hr1 .str⟩)
  ·exact p1.elim⟩
inductive MJ(X:Cx)(a0:Addr):List Expr→List AE→Prop where
 | nil:MJ X a0 [] []
 | cons {e:Expr} {f:AE} {es:List Expr} {fs:List AE} (h:ME X a0 e f) (r:MJ X a0 es fs):MJ X a0 (e::es) (f::fs)
def EN:List AE→Str→az→AH→Ex AV
 | [],acc,_,h=> .ok (.str acc) h
 | f::fs,acc,s,h=>(f s h).bind fun v h1=>match v with
  | .str y=>if (acc++y).length≤1000000 then EN fs (acc++y) s h1 else .stuck
  | _=> .stuck
theorem MJ.pj:∀{es fs},MJ X a0 es fs→∃ ts,PJ X es ts∧∀ acc σ H Q,(∃ μ s ah,SR (Cx.wd X a0) μ H s σ ∧ HR (Cx.wd X a0) μ ah H∧bh (Cx.wd X a0) μ H (EN fs acc s ah) Q)→tJs ts acc σ H fun out H1=>Q (.str out) H1
 | _,_,.nil=>⟨[],.nil,fun acc σ H Q ⟨μ,s,ah,hs,hr,p⟩=>p.ret hr .str⟩
 | _,_,.cons he r=>by
  obtain⟨ts,h1,h2⟩:=r.pj;refine⟨_::ts,.cons he h1,fun acc σ H Q ⟨μ,s,ah,hs,hr,p⟩=> ?_⟩
  refine⟨μ,s,ah,hs,hr,(ag.bind p).mono fun x H1 ⟨μ1,v,ah1,e1,hr1,r1,p1⟩=> ?_⟩
  split at p1
  ·split at p1
   ·rename_i hz;cases r1;exact⟨_,rfl,by rw[sizeLine_eq]; omega,h2 _ _ _ _ ⟨μ1,s,ah1,hs.ext e1,hr1,p1⟩⟩
   ·exact p1.elim
  ·exact p1.elim
def jl(fs:List AE):AE:=fun s h=>EN fs Str.empty s h
theorem yF{e1 e2:Expr}{fs:List AE}(h:MJ X a0 (e1::e2::es) fs):ME X a0 (.JoinedStr (e1::e2::es) pos) (jl fs):=by
 obtain⟨ts,h1,h2⟩:=h.pj;exact PE.imp (pe_joined h1) fun σ H Q ⟨μ,s,ah,hs,hr,p⟩=>h2 _ _ _ _ ⟨μ,s,ah,hs,hr,p⟩
end
section
variable {X:Cx}{a0:Addr}{e o:Expr}{es:List Expr}{kws:List Keyword}{pos apos cpos p:Pos}{k n m i:Nat}{ks:List Str}{x:Str}
def kg(i:Nat)(tab:Str→Option bg)(fa fk:AL):AE:=fun s h=>match s[i]? with
 | some (some (.glo x))=>(match tab x with
  | some j=>(fa s h).bind fun as h1=>(fk s h1).bind fun zs h2=>aL j.n j.m j.ks j.gA j.g as zs h2
  | none=> .stuck)
 | _=> .stuck
def qS(X:Cx)(a0:Addr)(k:Nat)(ks:List Str)(tab:Str→Option bg):Prop :=
 ∀ x j,tab x=some j→j.ks=ks∧Km X.K (.ref (Jo X.K x))=true∧FnAt X a0 k (Jo X.K x) j.n j.g j.m j.ks j.gA
theorem xi {tab:Str→Option bg} {fa fk:AL} (T:qS X a0 k ks tab) (hr:Rm k X.A) (hN:X.N[i]? = some x) (hv:Vis X.env.scope x) (hd:(x == ("__debug__" : Str))=false) (hcd:(x == ("__classdict__" : Str))=false) (ha:MA X a0 (e::es) fa) (hkw:MK X a0 kws fk)
  (h2:(e::es).all noStar=true) (h3:bx kws=some ks):ME X a0 (.Call (.Name x p) (e::es) kws pos) (kg i tab fa fk):=by
 refine⟨fun pins s σ H Q I h=> ?_⟩
 obtain⟨μ,st,ah,hs,R,q⟩:=h;unfold kg at q;split at q
 ·rename_i y hy;split at q
  ·rename_i j hj;obtain⟨v,hσ,rv⟩:=hs.get hy;cases rv;obtain⟨hks,hkp,F⟩:=T y j hj;refine wpAny_Call_Name_kw (thn ((pe_var (pos:=p) hN hv hd hcd).run pins s σ H (fun v H1=>v = .ref (Jo X.K y)∧H1=H) I ⟨_,hσ,rfl,rfl⟩) fun u s0 ⟨v,H0,I0,r0,q0⟩=> ?_)
   obtain⟨rfl,rfl⟩:=q0;cases r0;obtain⟨k1,k2,k3⟩:=eO (pos:=pos) (env:=X.env) h3;have h2':=h2;rw[Jt,Ji]at h2';refine Ky (h₀:=X.base) I0.ok.mod.kin hkp k1 ?_ (by rw[k3,KC]; exact bo h2) (aH h2'.1)
   refine thn (ha.run pos pins s0 σ _ _ I0 ⟨μ,st,ah,hs,R,ag.bind q⟩) fun us s1 ⟨vs,H1,I1,r,μ1,as,h1,e1,R1,ra,q1⟩=> ?_
   refine thn (hkw.run pos pins s1 σ H1 _ I1 ⟨μ1,st,h1,hs.ext e1,R1,ag.bind q1⟩) fun ws s2 ⟨zs,H2,I2,rz,μ2,bs,h2,e2,R2,rb,q2⟩=>⟨I2.kIn, ?_⟩
   rw[k2];subst hks;exact F.run hr I2 r rz R2 (ra.ext e2) rb q2
  ·exact q.elim
 ·exact q.elim
theorem sY {tab:Str→Option bg} {fk:AL} (T:qS X a0 k ks tab) (hr:Rm k X.A) (hN:X.N[i]? = some x) (hv:Vis X.env.scope x) (hd:(x == ("__debug__" : Str))=false) (hcd:(x == ("__classdict__" : Str))=false) (hkw:MK X a0 kws fk)
  (h3:bx kws=some ks):ME X a0 (.Call (.Name x p) [] kws pos) (kg i tab vH fk):=by
 refine⟨fun pins s σ H Q I h=> ?_⟩
 obtain⟨μ,st,ah,hs,R,q⟩:=h;unfold kg at q;split at q
 ·rename_i y hy;split at q
  ·rename_i j hj;obtain⟨v,hσ,rv⟩:=hs.get hy;cases rv;obtain⟨hks,hkp,F⟩:=T y j hj;refine wpAny_Call_Name_kw (thn ((pe_var (pos:=p) hN hv hd hcd).run pins s σ H (fun v H1=>v = .ref (Jo X.K y)∧H1=H) I ⟨_,hσ,rfl,rfl⟩) fun u s0 ⟨v,H0,I0,r0,q0⟩=> ?_)
   obtain⟨rfl,rfl⟩:=q0;cases r0;obtain⟨k1,k2,k3⟩:=eO (pos:=pos) (env:=X.env) h3;refine Kf (h₀:=X.base) I0.ok.mod.kin hkp k1 ?_ (by rw[k3]; rfl)
   have q':bh (Cx.wd X a0) μ _ ((fk st ah).bind fun zs h2=>aL j.n j.m j.ks j.gA j.g [] zs h2) Q:=q
   refine thn (hkw.run pos pins s0 σ _ _ I0 ⟨μ,st,ah,hs,R,ag.bind q'⟩) fun ws s2 ⟨zs,H2,I2,rz,μ2,bs,h2,e2,R2,rb,q2⟩=>⟨I2.kIn, ?_⟩
   rw[k2];subst hks;exact F.run hr I2 .nil rz R2 .nil rb q2
  ·exact q.elim
 ·exact q.elim
end
def FT(X:Cx)(a0:Addr)(e:Expr)(f:AE):Prop:=PET X e (d8 (Cx.wd X a0) f)
def FY(X:Cx)(a0:Addr)(st:Stmt)(f:AS):Prop:=PST X st (y5 (Cx.wd X a0) f)
def yn(X:Cx)(a0:Addr)(st:List Stmt)(f:AS):Prop:=PSsT X st (y5 (Cx.wd X a0) f)
def wB:AM:=fun v as h=>match v,as with
 | .str a,[.str b]=>if a.length≤1000000 then .ok (.str (Txt.replace a b Str.empty)) h else .stuck
 | _,_=> .stuck
section
variable {X:Cx}{a0:Addr}{e o:Expr}{f:AE}{y:Str}{j k:Nat}{c0 c1 apos pos:Pos}
def oY(f:AE)(y:Str):AE:=mJ f isStr (ae (fun _ h=> .ok (.str y) h) fun _ h=> .ok [] h) wB
theorem rf{to:TE}{W:Wd}{y:Str}{f:AE}(hi:∀ σ H Q,d8 W f σ H Q→to σ H Q){σ:KJ}{H:Hp}{Q:VK}(h:d8 W (oY f y) σ H Q):CwR.tReplC (d8 W f) y Str.empty σ H Q:=by
 obtain⟨μ,s,ah,hs,hr,p⟩:=h;refine⟨μ,s,ah,hs,hr,(ag.bind p).mono fun x H1 ⟨μ1,v,h1,e1,hr1,r1,p1⟩=> ?_⟩
 split at p1
 ·have p2:bh W μ1 H1 (wB v [.str y] h1) Q:=p1;unfold wB at p2;split at p2
  ·rename_i v0 a b e9 q;cases e9;cases q;split at p2
   ·rename_i hz;cases r1;exact⟨_,rfl,by show a.length+(a.length+1) * 0≤16777216; omega,p2.ret hr1 .str⟩
   ·exact p2.elim
  ·exact p2.elim
 ·exact p1.elim
theorem PET.imp{t t':TE}(h:PET X e t)(hi:∀ σ H Q,t' σ H Q→t σ H Q):PET X e t':=fun pins s σ H Q l I q=>h pins s σ H Q l I (hi σ H Q q)
theorem wV (ho:ME X a0 o f) (hy:(y == Str.empty)=false) (h1:aC o=true) (h5:aU apos pos=true):FT X a0 (.Call (.Attribute o "replace" apos) [.Constant (.str y) j c0,.Constant (.str Str.empty) k c1] [] pos) (oY f y) :=
 PET.imp (CwR.pet_replC ho hy rfl (a6 h1) h5) fun σ H Q h=>rf (fun _ _ _ z=>z) h
theorem tT (ho:FT X a0 o f) (hy:(y == Str.empty)=false) (h1:aC o=true) (h5:aU apos pos=true):FT X a0 (.Call (.Attribute o "replace" apos) [.Constant (.str y) j c0,.Constant (.str Str.empty) k c1] [] pos) (oY f y) :=
 PET.imp (CwR.pet_replT ho hy rfl (a6 h1) h5) fun σ H Q h=>rf (fun _ _ _ z=>z) h
end
def stepK(acc:List Key)(k:Key):List Key:=if cZ k acc=true then acc else k::acc
def bB(l:List Key):List Key:=l.foldl stepK []
theorem kM(l:List Key)(k:Key):bB (l++[k])=stepK (bB l) k:=by
 unfold bB;rw[List.foldl_append];rfl
theorem my(acc:List Key)(k:Key):(stepK acc k).length=if cZ k acc=true then acc.length else acc.length+1:=by
 unfold stepK;split<;>rfl
theorem tz(acc:List Key)(k j:Key):cZ j (stepK acc k)=(cZ j acc || decide (j=k)):=by
 unfold stepK;by_cases hm:cZ k acc=true
 ·rw[if_pos hm];by_cases e:j=k
  ·subst e;rw[hm];rfl
  ·rw[decide_eq_false e,KC]
 ·rw[if_neg hm,M0];show(decide (k=j) || cZ j acc)=_
  by_cases e:j=k
  ·subst e;simp
  ·rw[decide_eq_false e,decide_eq_false (fun z:k=j=>e z.symm)]
theorem oK:∀ l:List Key,(bB l).length≤l.length:=fun l=>by
 have:∀(l acc:List Key),(l.foldl stepK acc).length≤acc.length+l.length:=by
  intro l;induction l with
  | nil=>intro acc; exact Jw _
  | cons k r ih=>
   intro acc;refine Js (ih _) ?_;rw[my,Jn];split<;>omega
 simpa [bB]using this l []
theorem CQ{P:Program}{w:World}{h:Heap}{a:Addr}{S S':Key→Bool}{n n':Nat}(x:h.SetOf (mixKind P w) a S n)(e:∀ k,S' k=S k)(en:n'=n):h.SetOf (mixKind P w) a S' n':=by
 have e':S'=S:=funext e;subst e';subst en;exact x
section
variable {P:Program}{w:World}{A:Around}{R:Result→Shared→Prop}{I:Addr}{fp wr:List Addr}{G:Array GenState→Array GenState→Prop}{n:Nat}{Pv:Nat→Value→Prop}{St:Nat→Shared→Prop}
theorem n8(W:WalksS P w A.in1 I fp wr G n Pv St)(D:Addr)(hD:D∉fp)(ks:List Key)(hn:ks.length=n)(room:n+1<scanBound)(val:∀ j v,Pv j v→∃ k,ks[j]? = some k∧RelV (kV k) v) :
  ∀(m j:Nat) (s:Shared),n - j=m→j≤n→St j s→s.heap.SetOf (mixKind P w) D (fun q=>cZ q (bB (ks.take j))) (bB (ks.take j)).length→
   (∀ t,Moved (D::wr) G s t→t.heap.SetOf (mixKind P w) D (fun q=>cZ q (bB ks)) (bB ks).length→R (.ok (.ret .none)) t)→
   codeAny (model P w) A (.builtin "set.update.loop" ⟨[.ref D,.ref I],[]⟩) R s:=by
 have dw:D∉wr:=fun z=>hD (W.sub _ z)
 have up:∀ b,b∈wr→b∈D::wr:=fun b hb=>JI _ hb
 intro m;induction m with
 | zero=>
  intro j s e hj st so fin;obtain rfl:j=n:=by omega
  refine codeAny_builtin F.entry_set_update_loop (?_:_); rw[Around.under_plainId F.plain_set_update_loop _];show wpAny _ A.in1 (bind (pyNext (.ref I)) _) _ _ s;refine wpAny_bind (W.done s _ _ st fun t mv=> ?_); show wpAny _ A.in1 (ret (.none:Value)) _ _ t
  refine wpAny_pure (fin t (mv.mono up) ?_);rw[←hn,Mp]at so;obtain⟨o,es,ep,tb,ho,more⟩:=so;exact⟨o,es,ep,tb,mv.heap D _ dw ho,more⟩
 | succ m ih=>
  intro j s e hj st so fin;have lt:j<n:=by omega
  refine codeAny_builtin F.entry_set_update_loop (?_:_); rw[Around.under_plainId F.plain_set_update_loop _];show wpAny _ A.in1 (bind (pyNext (.ref I)) _) _ _ s;refine wpAny_bind (W.item j s _ _ lt st fun v t pv st2 mv=> ?_)
  obtain⟨k,hk,rk⟩:=val j v pv;have so2:t.heap.SetOf (mixKind P w) D (fun q=>cZ q (bB (ks.take j))) (bB (ks.take j)).length:=by
   obtain⟨o,es,ep,tb,ho,more⟩:=so;exact⟨o,es,ep,tb,mv.heap D _ dw ho,more⟩
  have bd:=Js (oK (ks.take j)) (by rw[J0]; exact Nat.min_le_left _ _)
  have tk:ks.take (j+1)=ks.take j++[k]:=by rw[Md,hk]; rfl
  show wpAny _ A.in1 (bind (holding [v] (setAdd D v)) _) _ _ t;refine wpAny_bind (wpAny_holding (?_:_)); unfold setAdd;refine wpAny_holding (wpAny_bind ((mixKind P w).pyHash (k:=k) (kV_is rk) (?_:_)));refine wpAny_setAddHashed_of (knd:=mixKind P w) (s:={ t with toks:=t.toks+1 }) (kV_is rk) (key_scan rk) so2 (by omega) fun g sb so3=> ?_
  have so4:g.SetOf (mixKind P w) D (fun q=>cZ q (bB (ks.take (j+1)))) (bB (ks.take (j+1))).length:=by
   refine CQ so3 (fun q=> ?_) ?_
   ·rw[tk,kM,tz]
   ·rw[tk,kM,my]
  refine wpAny_pure ⟨plainId_quiet F.plain_set_update_loop _,ih (j+1) _ (by omega) lt (W.frame _ t _ _ st2 (Lf _) fun b hb o e=> ?_) so4 fun u mv2 so5=> ?_⟩
  ·rw[sb.2 b fun z=>hD (z ▸ hb)]
   exact e
  ·refine fin u (Moved.trans W.gtrans ((mv.mono up).then_heap (Lf _) fun b o hb e=> ?_) mv2) so5
   rw[sb.2 b fun z=>hb (z ▸ JO)]
   exact e
end
section
variable {P:Program}{w:World}{A:Around}{E:Value→Shared→Prop}{s:Shared}
abbrev dq(led:Bool):Obj:={ cls:=.type "set",dict:=none,data:=.set #[] 0 (.fresh 0 0 led) }
theorem pJ{l:Addr}{us:Array Value}{ks:List Key}{Q:Value→Shared→Prop}(hh:A.handled=none)(hl:s.heap.IsList l us)(rk:Vals (ks.map kV) us.toList)(room:ks.length+1<scanBound)
  (fin:∀(g:Heap) (tk:Nat),g.SetOf (mixKind P w) s.heap.objs.size (fun q=>cZ q (bB ks)) (bB ks).length→(∀ b o,b<s.heap.objs.size→s.heap.get? b=some o→g.get? b=some o)→Q (.ref s.heap.objs.size) { s with heap:=g,toks:=tk }) :
  wpAny (model P w) A (call (.type "set") [.ref l]) Q E s:=by
 obtain⟨cc,ct,f1⟩:=Jr.mro;have f2:=Jr.made; have f3:=Jr.sub;refine wpAny_call (codeAny_of_tree (?_:_)); show wpAny _ _ (callAny (.type "set") _) _ _ _
 refine wpAny_pure ⟨Code.quiet_builtin _ (by decide +kernel),codeAny_builtin Lg (?_:_)⟩
 rw[Around.under_plain (weight_type_call_type "set" [.ref l] []) rfl];have f4:=Jr.notType; have f5:=Jr.canCreate; have f6:=Lp (.ref l)
 repeat (any_goals (first | assumption | wp_step))
 refine codeAny_mono (code_set_new_1 (.ref l) (E:=E) (Q₁:=fun ob s1=>∃ led:Bool,ob = .ref s.heap.objs.size∧s1 = { s with heap:=s.heap.push (dq led) }) fun led=>⟨led,rfl,rfl⟩) fun r s1 pr=> ?_
 cases r with
 | error e=>exact pr
 | ok fl=>
  cases fl with
  | ret ob=>
   obtain⟨led,rfl,rfl⟩:=pr;have g0:(s.heap.push (dq led)).get? s.heap.objs.size=some (dq led):=Heap.get?_push_size _ rfl;have ty:Shared.TypeIs { s with heap:=s.heap.push (dq led) } (.ref s.heap.objs.size) "set" := ⟨_,g0,rfl⟩
   have f7:=Jr.init.lookup; have f8:=Jr.init.bind (.ref s.heap.objs.size);repeat (any_goals (first | assumption | wp_step))
   refine codeAny_mono (codeAny_call_builtin (R:=wants (fun r s2=>r = .none∧∃ g tk,s2 = { s with heap:=g,toks:=tk }∧g.SetOf (mixKind P w) s.heap.objs.size (fun q=>cZ q (bB ks)) (bB ks).length∧
     (∀ b o,b<s.heap.objs.size→s.heap.get? b=some o→g.get? b=some o)) E) Jr.init.plain Lq (check_set_init_1 ty ?_)) fun r2 s2 pr2=> ?_
   ·obtain⟨ol,ho,hc,nl,hd⟩:=hl;obtain⟨oc,od,oa,os⟩:=ol;simp only at hc hd;subst hc;subst hd;have ho':(s.heap.push (dq led)).get? l=some { cls:=.type "list",dict:=od,data:=.seq us nl,slots:=os }:=Heap.get?_push_of_some _ ho;have f9:=PySem.F.sub_list_set; have f10:=PySem.F.sub_list_frozenset;have f11:(Value.type "list" == Value.type "dict")=false:=by decide
    have hl1:(s.heap.push (dq led)).IsList l us:=⟨_,ho',rfl,nl,rfl⟩;unfold Builtin.«set.__init__» noKeywords Builtin.Frozenset.updateFrom;generalize q0:pyIter=pit
    wp_walk
    subst q0;refine wpAny_pyIter_list hl1 (wpAny_bind (wpAny_runValue (?_:_)));have lS:l<s.heap.objs.size:=Heap.lt_size ho;have h3:A.in1.in1.in1.handled=none:=by simp [hh]
    have sz:(s.heap.push (dq led)).objs.size=s.heap.objs.size+1:=Heap.size_push _ _;have ne:l≠(s.heap.push (dq led)).objs.size:=by rw[sz]; exact Jx (Kh lS)
    have nm:s.heap.objs.size∉[(s.heap.push (dq led)).objs.size,l]:=by
     rw[sz];simp only[Jv,Kl,or_false,not_or];exact⟨Jx (Jy _),Kz lS⟩
    have lk:ks.length=us.size:=by have:=rk.length; rw[Jq,J5]at this; exact this
    have val:∀(j:Nat) (v:Value),us[j]? = some v→∃ k,ks[j]? = some k∧RelV (kV k) v:=fun j v hv=>by
     have hj:j<ks.length:=by
      have:=(J6.mp hv).1;omega
     refine⟨ks[j],Jz hj, ?_⟩;obtain⟨u,hu,ru⟩:=Vals.get rk (i:=j) (x:=kV ks[j]) (by rw[JN,Jz hj]; rfl)
     rw[JW,hv]at hu;cases hu;exact ru
    refine n8 ((Walks.list h3 _ l ne us).toS) s.heap.objs.size nm ks lk (by omega) val (us.size - 0) 0 _ (by omega) (K1 _) ⟨⟨_,Heap.get?_push_size _ rfl,rfl,rfl⟩,(hl1.push _)⟩ ?s0 ?sr
    case s0=>
     have g1:((s.heap.push (dq led)).push { cls:=.type "list_iterator",data:=.fields #[.ref l,.int 0 0] }).get? s.heap.objs.size=some (dq led):=Heap.get?_push_of_some _ g0;exact⟨_,#[],0,_,g1,⟨rfl,rfl,rfl⟩,rfl,(fun e he=>by simp at he),(fun k=>by simp [cZ,bB]),(by decide),(by rfl),rfl⟩
    case sr=>
     intro t mv so;obtain⟨g,t1,t2,t3,t4⟩:=t;have e1:t1=s.gens:=mv.gens;have e2:t2=s.drawn:=mv.drawn;have e3:t4=s.os:=mv.os;subst e1;subst e2;subst e3;show wpAny _ _ _ _ _ _;refine wpAny_pure (?_:_); show wpAny _ _ (ret (.none:Value)) _ _ _
     refine wpAny_pure ⟨rfl,g,t3,rfl,so,fun b o hb e=> ?_⟩
     refine mv.heap b o ?_ (Heap.get?_push_of_some _ (Heap.get?_push_of_some _ e));simp only[Jv,Kl,or_false,not_or,sz];exact⟨Jx hb,Jx (Kh hb)⟩
   ·cases r2 with
    | error e=>exact pr2
    | ok fl2=>
     cases fl2 with
     | ret r=>
      obtain⟨rfl,g,tk,rfl,so,kp⟩:=pr2;repeat (any_goals (first | assumption | wp_step))
      exact fin _ _ so kp
     | _=>exact pr2.elim
  | _=>exact pr.elim
theorem nv{l:Addr}{us:Array Value}{ks:List Key}{Q:Value→Shared→Prop}(hh:A.handled=none)(hl:s.heap.IsTuple l us)(rk:Vals (ks.map kV) us.toList)(room:ks.length+1<scanBound)
  (fin:∀(g:Heap) (tk:Nat),g.SetOf (mixKind P w) s.heap.objs.size (fun q=>cZ q (bB ks)) (bB ks).length→(∀ b o,b<s.heap.objs.size→s.heap.get? b=some o→g.get? b=some o)→Q (.ref s.heap.objs.size) { s with heap:=g,toks:=tk }) :
  wpAny (model P w) A (call (.type "set") [.ref l]) Q E s:=by
 obtain⟨cc,ct,f1⟩:=Jr.mro;have f2:=Jr.made; have f3:=Jr.sub;refine wpAny_call (codeAny_of_tree (?_:_)); show wpAny _ _ (callAny (.type "set") _) _ _ _
 refine wpAny_pure ⟨Code.quiet_builtin _ (by decide +kernel),codeAny_builtin Lg (?_:_)⟩
 rw[Around.under_plain (weight_type_call_type "set" [.ref l] []) rfl];have f4:=Jr.notType; have f5:=Jr.canCreate; have f6:=Lp (.ref l)
 repeat (any_goals (first | assumption | wp_step))
 refine codeAny_mono (code_set_new_1 (.ref l) (E:=E) (Q₁:=fun ob s1=>∃ led:Bool,ob = .ref s.heap.objs.size∧s1 = { s with heap:=s.heap.push (dq led) }) fun led=>⟨led,rfl,rfl⟩) fun r s1 pr=> ?_
 cases r with
 | error e=>exact pr
 | ok fl=>
  cases fl with
  | ret ob=>
   obtain⟨led,rfl,rfl⟩:=pr;have g0:(s.heap.push (dq led)).get? s.heap.objs.size=some (dq led):=Heap.get?_push_size _ rfl;have ty:Shared.TypeIs { s with heap:=s.heap.push (dq led) } (.ref s.heap.objs.size) "set" := ⟨_,g0,rfl⟩
   have f7:=Jr.init.lookup; have f8:=Jr.init.bind (.ref s.heap.objs.size);repeat (any_goals (first | assumption | wp_step))
   refine codeAny_mono (codeAny_call_builtin (R:=wants (fun r s2=>r = .none∧∃ g tk,s2 = { s with heap:=g,toks:=tk }∧g.SetOf (mixKind P w) s.heap.objs.size (fun q=>cZ q (bB ks)) (bB ks).length∧
     (∀ b o,b<s.heap.objs.size→s.heap.get? b=some o→g.get? b=some o)) E) Jr.init.plain Lq (check_set_init_1 ty ?_)) fun r2 s2 pr2=> ?_
   ·obtain⟨ol,ho,hc,nl,hd⟩:=hl;obtain⟨oc,od,oa,os⟩:=ol;simp only at hc hd;subst hc;subst hd;have ho':(s.heap.push (dq led)).get? l=some { cls:=.type "tuple",dict:=od,data:=.seq us nl,slots:=os }:=Heap.get?_push_of_some _ ho;have f9:=PySem.F.sub_tuple_set; have f10:=PySem.F.sub_tuple_frozenset;have f11:(Value.type "tuple" == Value.type "dict")=false:=by decide
    have hl1:(s.heap.push (dq led)).IsTuple l us:=⟨_,ho',rfl,nl,rfl⟩;unfold Builtin.«set.__init__» noKeywords Builtin.Frozenset.updateFrom;generalize q0:pyIter=pit
    wp_walk
    subst q0;refine wpAny_pyIter_tuple hl1 (wpAny_bind (wpAny_runValue (?_:_)));have lS:l<s.heap.objs.size:=Heap.lt_size ho;have h3:A.in1.in1.in1.handled=none:=by simp [hh]
    have sz:(s.heap.push (dq led)).objs.size=s.heap.objs.size+1:=Heap.size_push _ _;have ne:l≠(s.heap.push (dq led)).objs.size:=by rw[sz]; exact Jx (Kh lS)
    have nm:s.heap.objs.size∉[(s.heap.push (dq led)).objs.size,l]:=by
     rw[sz];simp only[Jv,Kl,or_false,not_or];exact⟨Jx (Jy _),Kz lS⟩
    have lk:ks.length=us.size:=by have:=rk.length; rw[Jq,J5]at this; exact this
    have val:∀(j:Nat) (v:Value),us[j]? = some v→∃ k,ks[j]? = some k∧RelV (kV k) v:=fun j v hv=>by
     have hj:j<ks.length:=by
      have:=(J6.mp hv).1;omega
     refine⟨ks[j],Jz hj, ?_⟩;obtain⟨u,hu,ru⟩:=Vals.get rk (i:=j) (x:=kV ks[j]) (by rw[JN,Jz hj]; rfl)
     rw[JW,hv]at hu;cases hu;exact ru
    refine n8 ((Walks.tuple h3 _ l ne us).toS) s.heap.objs.size nm ks lk (by omega) val (us.size - 0) 0 _ (by omega) (K1 _) ⟨⟨_,Heap.get?_push_size _ rfl,rfl,rfl⟩,(hl1.push _)⟩ ?s0 ?sr
    case s0=>
     have g1:((s.heap.push (dq led)).push { cls:=.type "tuple_iterator",data:=.fields #[.ref l,.int 0 0] }).get? s.heap.objs.size=some (dq led):=Heap.get?_push_of_some _ g0;exact⟨_,#[],0,_,g1,⟨rfl,rfl,rfl⟩,rfl,(fun e he=>by simp at he),(fun k=>by simp [cZ,bB]),(by decide),(by rfl),rfl⟩
    case sr=>
     intro t mv so;obtain⟨g,t1,t2,t3,t4⟩:=t;have e1:t1=s.gens:=mv.gens;have e2:t2=s.drawn:=mv.drawn;have e3:t4=s.os:=mv.os;subst e1;subst e2;subst e3;show wpAny _ _ _ _ _ _;refine wpAny_pure (?_:_); show wpAny _ _ (ret (.none:Value)) _ _ _
     refine wpAny_pure ⟨rfl,g,t3,rfl,so,fun b o hb e=> ?_⟩
     refine mv.heap b o ?_ (Heap.get?_push_of_some _ (Heap.get?_push_of_some _ e));simp only[Jv,Kl,or_false,not_or,sz];exact⟨Jx hb,Jx (Kh hb)⟩
   ·cases r2 with
    | error e=>exact pr2
    | ok fl2=>
     cases fl2 with
     | ret r=>
      obtain⟨rfl,g,tk,rfl,so,kp⟩:=pr2;repeat (any_goals (first | assumption | wp_step))
      exact fin _ _ so kp
     | _=>exact pr2.elim
  | _=>exact pr.elim
end
section
variable {X:Cx}{a0:Addr}
def wY(K:Jj)(ta:TE):TE:=fun σ H Q=>ta σ H fun x H1=>∃ l,∃ ks:List Key,x = .ref l∧(SqL K H1 l (ks.map kV)∨SqT K H1 l (ks.map kV))∧ks.length+1<scanBound∧Q (.int ((bB ks).length:Nat)) H1
theorem qY {a:Expr} {ta:TE} {p p2 q pos:Pos} (hc:X.calm=true) (g1:Gl X "len") (m1:X.mg "len" = none) (g2:Gl X "set") (m2:X.mg "set" = none) (ha:PE X a ta)
    (na:starEach [a] X.env=(false,eval a X.env)::starEach [] X.env):PE X (.Call (.Name "len" p) [.Call (.Name "set" p2) [a] [] q] [] pos) (wY X.K ta):=by
  refine⟨fun pins s σ H Q I h=>Call_ (ld_blt I g1 m1 boot_len (callWith_builtin1 (args_cons ?_ rfl) rfl rfl))⟩
  refine Call_ (ld_blt I g2 m2 boot_set (callWith_type1 (args_cons (thn (ha.run pins s σ H _ I h) fun v s1 ⟨x,H1,I1,r1,q1⟩=>args_nil ?_) na) na rfl))
  obtain⟨l,ks,rfl,hq,room,q1⟩:=q1;cases r1
  have fin:∀(g:Heap) (tk:Nat),g.SetOf (mixKind X.prog X.w) s1.heap.objs.size (fun j=>cZ j (bB ks)) (bB ks).length→(∀ b o,b<s1.heap.objs.size→s1.heap.get? b=some o→g.get? b=some o)→
      wpAny (model X.prog X.w) X.A (spliced (backTo pos (starEach [] X.env))) (fun vs s2=>wpAny (model X.prog X.w) X.A (call (.builtin "len") (Value.ref s1.heap.objs.size::vs)) (EP X pins σ Q) X.xe s2) X.xe { s1 with heap:=g,toks:=tk }:=fun g tk so kp=>by
    refine args_nil (?_:_);obtain⟨o,es,ep,t,ho,hex,hd,_,_,_,hf,hn⟩:=so;have I2:Inv X pins σ H1 { s1 with heap:=g,toks:=tk }:=I1.kept fun b o e=>kp b o (Heap.lt_size e) e
    have lk:=oK ks
    refine call_len_set ho hex hd hf (by have h1:((scanBound:Nat):Int)<2 ^ 63:=by decide
                                         omega) ⟨.int ((bB ks).length:Nat),H1,I2.tok _,⟨_,by rw[hn]⟩,q1⟩
  rcases hq with hq | hq
  · obtain⟨its,r,pl,hz⟩:=I1.list hq;exact pJ (I1.ok.hd hc) pl.isList (by simpa using r) room fin
  · obtain⟨its,r,pl,hz⟩:=I1.tuple hq;exact nv (I1.ok.hd hc) pl (by simpa using r) room fin
def toKeys:List AV→Option (List Key)
 | []=>some []
 | x::xs=>(match cA x,toKeys xs with
  | some k,some ks=>some (k::ks)
  | _,_=>none)
theorem lL{W:Wd}{μ:List Addr}{H:Hp}:∀{xs:List AV} {ys:List V} {ks:List Key},aV W μ H xs ys→toKeys xs=some ks→ys=ks.map kV
 | _,_,_,.nil,e=>by cases e; rfl
 | _,_,ks,.cons (x:=x) r t,e=>by
  unfold toKeys at e;split at e
  ·rename_i k ks' h1 h2;cases e;rw[JU,bW r h1,lL t h2]
  ·cases e
def eg(xs:List AV)(h:AH):Ex AV:=match toKeys xs with
 | some ks=>if ks.length+1<scanBound then .ok (.int ((bB ks).length:Nat)) h else .stuck
 | none=> .stuck
def pC(f:AE):AE:=fun s h=>(f s h).bind fun v h1=>match v with
 | .tup xs=>eg xs h1
 | .ref n=>(match h1.get n with
  | some (.lst xs)=>eg xs h1
  | _=> .stuck)
 | _=> .stuck
theorem qH {a:Expr} {f:AE} {p p2 q pos:Pos} (hc:X.calm=true) (g1:Gl X "len") (m1:X.mg "len" = none) (g2:Gl X "set") (m2:X.mg "set" = none) (ha:ME X a0 a f)
  (na:starEach [a] X.env=(false,eval a X.env)::starEach [] X.env):ME X a0 (.Call (.Name "len" p) [.Call (.Name "set" p2) [a] [] q] [] pos) (pC f) :=
 PE.imp (qY hc g1 m1 g2 m2 ha na) fun σ H Q ⟨μ,s,ah,hs,hr,p⟩=>by
  refine⟨μ,s,ah,hs,hr,(ag.bind p).mono fun x H1 ⟨μ1,v,h1,e1,hr1,rv,p1⟩=> ?_⟩
  have key:∀(xs:List AV) (ys:List V),aV (Cx.wd X a0) μ1 H1 xs ys→bh (Cx.wd X a0) μ1 H1 (eg xs h1) Q→∃ ks:List Key,ys=ks.map kV∧ks.length+1<scanBound∧Q (.int ((bB ks).length:Nat)) H1:=fun xs ys r p2=>by
   unfold eg at p2;split at p2
   ·rename_i ks hk;split at p2
    ·rename_i hl;exact⟨ks,lL r hk,hl,p2.ret hr1 .int⟩
    ·exact p2.elim
   ·exact p2.elim
  split at p1
  ·cases rv with
   | tup hq r=>
    obtain⟨ks,rfl,hl,q⟩:=key _ _ r p1;exact⟨_,ks,rfl,.inr hq,hl,q⟩
  ·split at p1
   ·rename_i xs hg;obtain⟨a,zs,rfl,_,hz,r1⟩:=hr1.lst hg rv;obtain⟨ks,rfl,hl,q⟩:=key _ _ r1 p1;exact⟨_,ks,rfl,.inl (.of hz),hl,q⟩
   ·exact p1.elim
  ·exact p1.elim
end
def Ec:V→List V→Hp→VK→Prop:=fun x vs H Q=>∃(a b:Addr) (kvs more:List (Key×V)),x = .ref a∧vs=[.ref b]∧a≠b∧H a=some (.dK kvs)∧H b=some (.dK more)∧kvs.length+more.length≤sizeLine∧Q .non (upd H a (.dK (mergeK kvs more)))
theorem yz {X:Cx}:MtR X "dict.update" Ec:=by
 intro pins s σ H x vs v us Q I rx rv h;obtain⟨a,b,kvs,more,ex,ev,ne,ea,eb,hz,q⟩:=h;subst ex;subst ev;obtain rfl:v=Value.ref a:=rx;obtain rfl:us=[Value.ref b]:=rv.ref1;obtain⟨z,hd,ws,rel,dd⟩:=dk_of I.hok ea;obtain⟨z2,hd2,ws2,rel2,dd2⟩:=dk_of I.hok eb;refine call_meetsIn Ld dd.typeIs PySem.F.entry_dict_update (PySem.F.args_dict_update_2 _ _) (meets_dict_update (mixKind X.prog X.w) a b ne hd2) ⟨ws,ws2,dd,dd2,by rw[←rel.length,←rel2.length]; exact hz,fun h' ddn ddo hs=> ?_⟩
 have hl:(mergeK kvs more).length≤sizeLine:=Js (length_mergeK more kvs) hz;have he:∃ q,h'.get? a=some q:=let ⟨q,_,_,hq,_⟩:=ddn; ⟨q,hq⟩
 exact⟨.non,_,d_write (t':=s.toks) I (by rw[ea]; exact Nh) hs he (dk_new hl hd (rel2.merge rel) ddn),rfl,q⟩
def B1:AM:=fun v as h=>match v,as with
 | .ref n,[.ref m]=>(match h.get n,h.get m with
  | some (.bA kvs),some (.bA more)=>if n≠m∧kvs.length+more.length≤sizeLine then .ok .non (h.set n (.bA (iQ kvs more)))else .stuck
  | _,_=> .stuck)
 | _,_=> .stuck
section
variable {X:Cx}{a0:Addr}
theorem zy:MtR X "dict.update" (eW (Cx.wd X a0) B1):=cU yz fun x xs H Q ⟨μ,v,as,ah,hr,rv,ra,p⟩=>by
 unfold B1 at p;split at p
 ·rename_i n m;split at p
  ·rename_i kvs more g1 g2;split at p
   ·rename_i hl;cases ra with
    | cons rw' t=>
     cases t;obtain⟨a,ys,rfl,hn,h1,r1⟩:=hr.bA g1 rv;obtain⟨b,zs,rfl,hm,h2,r2⟩:=hr.bA g2 rw';obtain⟨e,hr'⟩:=je (as:=iQ kvs more) hr g1 hn h1 r1 (bj.merge r2 r1);have ne:a≠b:=fun z=>hl.1 (by
      subst z;have l1:=(Jl.mp hn).1;exact(List.getElem?_inj l1 hr.nd).mp (hn.trans hm.symm))
     exact⟨a,b,ys,zs,rfl,rfl,ne,h1,h2,by rw[←r1.len,←r2.len]; exact hl.2,p _ _ _ e hr' .non⟩
   ·exact p.elim
  ·exact p.elim
 ·exact p.elim
end
section
variable {X:Cx}{a0:Addr}
theorem aV.rev{W μ H}:∀{xs ys},aV W μ H xs ys→aV W μ H xs.reverse ys.reverse
 | _,_,.nil=> .nil
 | _,_,.cons r t=>by
  rw[Me,Me];exact(aV.rev t).append (.cons r .nil)
def A6(f:AE):AE:=fun s h=>(f s h).bind fun v h1=>match v with
 | .ref n=>(match h1.get n with
  | some (.lst xs)=> .ok (.ref h1.n) (h1.push (.lst xs.reverse))
  | _=> .stuck)
 | _=> .stuck
theorem Ai{e:Expr}{f:AE}{k:Nat}{p1 p2 p3 pos:Pos}(he:ME X a0 e f):ME X a0 (.Subscript e (.Slice none none (some (.UnaryOp .USub (.Constant (.int 1) k p1) p2)) p3) pos) (A6 f) :=
 PE.imp (pe_revL he) fun σ H Q ⟨μ,s,ah,hs,hr,p⟩=>⟨μ,s,ah,hs,hr,(ag.bind p).mono fun x H1 ⟨μ1,v,h1,e1,hr1,r1,p1⟩=>by
  split at p1
  ·split at p1
   ·rename_i xs hg;obtain⟨a,zs,rfl,_,hz,rz⟩:=hr1.lst hg r1;exact⟨a,zs,rfl,.of hz,fun q hq=>cG hr1 rz.rev p1 hq⟩
   ·exact p1.elim
  ·exact p1.elim⟩
end
def tu:List AV→Option (List Int)
 | []=>some []
 | .int b::r=>(match tu r with
  | some bs=>some (b::bs)
  | none=>none)
 | _::_=>none
theorem sQ{W μ H}:∀{vs xs bs},aV W μ H vs xs→tu vs=some bs→xs=bs.map V.int
 | _,_,_,.nil,e=>by simp [tu]at e; subst e; rfl
 | v::vs,_,_,.cons r t,e=>by
  cases v with
  | int b=>
   simp only[tu]at e;split at e
   ·rename_i bs q;cases e;cases r;rw[sQ t q];rfl
   ·cases e
  | _=>simp [tu]at e
def Bi:AC:=fun as h=>match as with
 | [.ref n]=>(match h.get n with
  | some (.lst xs)=>(match tu xs with
   | some ns=> .ok (.int ns.sum) h
   | none=> .stuck)
  | _=> .stuck)
 | _=> .stuck
theorem Ca {X:Cx} {a0:Addr} (hc:X.calm=true):CallR X (.builtin "sum") (dJ (Cx.wd X a0) Bi):=by
 intro pins s σ H xs us Q I rv ⟨μ,as,ah,hr,r,p⟩;unfold Bi at p;split at p
 ·split at p
  ·rename_i ys hg;cases r with
   | cons r t=>
    cases t;obtain⟨a,zs,rfl,_,h1,r1⟩:=hr.lst hg r;split at p
    ·rename_i ns e;have:=sQ r1 e;subst this;exact cr_sum hc pins s σ H _ us Q I rv ⟨_,ns,rfl,.of h1,p.ret hr .int⟩
    ·exact p.elim
  ·exact p.elim
 ·exact p.elim
theorem Rm.in1{k:Nat}{A:Around}(h:Rm (k+1) A):Rm k A.in1:=⟨h.r.in1,h.g⟩
section
variable {X:Cx}{a0:Addr}{k n m:Nat}{C p g:Addr}{f:Str}{fd:FuncData}{ps:List Str}{sp:Sp}{E:XK}{o:Expr}{pos:Pos}
theorem wK{dx a:Addr}{fs:List (Str×V)}{gB:List Value→List Value→List Value}{gV:List V→List V→List V}{pins:List (Addr×Obj)}{σ:KJ}{H:Hp}{s:Shared}{Q:VK}{b:Bool}{E':Value→Shared→Prop}(I:Inv X pins σ H s)
  (ea:H a=some (.ins C dx fs)) (c:Cls X.K C) (hp:PropOf X.K C f p g) (F:nW X.prog X.w X.K X.mg X.base CX0 k g fd ps sp) (hr:Rm (k+1) X.A) (hb:KBn X.K fd ps 1 [] gB gV) (h:sp (gV [.ref a] []) H Q E) :
  wpAny (model X.prog X.w) X.A (getAttr (.ref a) f b) (EP X pins σ Q) E' s:=by
 obtain⟨_,O,_,_,_,_⟩:=ins_get I.hok ea;obtain⟨od,J,_⟩:=O.look;obtain⟨more,fget⟩:=hp.rec_;have T:=I.tok (s.toks+1);have one:(Lh X.K C).isSome=true:=by
  obtain⟨_,e,_⟩:=PySem.W.any_some c.hd;rw[e]; rfl
 have ra:Vals [V.ref a] [Value.ref a]:=.cons rfl .nil;have bound:=hb.to { s with toks:=s.toks+1 } [.ref a] [] T.kIn rfl rfl
 refine PySem.W.get_bind I.kIn J (LU (c.get f)).1 (PySem.W.findObj_data one hp.at_ hp.get hp.tak) (LU (c.get f)).2 (wpAny_call (PySem.W.prop_get (s:={ s with toks:=s.toks+1 }) I.kIn fget ?_))
 have r0:=F.run X.A.in1 X.stack { s with toks:=s.toks+1 } H ⟨[.ref a],[]⟩ (gB [.ref a] []) (gV [.ref a] []) Q E hr.in1 T.env0.in1 bound (hb.rel ra .nil) h
 refine codeAny_mono r0 ?_;rintro(er | fl) s' hq
 ·exact JQ (pass0 (X:=X.nox) pins σ H { s with toks:=s.toks+1 } er s' (T.wish _) hq)
 ·cases fl with
  | ret u=>
   obtain⟨v,H',I3,rv,q3⟩:=T.after hq;show wpAny _ _ (handedOut u) _ _ _;rw[PySem.W.handedOut_of (handed_of rv)];exact wpAny_pure ⟨v,H',I3,rv,q3⟩
  | next=>exact JQ hq
  | brk=>exact JQ hq
  | cont=>exact JQ hq
def dz(name:Str)(tab:Str→Option bg)(no:Str→Str→Bool)(f:AE):AE:=fun s h=>(f s h).bind fun v h1=>match v with
 | .ref n=>(match h1.get n with
  | some (.ins C _)=>(match tab C with
   | some i=>aL i.n i.m i.ks i.gA i.g [.ref n] [] h1
   | none=>bT name no (.ref n) h1)
  | _=> .stuck)
 | _=> .stuck
def rP(X:Cx)(a0:Addr)(k:Nat)(f:Str)(tab:Str→Option bg):Prop :=
 ∀ C i,tab C=some i→i.m=1∧i.ks=[]∧Cls X.K (Jo X.K C)∧∃ p g,PropOf X.K (Jo X.K C) f p g∧FnAt X a0 k g i.n i.g i.m i.ks i.gA
theorem zk{tab:Str→Option bg}{no:Str→Str→Bool}{fo:AE}(T:rP X a0 k f tab)(hk:iR X.K no)(hr:Rm (k+1) X.A)(ho:ME X a0 o fo)(hs:aC o=true):ME X a0 (.Attribute o f pos) (dz f tab no fo):=by
 refine⟨fun pins s σ H Q I h=> ?_⟩
 obtain⟨μ,st,ah,hs',R,q⟩:=h;refine attr_of (a6 hs) (thn (ho.run pins s σ H _ I ⟨μ,st,ah,hs',R,ag.bind q⟩) fun u s1 ⟨x,H1,I1,rx,μ1,v,h1,e1,R1,rv,q1⟩=> ?_)
 cases v with
 | ref n=>
  simp only at q1;cases hg:h1.get n with
  | none=>rw[hg]at q1; exact q1.elim
  | some ao=>
   rw[hg]at q1;cases ao with
   | ins C fs=>
    simp only at q1;obtain⟨a,dx,ys,rfl,hn,hH,r2⟩:=R1.ins hg rv;obtain rfl:u=Value.ref a:=rx;cases hi:tab C with
    | some i=>
     rw[hi]at q1;obtain⟨e1,e2,c,p,g,hp,fd,ps,F,gB,gV,hb,hrel⟩:=T C i hi;have q2:bh (Cx.wd X a0) μ1 H1 (aL i.n i.m i.ks i.gA i.g [.ref n] [] h1) Q:=q1;unfold aL at q2;split at q2
     ·split at q2
      ·split at q2
       ·rename_i l3;rw[e1,e2]at hb;exact wK (E:=fun _ _ _=>False) I1 hH c hp F hr hb ⟨μ1,_,h1,l3,R1,hrel _ _ _ _ _ _ (.cons (.ref hn) .nil) .nil,q2⟩
       ·exact q2.elim
      ·exact q2.elim
     ·exact q2.elim
    | none=>
     rw[hi]at q1;have q2:bh (Cx.wd X a0) μ1 H1 (bT f no (.ref n) h1) Q:=q1;unfold bT at q2;simp only[hg]at q2;split at q2
     ·rename_i hno;obtain⟨c,nA⟩:=hk C f hno;split at q2
      ·rename_i w hw;rcases r2.lookup (k:=f)with ⟨z,_⟩ | ⟨v',x',z1,z2,z3⟩
       ·rw[hw]at z; cases z
       ·rw[hw]at z1; cases z1;exact getattr_ok I1 hH c nA z2 fun u' s2 I2 ru=>⟨x',H1,I2,ru,q2.ret R1 z3⟩
      ·exact q2.elim
     ·exact q2.elim
   | _=>exact q1.elim
 | _=>exact q1.elim
end
def DF:List AV→Option (List Jh)
 | []=>some []
 | .str b::r=>(match DF r with
  | some bs=>some (b::bs)
  | none=>none)
 | _::_=>none
theorem xk{W μ H}:∀{vs xs bs},aV W μ H vs xs→DF vs=some bs→xs=bs.map V.str
 | _,_,_,.nil,e=>by simp [DF]at e; subst e; rfl
 | v::vs,_,_,.cons r t,e=>by
  cases v with
  | str b=>
   simp only[DF]at e;split at e
   ·rename_i bs q;cases e;cases r;rw[xk t q];rfl
   ·cases e
  | _=>simp [DF]at e
def nH(a b:Jh):Bool:=!ltCps b.cps.toList a.cps.toList
theorem jr:∀ a b:List Nat,ltCps a b=false→ltCps b a=false→a=b
 | [],[],_,_=>rfl
 | [],_::_,h,_=>by cases h
 | _::_,[],_,h=>by cases h
 | a::r,b::t,h1,h2=>by
  simp only[ltCps,KR,KO,decide_eq_false_iff_not]at h1 h2;have e:a=b:=by omega
  subst e;have t1:ltCps r t=false:=h1.2.elim (fun z=>by simp at z) id
  have t2:ltCps t r=false:=h2.2.elim (fun z=>by simp at z) id
  rw[jr r t t1 t2]
theorem pA:∀ a b c:List Nat,ltCps b a=false→ltCps c b=false→ltCps c a=false
 | [],b,c,h1,h2=>by cases c<;>rfl
 | a::r,[],c,h1,h2=>by cases h1
 | a::r,b::t,[],h1,h2=>by cases h2
 | a::r,b::t,c::u,h1,h2=>by
  simp only[ltCps,KR,KO,decide_eq_false_iff_not]at h1 h2 ⊢;refine⟨by omega, ?_⟩
  by_cases e:c=a
  ·have e1:b=a:=by omega
   have e2:c=b:=by omega
   subst e1; subst e2;exact .inr (pA r t u (h1.2.elim (fun z=>by simp at z) id) (h2.2.elim (fun z=>by simp at z) id))
  ·exact .inl (by simpa using e)
theorem n9:∀ a b:List Nat,ltCps a b=true→ltCps b a=false
 | [],[],h=>by cases h
 | [],_::_,_=>rfl
 | _::_,[],h=>by cases h
 | a::r,b::t,h=>by
  simp only[ltCps,JC,Ji,decide_eq_true_eq,beq_iff_eq]at h;simp only[ltCps,KR,KO,decide_eq_false_iff_not];rcases h with h | ⟨rfl,h⟩
  ·exact⟨by omega,.inl (by simp; omega)⟩
  ·exact⟨by omega,.inr (n9 r t h)⟩
theorem xE{a b c:Jh}(h1:nH a b=true)(h2:nH b c=true):nH a c=true:=by
 unfold nH at *;simp only[JF]at *;exact pA _ _ _ h1 h2
theorem Dq{a b:Jh}(h1:nH a b=true)(h2:nH b a=true):a=b:=by
 unfold nH at *;simp only[JF]at *;have:=jr _ _ h2 h1;obtain⟨x⟩:=a;obtain⟨y⟩:=b;have e:x=y:=Array.toList_inj.mp this;rw[e]
theorem Ah(a b:Jh):nH a b=true∨nH b a=true:=by
 unfold nH;cases h:ltCps a.cps.toList b.cps.toList with
 | true=>exact .inl (by rw[n9 _ _ h]; rfl)
 | false=>exact .inr rfl
theorem ja:∀(r:List Jh) (p:Jh),risingS p r=true→(∀ x∈r,nH p x=true)∧r.Pairwise fun a b=>nH a b=true
 | [],_,_=>⟨nofun,.nil⟩
 | x::r,p,h=>by
  have h':(nH p x && risingS x r)=true:=h;rw[Ji]at h';obtain⟨h1,h2⟩:=ja r x h'.2;refine⟨fun y hy=> ?_,.cons h1 h2⟩
  rcases Jv.mp hy with rfl | hy
  ·exact h'.1
  ·exact xE h'.1 (h1 y hy)
theorem qD:∀{l:List Jh},sortedS l=true→l.Pairwise fun a b=>nH a b=true
 | [],_=> .nil
 | x::r,h=> .cons (ja r x h).1 (ja r x h).2
def tZ(x:Jh):List Jh→List Jh
 | []=>[x]
 | y::r=>if nH x y=true then x::y::r else y::tZ x r
def tJ:List Jh→List Jh
 | []=>[]
 | x::r=>tZ x (tJ r)
theorem i6(x:Jh):∀ l,(tZ x l).Perm (x::l)
 | []=> .refl _
 | y::r=>by
  unfold tZ;split
  ·exact .refl _
  ·exact((i6 x r).cons y).trans (.swap x y r)
theorem mj:∀ l,(tJ l).Perm l
 | []=> .refl _
 | x::r=>(i6 x (tJ r)).trans ((mj r).cons x)
theorem r8(x:Jh):∀{l:List Jh},l.Pairwise (fun a b=>nH a b=true)→(tZ x l).Pairwise fun a b=>nH a b=true
 | [],_=> .cons nofun .nil
 | y::r,h=>by
  cases h with
  | cons h1 h2=>
   unfold tZ;split
   ·rename_i q;refine .cons (fun z hz=> ?_) (.cons h1 h2)
    rcases Jv.mp hz with rfl | hz
    ·exact q
    ·exact xE q (h1 z hz)
   ·rename_i q;refine .cons (fun z hz=> ?_) (r8 x h2)
    rcases Jv.mp ((i6 x r).mem_iff.mp hz)with rfl | hz
    ·exact(Ah z y).elim (fun z=>absurd z q) id
    ·exact h1 z hz
theorem sN:∀ l:List Jh,(tJ l).Pairwise fun a b=>nH a b=true
 | []=> .nil
 | x::r=>r8 x (sN r)
theorem ud{l m:List Jh}(h:m.Perm l)(s:m.Pairwise fun a b=>nH a b=true):m=tJ l :=
 MD (fun _ _ _ _=>Dq) s (sN l) (h.trans (mj l).symm)
def mL:AC:=fun as h=>match as with
 | [.ref n]=>(match h.get n with
  | some (.lst xs)=>(match DF xs with
   | some ns=>if ns.length<64 then .ok (.ref h.n) (h.push (.lst ((tJ ns).map .str)))else .stuck
   | none=> .stuck)
  | _=> .stuck)
 | _=> .stuck
theorem sX {X:Cx} {a0:Addr}:CallR X (.builtin "sorted") (dJ (Cx.wd X a0) mL):=by
 intro pins s σ H xs us Q I rv ⟨μ,as,ah,hr,r,p⟩;unfold mL at p;split at p
 ·split at p
  ·rename_i ys hg;cases r with
   | cons r t=>
    cases t;obtain⟨a,zs,rfl,_,h1,r1⟩:=hr.lst hg r;split at p
    ·rename_i ns e;have:=xk r1 e;subst this;split at p
     ·rename_i hl;refine cr_sortedS pins s σ H _ us Q I rv ⟨_,ns,rfl,.inl (.of h1),hl,fun ws l hp hs hn=> ?_⟩
      rw[ud hp (qD hs)];exact cG hr (aV.strs _) p hn
     ·exact p.elim
    ·exact p.elim
  ·exact p.elim
 ·exact p.elim
def pW:AM:=fun v as h=>match v,as with
 | .ref n,[x]=>(match h.get n with
  | some (.lst ys)=>(match bJ iL h x,cQ iL h ys with
   | some d,some ds=>if SeqAt.shaped d=true then(if SeqAt.shaped (.list ds)=true then(match ds.findIdx? fun z=>PyData.eqv z d with
    | some j=> .ok (.int j) h
    | none=> .stuck)else .stuck)else .stuck
   | _,_=> .stuck)
  | _=> .stuck)
 | _,_=> .stuck
theorem sW {X:Cx} {a0:Addr} (hu:X.A.units+65<cLine):MtR X "list.index" (eW (Cx.wd X a0) pW):=cU (mt_indexD hu) fun x xs H Q ⟨μ,v,as,ah,hr,rv,ra,p⟩=>by
 unfold pW at p;split at p
 ·rename_i n w;split at p
  ·rename_i ys hg;split at p
   ·rename_i d ds q1 q2;split at p
    ·rename_i s1;split at p
     ·rename_i s2;split at p
      ·rename_i j hj;obtain⟨a,zs,rfl,_,h1,r1⟩:=hr.lst hg rv;cases ra with
       | cons r t=>
        cases t;obtain⟨hlt,hp,hno⟩:=List.findIdx?_eq_some_iff_getElem.mp hj;refine⟨a,_,d,ds,j,ds[j],rfl,rfl,.lst (.of h1) ((b9 hr iL).2 _ _ _ r1 q2),(b9 hr iL).1 _ _ _ r q1,s2,s1,Jz hlt,hp,fun m z' hm hz=> ?_,p.ret hr .int⟩
        obtain⟨hm',e⟩:=Jl.mp hz;have:=hno m hm;rw[e]at this;simpa using this
      ·exact p.elim
     ·exact p.elim
    ·exact p.elim
   ·exact p.elim
  ·exact p.elim
 ·exact p.elim
section
variable {prog:Program}{w:World}{A:Around}{E:Value→Shared→Prop}{s:Shared}{K:Jj}{x C L f:Addr}{h₀:Heap}{m:Str→Option Value}{ox:Obj}{od:Option Obj}{b tb:Value}
theorem wg {M:Model} {rest:List Value} {Q:Unit→Shared→Prop} (X:K.In s.heap) (I:Kn s.heap x ox C od) (hm:Ka K C (.type "object")=some true) (ha:argsOk "object.__ne__" ⟨.ref x::rest,[]⟩) (hq:Q () s) :
  wpAny M A (checkBuiltinCall "object.__ne__" ⟨.ref x::rest,[]⟩) Q E s:=by
 simp only[checkBuiltinCall,F.cmpKind_ne,F.cmpSplit_ne];refine wpAny_bind ?_;unfold isInstance;refine wpAny_bind (I.type.here ((LV X hm).here ?_));simp only[Kk,Jp,if_false];cases hsig:Manifest.signature? "object.__ne__" with
 | none=>exact wpAny_pure hq
 | some sig=>
  simp only[argsOk,hsig]at ha;have h2:Bind.checkArgs "object.__ne__" sig ⟨.ref x::rest,[]⟩=pure ():=ha;show wpAny M A (Bind.checkArgs "object.__ne__" sig ⟨.ref x::rest,[]⟩) Q E _;rw[h2]; exact wpAny_pure hq
def gR(Q:Value→Shared→Prop)(neg:Bool)(v:Value)(s':Shared):Prop:=∃ r,v = .bool r∧Q (.bool (if neg=true then !r else r)) s'
theorem vk {Q:Value→Shared→Prop} (hu:A.units<cLine) (X:K.In s.heap) (I:Kn s.heap x ox C od) (he:JA K (.ref C) "__eq__" = some (some (.ref f))) (hf:LA K (.ref f)=true)
  (h:wpAny (model prog w) A (call (.ref f) [.ref x,b]) (gR Q true) E s) :
  wpAny (model prog w) A (Builtin.«object.__ne__» ⟨[.ref x,b],[]⟩) (fun fin s'=>∃ v,fin = .done (.ret v)∧v≠ .notImplemented∧Q v s') E s:=by
 unfold Builtin.«object.__ne__»;have one:wpAny (model prog w) A (callSpecialIfBound? (.ref x) "__eq__" [b]) (fun r s'=>∃ k,r=some (.bool k)∧Q (.bool (!k)) s') E s :=
  Mf X I he hf (wpAny_mono h (fun v s' hv=>by
   obtain⟨r,rfl,q⟩:=hv;exact⟨r,rfl,q⟩) fun _ _ e=>e)
 repeat (first | with_reducible refine wpAny_cRoomFor hu ?_ | (with_reducible refine wpAny_bind (wpAny_mono one (fun r s' z=> ?_) fun _ _ e=>e); obtain⟨k,rfl,hq⟩:=z) | wp_step)
 exact⟨_,rfl,nofun,hq⟩
theorem vI {Q:Value→Shared→Prop} (hu:A.units+1<cLine) (X:K.In s.heap) (I:Kn s.heap x ox C od) (hn:JA K (.ref C) "__ne__" = some (some (.builtin "object.__ne__"))) (ho:Ka K C (.type "object")=some true)
  (he:JA K (.ref C) "__eq__" = some (some (.ref f))) (hf:LA K (.ref f)=true)
  (h:wpAny (model prog w) A.in1 (call (.ref f) [.ref x,b]) (gR Q true) E s) :
  wpAny (model prog w) A (tryCompare (.ref x) "__ne__" b) (fun r s'=>∃ v,r=some v∧Q v s') E s:=by
 have one:wpAny (model prog w) A (call (.builtin "object.__ne__") [.ref x,b]) (fun v s'=>v≠ .notImplemented∧Q v s') E s :=
  wpAny_call (codeAny_call_builtin F.cmp_object.ne.plain F.cmpEntry_ne (wg X I ho (F.cmpArgs_ne _ _) (wpAny_mono (vk (A:=A.in1) hu X I he hf h) (fun fin s' hv=>by
   obtain⟨v,rfl,h1,h2⟩:=hv;exact⟨h1,h2⟩) fun _ _ e=>e)))
 have two:wpAny (model prog w) A (callSpecialIfBound? (.ref x) "__ne__" [b]) (fun r s'=>∃ v,r=some v∧v≠ .notImplemented∧Q v s') E s:=by
  simp only[callSpecialIfBound?,bindSpecialIfBound?];refine wpAny_holding (wpAny_bind (wpAny_bind (wpAny_bind (I.type.here ((PySem.W.looks_findIn X hn).here ?_)))));simp only[F.cmp_object.ne.bind];refine wpAny_bind (wpAny_askSetting (wpAny_ite ?_));have fin:wpAny (model prog w) A (call (.builtin "object.__ne__") ([.ref x]++[b]) >>= fun v=>pure (some v)) (fun r s'=>∃ v,r=some v∧v≠ .notImplemented∧Q v s') E s:=wpAny_bind (wpAny_mono one (fun v s' h'=>wpAny_pure ⟨v,rfl,h'⟩) fun _ _ h'=>h')
  split
  ·exact wpAny_bind (wpAny_pure (wpAny_pure fin))
  ·exact wpAny_tryCatch (wpAny_bind (wpAny_pure (wpAny_pure fin)))
 unfold tryCompare;refine wpAny_bind (wpAny_mono two (fun r s' hv=> ?_) fun _ _ e=>e)
 obtain⟨v,rfl,h1,h2⟩:=hv;cases v<;>first | exact absurd rfl h1 | exact wpAny_pure ⟨_,rfl,h2⟩
theorem DS{Q:Value→Shared→Prop}(hu:A.units+1<cLine)(X:K.In s.heap)(I:Kn s.heap x ox C od)(hb:MM (model prog w) s.heap (typeOf b) tb)(hno:JD K C tb=true)
  (hn:JA K (.ref C) "__ne__" = some (some (.builtin "object.__ne__"))) (ho:Ka K C (.type "object")=some true)
  (he:JA K (.ref C) "__eq__" = some (some (.ref f))) (hf:LA K (.ref f)=true)
  (h:wpAny (model prog w) A.in1 (call (.ref f) [.ref x,b]) (gR Q true) E s):wpAny (model prog w) A (richCompare .NotEq (.ref x) b) Q E s:=by
 have one:=vI hu X I hn ho he hf h;unfold richCompare;simp only[oneThing_ref];refine wpAny_holding (wpAny_bind (wpAny_cRoomFor (by omega) ?_))
 refine wpAny_bind (I.type.here (wpAny_bind (hb.here ?_)));split
 ·rename_i q;have e:Kr K tb (.ref C)=some false:=by
   rcases Bool.or_eq_true_iff.mp hno with e | e
   ·rw[beq_iff_eq.mp e]at q; simp at q
   ·exact beq_iff_eq.mp e
  refine wpAny_bind ((LW X e).here ?_);simp only[Jp,if_false];refine wpAny_bind (wpAny_mono one (fun r s' z=> ?_) fun _ _ e=>e)
  obtain⟨v,rfl,hq⟩:=z;exact wpAny_pure hq
 ·refine wpAny_bind (wpAny_pure ?_);simp only[Jp,if_false];refine wpAny_bind (wpAny_mono one (fun r s' z=> ?_) fun _ _ e=>e)
  obtain⟨v,rfl,hq⟩:=z;exact wpAny_pure hq
theorem Fu{y D:Addr}{oy:Obj}{odY:Option Obj}{op:CmpOp}{Q:Value→Shared→Prop}(hu:A.units<cLine)(X:K.In s.heap)(I:Kn s.heap x ox C od)(J:Kn s.heap y oy D odY)(ne:D≠C)(hs:Kr K (.ref D) (.ref C)=some true)
  (one:wpAny (model prog w) A (tryCompare (.ref y) (cmpInfo op).2.2 (.ref x)) (fun r s'=>∃ v,r=some v∧Q v s') E s):wpAny (model prog w) A (richCompare op (.ref x) (.ref y)) Q E s:=by
 unfold richCompare;simp only[oneThing_ref];refine wpAny_holding (wpAny_bind (wpAny_cRoomFor hu ?_));refine wpAny_bind (I.type.here (wpAny_bind (J.type.here ?_)));have e:(Value.ref C != Value.ref D)=true:=by
  rw[bne_iff_ne];intro z;injection z with z
  exact ne z.symm
 rw[if_pos e];refine wpAny_bind ((LW X hs).here ?_);simp only[if_true];refine wpAny_bind (wpAny_mono one (fun r s' z=> ?_) fun _ _ e=>e)
 obtain⟨v,rfl,hq⟩:=z;exact wpAny_bind (wpAny_rule (wpAny_pure hq))
theorem BQ {Q:Value→Shared→Prop} (X:K.In s.heap) (I:Kn s.heap x ox C od) (he:JA K (.ref C) "__eq__" = some (some (.ref f))) (hf:LA K (.ref f)=true)
  (h:wpAny (model prog w) A (call (.ref f) [.ref x,b]) (LB Q) E s):wpAny (model prog w) A (tryCompare (.ref x) "__eq__" b) (fun r s'=>∃ v,r=some v∧Q v s') E s:=by
 unfold tryCompare;refine wpAny_bind (Mf X I he hf (wpAny_mono h (fun v s' hv=> ?_) fun _ _ e=>e))
 cases v<;>first | exact hv.elim | exact wpAny_pure ⟨_,rfl,hv⟩
end
section
variable {X:Cx}{a0:Addr}{k:Nat}
def jD(cl:List (Str×List Str))(D C:Str):Bool:=decide (D=C) || (match cl.lookup D with
 | some l=>l.contains C
 | none=>false)
def iX(neg:Bool)(i:bg)(a:Nat)(u:AV)(h:AH):Ex AV:=(aL i.n i.m i.ks i.gA i.g [.ref a,u] [] h).bind fun r h'=>(match r with
 | .bl k=> .ok (.bl (if neg=true then !k else k)) h'
 | _=> .stuck)
def vM:AV→Bool
 | .non=>true
 | .tup _=>true
 | .str _=>true
 | _=>false
def cB(neg:Bool)(cl:List (Str×List Str))(tab:Str→Option bg):dF:=fun v u h=>match v,u with
 | .ref n,.ref m=>(match h.get n,h.get m with
  | some (.ins C _),some (.ins D _)=>if (cl.lookup C).isSome=true∧(cl.lookup D).isSome=true then(if D≠C∧jD cl D C=true then(match tab D with
    | some i=>iX neg i m (.ref n) h
    | none=> .stuck)else(match tab C with
    | some i=>iX neg i n (.ref m) h
    | none=> .stuck))else .stuck
  | _,_=> .stuck)
 | .ref n,u=>(match h.get n with
  | some (.ins C _)=>if vM u=true then(match tab C with
    | some i=>iX neg i n u h
    | none=> .stuck)else .stuck
  | _=> .stuck)
 | _,_=> .stuck
def Ih(K:Jj)(C:Addr):Prop:=Ka K C (.type "object")=some true∧JD K C (.type "NoneType")=true∧JD K C (.type "tuple")=true∧JD K C (.type "str")=true
structure r6(X:Cx)(a0:Addr)(k:Nat)(cl:List (Str×List Str))(tab:Str→Option bg):Prop where
 m:∀ C i,tab C=some i→i.m=2∧i.ks=[]∧JA X.K (.ref (Jo X.K C)) "__ne__" = some (some (.builtin "object.__ne__"))∧Ih X.K (Jo X.K C)∧∃ f,Meth X.K (Jo X.K C) "__eq__" f∧FnAt X a0 k f i.n i.g i.m i.ks i.gA
 s:∀ C D,(cl.lookup C).isSome=true→(cl.lookup D).isSome=true→D≠C→Jo X.K D≠Jo X.K C∧Kr X.K (.ref (Jo X.K D)) (.ref (Jo X.K C))=some (jD cl D C)
theorem pU{neg:Bool}{i:bg}{f xa:Addr}{y:V}{b:Value}{u:AV}{pins:List (Addr×Obj)}{σ:KJ}{H:Hp}{s:Shared}{Q:VK}{μ:List Addr}{n:Nat}{ah:AH}(F:FnAt X a0 k f i.n i.g i.m i.ks i.gA)(hr:Rm k X.A)(e1:i.m=2)(e2:i.ks=[])(I:Inv X pins σ H s)
  (R:HR (Cx.wd X a0) μ ah H) (hn:μ[n]? = some xa) (ru:Rl (Cx.wd X a0) μ H u y) (ry:RelV y b) (p:bh (Cx.wd X a0) μ H (iX neg i n u ah) Q) :
  wpAny (model X.prog X.w) X.A (call (.ref f) [.ref xa,b]) (gR (EP X pins σ Q) neg) X.xe s:=by
 have q:=F.run hr I (us:=[.ref xa,b]) (ws:=[]) (vs:=[.ref xa,y]) (zs:=[]) (.cons rfl (.cons ry .nil)) .nil R (.cons (.ref hn) (.cons ru .nil)) .nil (ag.bind p);rw[e2]at q;refine wpAny_mono q (fun r s' z=> ?_) fun _ _ e=>e
 obtain⟨z1,H',I',rz,μ1,w,h1,e1',R1,rw1,q1⟩:=z;split at q1
 ·cases rw1;obtain rfl:r=Value.bool _:=rz;exact⟨_,rfl,.bl _,H',I',rfl,q1.ret R1 .bl⟩
 ·exact q1.elim
theorem nJ{neg:Bool}{i:bg}{f xa:Addr}{y:V}{b:Value}{u:AV}{pins:List (Addr×Obj)}{σ:KJ}{H:Hp}{s:Shared}{Q:VK}{μ:List Addr}{n:Nat}{ah:AH}(F:FnAt X a0 k f i.n i.g i.m i.ks i.gA)(hr:Rm (k+1) X.A)(e1:i.m=2)(e2:i.ks=[])(I:Inv X pins σ H s)
  (R:HR (Cx.wd X a0) μ ah H) (hn:μ[n]? = some xa) (ru:Rl (Cx.wd X a0) μ H u y) (ry:RelV y b) (p:bh (Cx.wd X a0) μ H (iX neg i n u ah) Q) :
  wpAny (model X.prog X.w) X.A.in1 (call (.ref f) [.ref xa,b]) (gR (EP X pins σ Q) neg) X.xe s:=by
 obtain⟨fd,ps,F,gB,gV,hb,hrel⟩:=F;unfold iX aL at p;rw[e1,e2]at p hb;split at p
 ·split at p
  ·split at p
   ·rename_i l3;have ra2:Vals [V.ref xa,y] [Value.ref xa,b]:=.cons rfl (.cons ry .nil);have bound:=hb.to s [.ref xa,b] [] I.kIn rfl rfl;have r0:=F.run X.A.in1 X.stack s H ⟨[.ref xa,b],[]⟩ (gB [.ref xa,b] []) (gV [.ref xa,y] []) _ (fun _ _ _=>False) hr.in1 I.env0.in1 bound (hb.rel ra2 .nil) ⟨μ,_,ah,l3,R,hrel _ _ _ _ _ _ (.cons (.ref hn) (.cons ru .nil)) .nil,ag.bind p⟩
    refine wpAny_call (codeAny_mono r0 ?_);rintro(er | fl) s' hq
    ·exact JQ (pass0 (X:=X.nox) pins σ H s er s' (I.wish _) hq)
    ·cases fl with
     | ret u'=>
      obtain⟨z1,H',I',rz,μ1,w,h1,e1',R1,rw1,q1⟩:=I.after hq;split at q1
      ·cases rw1;obtain rfl:u'=Value.bool _:=rz;exact⟨_,rfl,.bl _,H',I',rfl,q1.ret R1 .bl⟩
      ·exact q1.elim
     | next=>exact JQ hq
     | brk=>exact JQ hq
     | cont=>exact JQ hq
   ·exact p.elim
  ·exact p.elim
 ·exact p.elim
theorem om{cl:List (Str×List Str)}{C D:Str}{K:Jj}(s:∀ C D,(cl.lookup C).isSome=true→(cl.lookup D).isSome=true→D≠C→Jo K D≠Jo K C∧Kr K (.ref (Jo K D)) (.ref (Jo K C))=some (jD cl D C))(hk:(cl.lookup C).isSome=true∧(cl.lookup D).isSome=true)(hd:¬ (D≠C∧jD cl D C=true)) :
  JD K (Jo K C) (.ref (Jo K D))=true:=by
 by_cases e:D=C
 ·subst e;simp [JD]
 ·have q:=(s C D hk.1 hk.2 e).2;have:jD cl D C=false:=Ks.mpr fun z=>hd ⟨e,z⟩
  unfold JD;rw[q,this];simp
theorem vF {W:Wd} {μ:List Addr} {ah:AH} {H:Hp} {u:AV} {y:V} (hr:HR W μ ah H) (r:Rl W μ H u y) (e:vM u=true):∃ T,(T = "NoneType" ∨ T = "tuple" ∨ T = "str")∧TyX W.K H y (.type T):=by
 cases u with
 | non=>exact⟨_,.inl rfl,.base (i5 hr r rfl)⟩
 | tup xs=>
  cases r with
  | tup h r=>exact⟨_,.inr (.inl rfl),vj (W:=W) h⟩
 | str x=>exact⟨_,.inr (.inr rfl),.base (i5 hr r rfl)⟩
 | _=>cases e
theorem uu{cl:List (Str×List Str)}{tab:Str→Option bg}(T:r6 X a0 k cl tab)(hr:Rm k X.A):OpR X (compareOp .Eq) (bD (Cx.wd X a0) (cB false cl tab)):=by
 intro pins s σ H x y v u Q I rx ry ⟨μ,a,b,ah,R,ra,rb,p⟩;unfold cB at p;split at p
 ·rename_i n m;split at p
  ·rename_i C fs D gs hg hg2;split at p
   ·rename_i hk;obtain⟨xa,dx,ys,rfl,hn,hH,_⟩:=R.ins hg ra;obtain⟨xb,dy,zs,rfl,hn2,hH2,_⟩:=R.ins hg2 rb;obtain rfl:v=Value.ref xa:=rx;obtain rfl:u=Value.ref xb:=ry;obtain⟨mA,J,_⟩:=ins_get I.hok hH;obtain⟨mB,J',_⟩:=ins_get I.hok hH2;obtain⟨od,J,_⟩:=J.look;obtain⟨od',J',_⟩:=J'.look;obtain⟨mF,hF⟩:=I.fr;have back:∀(v:Value) s',gR (EP X pins σ Q) false v s'→LB (EP X pins σ Q) v s':=fun v s' ⟨r,e,z⟩=>by
     subst e;exact z
    show wpAny (model X.prog X.w) X.A (richCompare .Eq _ _) _ _ _;split at p
    ·rename_i hd;split at p
     ·rename_i i hi;obtain⟨e1,e2,hne,hmo,f,hM,F⟩:=T.m _ i hi;have hsb:=T.s C D hk.1 hk.2 hd.1;rw[hd.2]at hsb;exact Fu (op:=.Eq) hr.r.units0 I.kIn J J' hsb.1 hsb.2 (BQ I.kIn J' hM.at_ hM.fn (wpAny_mono (pU F hr e1 e2 I R hn2 (.ref hn) rfl p) back fun _ _ z=>z))
     ·exact p.elim
    ·rename_i hd;split at p
     ·rename_i i hi;obtain⟨e1,e2,hne,hmo,f,hM,F⟩:=T.m _ i hi;exact MN (op:=.Eq) (tb:=.ref (Jo X.K D)) hr.r.units0 hF I.ok.mod.kin J J'.type (om T.s hk hd) hM.at_ hM.fn (wpAny_mono (pU F hr e1 e2 I R hn (.ref hn2) rfl p) back fun _ _ z=>z)
     ·exact p.elim
   ·exact p.elim
  ·exact p.elim
 ·rename_i n u0 _;split at p
  ·rename_i C fs hg;split at p
   ·rename_i hu;split at p
    ·rename_i i hi;obtain⟨e1,e2,hne,hmo,f,hM,F⟩:=T.m _ i hi;obtain⟨xa,dx,ys,rfl,hn,hH,_⟩:=R.ins hg ra;obtain rfl:v=Value.ref xa:=rx;obtain⟨mA,J,_⟩:=ins_get I.hok hH;obtain⟨od,J,_⟩:=J.look;obtain⟨mF,hF⟩:=I.fr;obtain⟨TT,hT,ty⟩:=vF R rb hu;obtain⟨PP,Z,hP,_⟩:=kit_of I ry ty;have hb:=Z.ty (model X.prog X.w) s.heap I.kIn hP;have nf:JD X.K (Jo X.K C) (.type TT)=true:=by
      rcases hT with rfl | rfl | rfl
      ·exact hmo.2.1
      ·exact hmo.2.2.1
      ·exact hmo.2.2.2
     have back:∀(v:Value) s',gR (EP X pins σ Q) false v s'→LB (EP X pins σ Q) v s':=fun v s' ⟨r,e,z⟩=>by
      subst e;exact z
     exact MN (op:=.Eq) (tb:=.type TT) hr.r.units0 hF I.ok.mod.kin J hb nf hM.at_ hM.fn (wpAny_mono (pU F hr e1 e2 I R hn rb ry p) back fun _ _ z=>z)
    ·exact p.elim
   ·exact p.elim
  ·exact p.elim
 ·exact p.elim
theorem vh{cl:List (Str×List Str)}{tab:Str→Option bg}(T:r6 X a0 k cl tab)(hr:Rm (k+1) X.A):OpR X (compareOp .NotEq) (bD (Cx.wd X a0) (cB true cl tab)):=by
 intro pins s σ H x y v u Q I rx ry ⟨μ,a,b,ah,R,ra,rb,p⟩;unfold cB at p;split at p
 ·rename_i n m;split at p
  ·rename_i C fs D gs hg hg2;split at p
   ·rename_i hk;obtain⟨xa,dx,ys,rfl,hn,hH,_⟩:=R.ins hg ra;obtain⟨xb,dy,zs,rfl,hn2,hH2,_⟩:=R.ins hg2 rb;obtain rfl:v=Value.ref xa:=rx;obtain rfl:u=Value.ref xb:=ry;obtain⟨mA,J,_⟩:=ins_get I.hok hH;obtain⟨mB,J',_⟩:=ins_get I.hok hH2;obtain⟨od,J,_⟩:=J.look;obtain⟨od',J',_⟩:=J'.look;have un:X.A.units+1<cLine:=by have:=hr.r.units0; have:=hr.in1.r.units0; exact this
    have un0:X.A.units<cLine:=by omega
    show wpAny (model X.prog X.w) X.A (richCompare .NotEq _ _) _ _ _;split at p
    ·rename_i hd;split at p
     ·rename_i i hi;obtain⟨e1,e2,hne,hmo,f,hM,F⟩:=T.m _ i hi;have hsb:=T.s C D hk.1 hk.2 hd.1;rw[hd.2]at hsb;exact Fu (op:=.NotEq) un0 I.kIn J J' hsb.1 hsb.2 (vI un I.kIn J' hne hmo.1 hM.at_ hM.fn (nJ F hr e1 e2 I R hn2 (.ref hn) rfl p))
     ·exact p.elim
    ·rename_i hd;split at p
     ·rename_i i hi;obtain⟨e1,e2,hne,hmo,f,hM,F⟩:=T.m _ i hi;exact DS (tb:=.ref (Jo X.K D)) (f:=f) un I.kIn J J'.type (om T.s hk hd) hne hmo.1 hM.at_ hM.fn (nJ F hr e1 e2 I R hn (.ref hn2) rfl p)
     ·exact p.elim
   ·exact p.elim
  ·exact p.elim
 ·rename_i n u0 _;split at p
  ·rename_i C fs hg;split at p
   ·rename_i hu;split at p
    ·rename_i i hi;obtain⟨e1,e2,hne,hmo,f,hM,F⟩:=T.m _ i hi;obtain⟨xa,dx,ys,rfl,hn,hH,_⟩:=R.ins hg ra;obtain rfl:v=Value.ref xa:=rx;obtain⟨mA,J,_⟩:=ins_get I.hok hH;obtain⟨od,J,_⟩:=J.look;obtain⟨mF,hF⟩:=I.fr;obtain⟨TT,hT,ty⟩:=vF R rb hu;obtain⟨PP,Z,hP,_⟩:=kit_of I ry ty;have hb:=Z.ty (model X.prog X.w) s.heap I.kIn hP;have nf:JD X.K (Jo X.K C) (.type TT)=true:=by
      rcases hT with rfl | rfl | rfl
      ·exact hmo.2.1
      ·exact hmo.2.2.1
      ·exact hmo.2.2.2
     have un:X.A.units+1<cLine:=by have:=hr.r.units0; have:=hr.in1.r.units0; exact this
     exact DS (tb:=.type TT) (f:=f) un I.kIn J hb nf hne hmo.1 hM.at_ hM.fn (nJ F hr e1 e2 I R hn rb ry p)
    ·exact p.elim
   ·exact p.elim
  ·exact p.elim
 ·exact p.elim
end
def oV(cl:List (Jh×List Jh)):AC:=fun as h=>match as with
 | [.ref n,.glo C]=>(match h.get n with
  | some (.ins D _)=>if (cl.lookup D).isSome=true∧(cl.lookup C).isSome=true then .ok (.bl (jD cl D C)) h else .stuck
  | _=> .stuck)
 | [u,.glo C]=>if vM u=true∧(cl.lookup C).isSome=true then .ok (.bl false) h else wh as h
 | _=>wh as h
structure B5(K:Jj)(cl:List (Jh×List Jh)):Prop where
 ty:∀ D,(cl.lookup D).isSome=true→Cls K (Jo K D)∧JA K (.ref (Jo K D)) "__class__" = some (some (.builtin "object.__class__"))∧KE K (.builtin "object.__class__") "__get__" = some (some (.builtin "getset_descriptor.__get__"))∧
  LC K (.builtin "object.__class__")=some true∧Ka K (Jo K D) (.type "object")=some true
 kit:∀ D C,(cl.lookup D).isSome=true→(cl.lookup C).isSome=true→J3 K (.ref (Jo K D)) (.ref (Jo K C))=some (jD cl D C)
def u6(K:Jj)(C:Addr):Prop:=J3 K (.type "NoneType") (.ref C)=some false∧J3 K (.type "tuple") (.ref C)=some false∧J3 K (.type "str") (.ref C)=some false
theorem yV {X:Cx} {a0:Addr} {cl:List (Jh×List Jh)} (F:B5 X.K cl) (U:∀ C,(cl.lookup C).isSome=true→u6 X.K (Jo X.K C)):CallR X (.builtin "isinstance") (dJ (Cx.wd X a0) (oV cl)):=by
 intro pins s σ H xs us Q I rv ⟨μ,as,ah,hr,r,p⟩;unfold oV at p;split at p
 ·rename_i n C;split at p
  ·rename_i D fs hg;split at p
   ·rename_i hc;cases r with
    | cons r t=>
     cases t with
     | cons r2 t=>
      cases t;cases r2;obtain⟨a,dx,ys,rfl,hn,hH,_⟩:=hr.ins hg r;obtain⟨u1,u2,rfl,r1,r2⟩:=vals2 rv;obtain rfl:u2=Value.ref (Jo X.K C):=r2;obtain⟨c,h1,h2,h3,h4⟩:=F.ty D hc.1;exact isinst_ok I r1 (TyOf.ins hH c h1 h2 h3 h4) (F.kit D C hc.1 hc.2) fun tk=>⟨.bl _,H,I.tok _,rfl,p.ret hr .bl⟩
   ·exact p.elim
  ·exact p.elim
 ·rename_i u C _;split at p
  ·rename_i hc;cases r with
   | cons r t=>
    cases t with
    | cons r2 t=>
     cases t;cases r2;obtain⟨u1,u2,rfl,r1,r2⟩:=vals2 rv;obtain rfl:u2=Value.ref (Jo X.K C):=r2;obtain⟨TT,hT,ty⟩:=vF hr r hc.1;obtain⟨PP,Z,hP,hne⟩:=kit_of I r1 ty;have ke:J3 X.K (.type TT) (.ref (Jo X.K C))=some false:=by
      rcases hT with rfl | rfl | rfl
      ·exact(U C hc.2).1
      ·exact(U C hc.2).2.1
      ·exact(U C hc.2).2.2
     exact PySem.W.kia_one Z I.kIn hP ke hne fun tk=>⟨.bl _,H,I.tok _,rfl,p.ret hr .bl⟩
  ·exact q5 pins s σ H xs us Q I rv ⟨μ,_,ah,hr,r,p⟩
 ·exact q5 pins s σ H xs us Q I rv ⟨μ,as,ah,hr,r,p⟩
def qV(r:Bool)(i:bg)(n:Nat)(h:AH):Ex AV:=(aL i.n i.m i.ks i.gA i.g [.ref n] [] h).bind fun v h'=>(match v with
 | .str x=>if r=true then .ok (.str x) h' else .stuck
 | .int k=>if r=true then .stuck else if 0≤k∧k<9223372036854775808 then .ok (.int k) h' else .stuck
 | _=> .stuck)
def nI(r:Bool)(tab:Str→Option bg):AC:=fun as h=>match as with
 | [.ref n]=>(match h.get n with
  | some (.ins C _)=>(match tab C with
   | some i=>qV r i n h
   | none=> .stuck)
  | _=> .stuck)
 | _=> .stuck
def v7(r:Bool):Str:=if r=true then "__repr__" else "__len__"
structure Bc(X:Cx)(a0:Addr)(k:Nat)(r:Bool)(tab:Str→Option bg):Prop where
 m:∀ C i,tab C=some i→i.m=1∧i.ks=[]∧∃ f,Meth X.K (Jo X.K C) (v7 r) f∧FnAt X a0 k f i.n i.g i.m i.ks i.gA
section
variable {X:Cx}{a0:Addr}{k:Nat}
theorem yE{r:Bool}{i:bg}{f xa:Addr}{pins:List (Addr×Obj)}{σ:KJ}{H:Hp}{s:Shared}{Q:VK}{μ:List Addr}{n:Nat}{ah:AH}(F:FnAt X a0 k f i.n i.g i.m i.ks i.gA)(hr:Rm (k+1) X.A)(e1:i.m=1)(e2:i.ks=[])(I:Inv X pins σ H s)
  (R:HR (Cx.wd X a0) μ ah H) (hn:μ[n]? = some xa) (p:bh (Cx.wd X a0) μ H (qV r i n ah) Q) :
  wpAny (model X.prog X.w) X.A.in1 (call (.ref f) [.ref xa]) (if r=true then PySem.W.StrBack (EP X pins σ Q)else PySem.W.LenBack (EP X pins σ Q)) X.xe s:=by
 obtain⟨fd,ps,F,gB,gV,hb,hrel⟩:=F;unfold qV aL at p;rw[e1,e2]at p hb;split at p
 ·split at p
  ·split at p
   ·rename_i l3;have ra2:Vals [V.ref xa] [Value.ref xa]:=.cons rfl .nil;have bound:=hb.to s [.ref xa] [] I.kIn rfl rfl;have r0:=F.run X.A.in1 X.stack s H ⟨[.ref xa],[]⟩ (gB [.ref xa] []) (gV [.ref xa] []) _ (fun _ _ _=>False) hr.in1 I.env0.in1 bound (hb.rel ra2 .nil) ⟨μ,_,ah,l3,R,hrel _ _ _ _ _ _ (.cons (.ref hn) .nil) .nil,ag.bind p⟩
    refine wpAny_call (codeAny_mono r0 ?_);rintro(er | fl) s' hq
    ·exact JQ (pass0 (X:=X.nox) pins σ H s er s' (I.wish _) hq)
    ·cases fl with
     | ret u'=>
      obtain⟨z1,H',I',rz,μ1,w,h1,e1',R1,rw1,q1⟩:=I.after hq;split at q1
      ·rename_i x;cases rw1;split at q1
       ·rename_i hrt;obtain⟨t,rfl⟩:=rz;rw[if_pos hrt];exact⟨.str x,H',I',⟨t,rfl⟩,q1.ret R1 .str⟩
       ·exact q1.elim
      ·rename_i x;cases rw1;split at q1
       ·exact q1.elim
       ·rename_i hrf;split at q1
        ·rename_i hk;obtain⟨t,rfl⟩:=rz;rw[if_neg hrf];exact⟨⟨hk.1,by have:=hk.2; omega⟩,.int x,H',I'.tok _,⟨_,rfl⟩,q1.ret R1 .int⟩
        ·exact q1.elim
      ·exact q1.elim
     | next=>exact JQ hq
     | brk=>exact JQ hq
     | cont=>exact JQ hq
   ·exact p.elim
  ·exact p.elim
 ·exact p.elim
theorem v5 {tab:Str→Option bg} {r:Bool} (T:Bc X a0 k r tab) (hr:Rm (k+1) X.A):CallR X (.builtin (if r=true then "repr" else "len")) (dJ (Cx.wd X a0) (nI r tab)):=by
 intro pins s σ H xs us Q I rv ⟨μ,as,ah,R,ra,p⟩;unfold nI at p;split at p
 ·rename_i n;split at p
  ·rename_i C fs hg;split at p
   ·rename_i i hi;obtain⟨e1,e2,f,hM,F⟩:=T.m _ i hi;cases ra with
    | cons ra t=>
     cases t;obtain⟨xa,dx,ys,rfl,hn,hH,_⟩:=R.ins hg ra;obtain rfl:=rv.ref1;obtain⟨mA,J,_⟩:=ins_get I.hok hH;obtain⟨od,J,_⟩:=J.look;obtain⟨mF,hF⟩:=I.fr;have un0:X.A.in1.units<cLine:=hr.in1.r.units0;have q:=yE (r:=r) F hr e1 e2 I R hn p;cases r with
     | true=>exact PySem.W.repr_K un0 hF I.ok.mod.kin J hM.at_ hM.fn q
     | false=>exact PySem.W.len_K hF I.ok.mod.kin J hM.at_ hM.fn q
   ·exact p.elim
  ·exact p.elim
 ·exact p.elim
end
def EB:V→List V→Hp→VK→Prop:=fun x vs H Q=>∃(a:Addr) (kvs:List (Key×V)),x = .ref a∧vs=[]∧H a=some (.dK kvs)∧kvs.length≤sizeLine∧Q .non (upd H a (.dK []))
theorem zi {X:Cx}:MtR X "dict.clear" EB:=by
 intro pins s σ H x vs v us Q I rx rv h;obtain⟨a,kvs,ex,ev,ea,hz,q⟩:=h;subst ex;subst ev;obtain rfl:v=Value.ref a:=rx;obtain rfl:us=[]:=rv.zero;obtain⟨z,hd,ws,rel,dd⟩:=dk_of I.hok ea;refine call_meetsIn Li dd.typeIs PySem.F.entry_dict_clear (PySem.F.args_dict_clear_1 _) (meets_dict_clear (mixKind X.prog X.w) a) ⟨ws,dd,by rw[←rel.length]; exact hz,fun h' ddn hs=> ?_⟩
 have he:∃ q,h'.get? a=some q:=let ⟨q,_,_,hq,_⟩:=ddn; ⟨q,hq⟩
 exact⟨.non,_,d_write (t':=s.toks) I (by rw[ea]; exact Nh) hs he (dk_new (K1 _) hd .nil ddn),rfl,q⟩
def vf:AM:=fun v as h=>match v,as with
 | .ref n,[]=>(match h.get n with
  | some (.lst _)=> .ok .non (h.set n (.lst []))
  | _=> .stuck)
 | _,_=> .stuck
def BO:AM:=fun v as h=>match v,as with
 | .ref n,[]=>(match h.get n with
  | some (.lst xs)=> .ok .non (h.set n (.lst xs.reverse))
  | _=> .stuck)
 | _,_=> .stuck
def uV:AM:=fun v as h=>match v,as with
 | .ref n,[]=>(match h.get n with
  | some (.bA kvs)=>if kvs.length≤sizeLine then .ok .non (h.set n (.bA []))else .stuck
  | _=> .stuck)
 | _,_=> .stuck
section
variable {X:Cx}{a0:Addr}
theorem vR:MtR X "list.clear" (eW (Cx.wd X a0) vf):=cU mt_clear fun x xs H Q ⟨μ,v,as,ah,hr,rv,ra,p⟩=>by
 unfold vf at p;split at p
 ·rename_i n;split at p
  ·rename_i ys g;cases ra;obtain⟨a,zs,rfl,hn,h1,r1⟩:=hr.lst g rv;obtain⟨e,hr'⟩:=dH (as:=[]) (ys':=[]) hr g hn h1 r1 .nil;exact⟨a,zs,rfl,rfl,h1,p _ _ _ e hr' .non⟩
  ·exact p.elim
 ·exact p.elim
theorem zt:MtR X "list.reverse" (eW (Cx.wd X a0) BO):=cU mt_reverse fun x xs H Q ⟨μ,v,as,ah,hr,rv,ra,p⟩=>by
 unfold BO at p;split at p
 ·rename_i n;split at p
  ·rename_i ys g;cases ra;obtain⟨a,zs,rfl,hn,h1,r1⟩:=hr.lst g rv;obtain⟨e,hr'⟩:=dH (as:=ys.reverse) (ys':=zs.reverse) hr g hn h1 r1 r1.rev;exact⟨a,zs,rfl,rfl,h1,p _ _ _ e hr' .non⟩
  ·exact p.elim
 ·exact p.elim
theorem vi:MtR X "dict.clear" (eW (Cx.wd X a0) uV):=cU zi fun x xs H Q ⟨μ,v,as,ah,hr,rv,ra,p⟩=>by
 unfold uV at p;split at p
 ·rename_i n;split at p
  ·rename_i kvs g;split at p
   ·rename_i hl;cases ra;obtain⟨a,ys,rfl,hn,h1,r1⟩:=hr.bA g rv;obtain⟨e,hr'⟩:=je (as:=[]) (ys':=[]) hr g hn h1 r1 .nil;exact⟨a,ys,rfl,rfl,h1,by rw[←r1.len]; exact hl,p _ _ _ e hr' .non⟩
   ·exact p.elim
  ·exact p.elim
 ·exact p.elim
def lY:AC:=fun as h=>match as with
 | [.int i]=>if i.natAbs.log2<1920 then .ok (.str (toString i)) h else .stuck
 | [.bl b]=> .ok (.str (if b=true then("True" : Str)else("False" : Str))) h
 | _=> .stuck
theorem yH:CallR X (.type "str") (dJ (Cx.wd X a0) lY):=by
 intro pins s σ H xs us Q I rv ⟨μ,as,ah,hr,r,p⟩;unfold lY at p;split at p
 ·split at p
  ·rename_i hz;cases r with
   | cons r t=>
    cases r; cases t;exact call_str_int pins s σ H _ us Q I rv ⟨_,rfl,hz,p.ret hr .str⟩
  ·exact p.elim
 ·cases r with
  | cons r t=>
   cases r; cases t;obtain⟨u,rfl,ru⟩:=vals1 rv;cases ru;exact PySem.P.str_of_bool ⟨.str _,H,I.tok _,⟨_,rfl⟩,p.ret hr .str⟩
 ·exact p.elim
end
section
variable {X:Cx}{a0:Addr}{k n i:Nat}{p g:Addr}{mc:Value}{C m x:Jh}{gA:List AV→List AV→List AV}{gg:AC}{pos apos np:Pos}{kws:List Keyword}{ks:List Jh}
theorem FnAt.runC{f:Addr}{mm:Nat}(F:FnAt X a0 k f n gg mm ks gA)(hr:Rm k X.A){pins:List (Addr×Obj)}{σ:KJ}{H:Hp}{s:Shared}{Q:VK}{us ws:List Value}{vs zs:List V}(I:Inv X pins σ H s)(r:Vals vs us)(rz:Vals zs ws)
  {μ:List Addr} {as bs:List AV} {ah:AH} (R:HR (Cx.wd X a0) μ ah H) (ra:aV (Cx.wd X a0) μ H as vs) (rb:aV (Cx.wd X a0) μ H bs zs) (q:bh (Cx.wd X a0) μ H (aL n mm ks gA gg as bs ah) Q) :
  codeAny (model X.prog X.w) X.A (.call (.ref f) ⟨us,ks.zip ws⟩) (fun r s'=>match r with | .ok (.ret v)=>EP X pins σ Q v s' | .ok _=>False | .error e=>X.xe e s') s:=by
 obtain⟨fd,ps,F,gv,gV,hb,hrel⟩:=F;unfold aL at q;split at q
 ·rename_i l1;split at q
  ·rename_i l2;split at q
   ·rename_i l3;have bound:=hb.to s us ws I.kIn (r.length.symm.trans (ra.length ▸ l1)) (rz.length.symm.trans (rb.length ▸ l2));refine codeAny_mono (F.run X.A X.stack s H _ _ _ Q (fun _ _ _=>False) hr I.env0 bound (hb.rel r rz) ⟨μ,_,ah,l3,R,hrel _ _ _ _ _ _ ra rb,q⟩) ?_
    rintro(e | fl) s' hq
    ·exact pass0 pins σ H s e s' I hq
    ·cases fl<;>first | exact I.after hq | exact JQ hq
   ·exact q.elim
  ·exact q.elim
 ·exact q.elim
def lu(C:Jh)(n:Nat)(gA:List AV→List AV→List AV)(g:AC):AE:=fun _ h=>aL n 1 [] gA g [.glo C] [] h
theorem CW {pl:Sem Bool} (r:Mv X.K (Jo X.K C) mc) (c:MO X.K (Jo X.K C) mc m p g) (F:FnAt X a0 k g n gg 1 [] gA) (hr:Rm k X.A) (hg:Gl X C) (hm:X.mg C=some (.ref (Jo X.K C))) (hd:(C == ("__debug__" : Jh))=false)
  (ht:eval (.Call (.Attribute (.Name C np) m apos) [] [] pos) X.env=(do
   let ov ← eval (.Name C np) X.env
   standAt apos.atName
   let (f,first) ← holding [ov] (getMethod ov m pl)
   callWith pos f first (backTo pos (starEach [] X.env)) (backToKw pos (keywordEach [] X.env)))) :
  ME X a0 (.Call (.Attribute (.Name C np) m apos) [] [] pos) (lu C n gA gg):=by
 refine⟨fun pins s σ H Q I h=> ?_⟩
 obtain⟨μ,st,ah,hs,R,q⟩:=h;refine KN (pl:=pl) (ld_glob I hg hm ?_ hd) ht;refine ClX.getmethcm_ok I r c fun s2 I2=> ?_
 refine PySem.W.callWith_M0 ⟨Ni I2,I2.kIn⟩ c.fi ?_;have z:wpAny (model X.prog X.w) X.A (call (.ref s.heap.objs.size) []) (EP X ((s.heap.objs.size,JG (.ref g) (.ref (Jo X.K C)))::pins) σ Q) X.xe s2 :=
  wpAny_call (LX (Ni I2) (F.runC hr I2 (us:=[.ref (Jo X.K C)]) (ws:=[]) (vs:=[.ref (Jo X.K C)]) (zs:=[]) (.cons rfl .nil) .nil R (.cons .glo .nil) .nil q))
 exact thn z fun _ _ y=>ClX.unpinE y
def i9(i:Nat)(tab:Jh→Option bg)(fk:AL):AE:=fun s h=>match s[i]? with
 | some (some (.glo C))=>(match tab C with
  | some j=>(fk s h).bind fun zs h2=>dD C j.n j.m j.ks j.gA j.g [] zs h2
  | none=> .stuck)
 | _=> .stuck
def vJ(X:Cx)(a0:Addr)(k:Nat)(ks:List Jh)(tab:Jh→Option bg):Prop :=
 ∀ C j,tab C=some j→j.ks=ks∧j.m=1∧∃ f,Mk X.K (Jo X.K C) f∧FnAt X a0 k f j.n j.g 1 j.ks j.gA
theorem ti {tab:Jh→Option bg} {fk:AL} (T:vJ X a0 k ks tab) (hr:Rm (k+1) X.A) (hN:X.N[i]? = some x) (hv:Vis X.env.scope x) (hd:(x == ("__debug__" : Jh))=false) (hcd:(x == ("__classdict__" : Jh))=false) (hkw:MK X a0 kws fk)
  (h3:bx kws=some ks):ME X a0 (.Call (.Name x np) [] kws pos) (i9 i tab fk):=by
 refine⟨fun pins s σ H Q I h=> ?_⟩
 obtain⟨μ,st,ah,hs,R,q⟩:=h;unfold i9 at q;split at q
 ·rename_i y hy;split at q
  ·rename_i j hj;obtain⟨v,hσ,rv⟩:=hs.get hy;cases rv;obtain⟨hks,hm1,f,M,F⟩:=T y j hj;refine wpAny_Call_Name_kw (thn ((pe_var (pos:=np) hN hv hd hcd).run pins s σ H (fun v H1=>v = .ref (Jo X.K y)∧H1=H) I ⟨_,hσ,rfl,rfl⟩) fun u s0 ⟨v,H0,I0,r0,q0⟩=> ?_)
   obtain⟨rfl,rfl⟩:=q0;cases r0;obtain⟨k1,k2,k3⟩:=eO (pos:=pos) (env:=X.env) h3;refine Kf (h₀:=X.base) I0.ok.mod.kin M.kp k1 ?_ (by rw[k3]; rfl)
   have q':bh (Cx.wd X a0) μ _ ((fk st ah).bind fun zs h2=>dD y j.n j.m j.ks j.gA j.g [] zs h2) Q:=q
   refine thn (hkw.run pos pins s0 σ _ _ I0 ⟨μ,st,ah,hs,R,ag.bind q'⟩) fun ws s2 ⟨zs,H2,I2,rz,μ2,bs,h2,e2,R2,rb,q2⟩=>⟨I2.kIn, ?_⟩
   rw[k2];subst hks;rw[hm1]at q2;exact F.make M hr I2 .nil rz R2 .nil rb q2
  ·exact q.elim
 ·exact q.elim
end
end WC
namespace WC
open PySem L2
section
variable {X:Cx}{a0:Addr}
def nh:List AV→Option (List (Key×AV))
 | []=>some []
 | x::r=>match x with
  | .tup [k,v]=>(match cA k,nh r with
   | some z,some q=>some ((z,v)::q)
   | _,_=>none)
  | _=>none
theorem lM{W:Wd}{μ:List Addr}{H:Hp}:∀{xs:List AV} {ys:List V} {kvs:List (Key×AV)},aV W μ H xs ys→nh xs=some kvs→
  ∃(ps:List Addr) (ms:List (Key×V)),ys=ps.map V.ref∧Paired (fun p kv=>SqT W.K H p [kV kv.1,kv.2]) ps ms∧bj W μ H kvs ms
 | _,_,kvs,.nil,e=>by
  cases e;exact⟨[],[],rfl,.nil,.nil⟩
 | _,_,kvs,.cons (x:=x) (y:=y) r t,e=>by
  unfold nh at e;split at e
  ·rename_i k v;split at e
   ·rename_i z q h1 h2;cases e;obtain⟨ps,ms,e1,e2,e3⟩:=lM t h2;cases r with
    | @tup _ a zs ht rt=>
     cases rt with
     | cons rk rt=>
      cases rt with
      | cons rv rt=>
       cases rt;have ek:=bW rk h1;subst ek;refine⟨a::ps,(z,_)::ms,by rw[e1]; rfl,.cons ht e2,.cons rv e3⟩
   ·cases e
  ·cases e
def uE:AC:=fun as h=>match as with
 | [.ref n]=>(match h.get n with
  | some (.bA xs)=> .ok (.ref h.n) (h.push (.bA xs))
  | some (.lst ys)=>(match nh ys with
   | some kvs=> .ok (.ref h.n) (h.push (.bA (iQ [] kvs)))
   | none=> .stuck)
  | _=> .stuck)
 | _=> .stuck
theorem zp (hc:X.calm=true):CallR X (.type "dict") (dJ (Cx.wd X a0) uE):=dG (CallR.or call_dictD (call_dictP hc)) fun xs H Q ⟨μ,as,ah,hr,r,p⟩=>by
 unfold uE at p;split at p
 ·split at p
  ·rename_i ys hg;cases r with
   | cons r t=>
    cases t;obtain⟨a,zs,rfl,_,h1,r1⟩:=hr.bA hg r;exact .inl ⟨_,_,rfl,.inl h1,fun l hl=>nU hr r1 p hl⟩
  ·rename_i ys hg;split at p
   ·rename_i kvs hk;cases r with
    | cons r t=>
     cases t;obtain⟨a,zs,rfl,_,h1,r1⟩:=hr.lst hg r;obtain⟨ps,ms,rfl,e2,e3⟩:=lM r1 hk;exact .inr ⟨_,ps,ms,rfl,.of h1,e2,fun l hl=>nU hr (bj.merge e3 .nil) p hl⟩
   ·exact p.elim
  ·exact p.elim
 ·exact p.elim
end
inductive BC where
 | len | all | any | max | min | abs | int | list | tuple | dict | isi | repr | sum | sorted | str
 deriving DecidableEq,Repr,Inhabited
inductive SM where
 | split | join | lstrip | count
 deriving DecidableEq,Repr,Inhabited
inductive IX where
 | c (v:AV)
 | v (i:Nat)
 | bin (o:Operator) (a b:IX)
 | cmp (o:CmpOp) (a b:IX)
 | chain (o o':CmpOp) (a b c:IX)
 | and (a b:IX)
 | or (a b:IX)
 | one (a:IX)
 | not (a:IX)
 | ife (c a b:IX)
 | tup (xs:List IX)
 | lst (xs:List IX)
 | star (x:IX)
 | ix (a b:IX)
 | sl (a:IX) (lo hi:Option IX)
 | fld (a:IX) (name:Str)
 | call (i n m:Nat) (ks:List Str) (d:List AV) (as zs:List IX)
 | make (C:Str) (i n m:Nat) (ks:List Str) (d:List AV) (as zs:List IX)
 | meth (mth:Str) (tb:List (Str×(Nat×Nat×Nat×List AV))) (ks:List Str) (o:IX) (as zs:List IX)
 | bc (b:BC) (as:List IX)
 | app (o:IX) (as:List IX)
 | extd (o:IX) (as:List IX)
 | lidx (o:IX) (as:List IX)
 | prop (a:IX) (name:Str) (tb:List (Str×(Nat×Nat×Nat×List AV)))
 | pop0 (o:IX)
 | pop (o a:IX)
 | get1 (o a:IX)
 | get2 (o a b:IX)
 | items (o:IX)
 | dnew
 | dsp (ks vs:List IX)
 | lc (lk:Option IX) (it tg:IX) (ifs:List IX) (elt:IX) (vs:List Nat)
 | lc2 (it tg:IX) (ifs:List IX) (it1 tg1:IX) (ifs1:List IX) (elt:IX) (vs vs1:List Nat)
 | dc (lk:Option IX) (it tg:IX) (ifs:List IX) (k v:IX) (vs:List Nat)
 | lenSet (it tg:IX) (ifs:List IX) (elt:IX) (vs:List Nat)
 | eg (a:IX)
 | isiO (cl:List (Str×List Str)) (as:List IX)
 | eqO (neg:Bool) (cl:List (Str×List Str)) (tb:List (Str×(Nat×Nat×Nat×List AV))) (a b:IX)
 | rev (a:IX)
 | ownC (r:Bool) (tb:List (Str×(Nat×Nat×Nat×List AV))) (as:List IX)
 | clr (o:IX)
 | cm0 (C:Str) (i n:Nat) (d:List AV)
 | makeL (j:Nat) (ks:List Str) (tb:List (Str×(Nat×Nat×Nat×List AV))) (zs:List IX)
 | rvs (o:IX)
 | dupd (o:IX) (as:List IX)
 | iVal (a:IX)
 | iItems (a:IX)
 | iVals (a:IX)
 | iKys (a:IX)
 | iNam (a:IX)
 | iRng1 (as:List IX)
 | iRng2 (as:List IX)
 | iEnum (as:List IX)
 | iZip (as:List IX)
 | sS (as:List IX)
 | gName (i:Nat)
 | gTup (n:Nat) (ts:List IX)
 | r5 (i after:Nat) (ts:List IX)
 | gSub (a b:IX)
 | gFld (a:IX) (name:Str)
 | callL (i m:Nat) (ks:List Str) (tb:List (Str×(Nat×Nat×Nat×List AV))) (as zs:List IX)
 | sm (k:SM) (o:IX) (as:List IX)
 | fmt (a:IX)
 | fstr (ps:List IX)
 | bad
 deriving Inhabited
inductive IS where
 | exp (e:IX)
 | ret (e:IX)
 | retN
 | pass
 | brk
 | cont
 | ifs (c:IX) (a b:List IS)
 | for_ (lk:Option IX) (tg it:IX) (body:List IS)
 | while_ (c:IX) (body:List IS)
 | asg (tg e:IX)
 | setLc (i:Nat) (it tg:IX) (ifs:List IX) (elt:IX) (vs:List Nat)
 | setLc2 (i:Nat) (it tg:IX) (ifs:List IX) (it1 tg1:IX) (ifs1:List IX) (elt:IX) (vs vs1:List Nat)
 | aug (i:Nat) (e:IX)
 | par2 (i j:Nat) (as:List IX)
 | par3 (i j l:Nat) (as:List IX)
 | augM (i:Nat) (e:IX)
 | augF (o e:IX) (name:Str)
 | drop2 (tg o:IX) (a b:Str)
 | sup (C:Str) (i n m:Nat) (d:List AV) (as:List IX)
 | no
 deriving Inhabited
def yw(C:Str)(n m:Nat)(gA:List AV→List AV→List AV)(g:AC)(fa:AL):AS:=fun(s:az) (h:AH)=>match (s[0]?:Option (Option AV))with
 | some (some (AV.ref r))=>(match h.get r with
  | some (.ins D _)=>if D=C then(fa s h).bind fun as h1=>(aL n m [] gA g (.ref r::as) [] h1).bind fun _ h2=> .ok (.nx s) h2 else .stuck
  | _=> .stuck)
 | _=> .stuck
structure Env0 where
 gc:Nat→AC
 gm:Nat→AC
 no:Str→Str→Bool
 tab:eX
 lim:Nat
structure Rn where
 e:IX→AE
 t:IX→AT
 i:IX→az→AH→Ex AI
 g:IX→AG
def Rn.stuck:Rn:=⟨fun _ _ _=> .stuck,fun _ _ _=> .stuck,fun _ _ _=> .stuck,fun _ _ _ _=> .stuck⟩
def bR(e:IX→AE):List IX→AL
 | []=>fun _ h=> .ok [] h
 | .star x::r=>wj (e x) (bR e r)
 | x::r=>ae (e x) (bR e r)
def gy(t:IX→AT):List IX→AT
 | []=>fun _ h=> .ok true h
 | [x]=>t x
 | _=>fun _ _=> .stuck
def sD(g:IX→AG):List IX→r9
 | []=>mf
 | x::r=>dM (g x) (sD g r)
def Bw(e:IX→AE):Option IX→AP
 | none=>fun _ h=> .ok none h
 | some x=>uX (e x)
def aA(d:List AV)(vs zs:List AV):List AV:=vs++zs++d
def wq(zs:List AV)(e:AV):List AV:=match e with
 | .ref i=>(zs.drop i).take 1
 | v=>[v]
def fG(es:List AV)(vs zs:List AV):List AV:=vs++es.flatMap (wq zs)
def cR(d:List AV):List AV→List AV→List AV:=match d with
 | .scr::es=>fG es
 | d=>aA d
def FA:Operator→dF
 | .Add=>dh
 | .Sub=>Bl
 | .Mult=>jC
 | .FloorDiv=>jW
 | .Mod=>jG
 | .Pow=>ki
 | .LShift=>Ei
 | .RShift=>zo
 | _=>fun _ _ _=> .stuck
def zB(tab:eX):CmpOp→dF
 | .Eq=>d4
 | .NotEq=>cC
 | .Lt=>zC
 | .LtE=>F3
 | .Gt=>zh
 | .GtE=>F4
 | .Is=>F1
 | .IsNot=>mR
 | .In=>pL tab false Hx
 | .NotIn=>pL tab true qr
def II:BC→AC
 | .len=>jA
 | .all=>Fj
 | .any=>Fc
 | .max=>xU
 | .min=>uH
 | .abs=>qo
 | .int=>u3
 | .list=>sM
 | .tuple=>k8
 | .dict=>uE
 | .isi=>wh
 | .repr=>dg
 | .sum=>Bi
 | .sorted=>mL
 | .str=>lY
def Ir:SM→AM
 | .split=>pO
 | .join=>lV
 | .lstrip=>nu
 | .count=>qN
def bz(E:Env0)(ks:List Str)(tb:List (Str×(Nat×Nat×Nat×List AV)))(C:Str):Option bg:=match tb.lookup C with
 | some (i,n,m,d)=>some ⟨n,m,ks,cR d,E.gc i⟩
 | none=>none
def methP(E:Env0)(tb:List (Str×(Nat×Nat×Nat×List AV)))(C:Str):Option bg:=match tb.lookup C with
 | some (i,n,m,d)=>some ⟨n,m,[],cR d,E.gm i⟩
 | none=>none
def mC(E:Env0)(ks:List Str)(tb:List (Str×(Nat×Nat×Nat×List AV)))(C:Str):Option bg:=match tb.lookup C with
 | some (i,n,m,d)=>some ⟨n,m,ks,cR d,E.gm i⟩
 | none=>none
def HF(e:IX→AE)(lk:Option IX):az→AH→Option Nat:=fun s h=>match lk with
 | some x=>(match e x s h with
  | .ok (.ref n) _=>(match h.get n with
   | some (.bA _)=>some n
   | _=>none)
  | _=>none)
 | none=>none
def vt(f g:AE):AE:=fun s h=>match f s h with
 | .ok v h1=>if cJ v h1=true then(mJ f cJ (ae g vH) qC s h)else AU f g s h
 | .stuck=> .stuck
def uP(f:AE):AE:=fun s h=>match f s h with
 | .ok v h1=>if cJ v h1=true then mJ f cJ (fun _ h=> .ok [] h) vf s h else mJ f rA (fun _ h=> .ok [] h) uV s h
 | .stuck=> .stuck
def bG(E:Env0)(R:Rn):IX→AE
 | .c v=>fun _ h=> .ok v h
 | .v i=>af i
 | .bin o a b=>aq (R.e a) (R.e b) (FA o)
 | .cmp o a b=>aq (R.e a) (R.e b) (zB E.tab o)
 | .chain o o' a b c=>kS (R.e a) (R.e b) (R.e c) (zB E.tab o) (zB E.tab o')
 | .and a b=>uK (R.e a) (R.e b)
 | .or a b=>Dc (R.e a) (R.e b)
 | .one a=>R.e a
 | .not a=>uZ (R.e a)
 | .ife c a b=>gj (R.t c) (R.e a) (R.e b)
 | .tup xs=>fun s h=>(bR R.e xs s h).bind gn
 | .lst xs=>fun s h=>(bR R.e xs s h).bind df
 | .ix a b=>aq (R.e a) (R.e b) (c7 E.tab di)
 | .sl a lo hi=>GD (R.e a) (Bw R.e lo) (Bw R.e hi)
 | .fld a name=>fun s h=>(R.e a s h).bind (bT name E.no)
 | .call i n m ks d as zs=>aF n m ks (cR d) (E.gc i) (bR R.e as) (bR R.e zs)
 | .make C i n m ks d as zs=>bC C n m ks (cR d) (E.gm i) (bR R.e as) (bR R.e zs)
 | .meth mth tb ks o as zs=>eR mth (bz E ks tb) (R.e o) (bR R.e as) (bR R.e zs)
 | .bc b as=>fun s h=>(bR R.e as s h).bind (II b)
 | .callL i m ks tb as zs=>kg i (bz E ks tb) (bR R.e as) (bR R.e zs)
 | .sm k o as=>mJ (R.e o) isStr (bR R.e as) (Ir k)
 | .fmt a=>eS (R.e a)
 | .fstr ps=>jl (ps.map R.e)
 | .app o as=>mJ (R.e o) cJ (bR R.e as) iJ
 | .extd o as=>mJ (R.e o) cJ (bR R.e as) eZ
 | .lidx o as=>mJ (R.e o) cJ (bR R.e as) pW
 | .prop a name tb=>dz name (methP E tb) E.no (R.e a)
 | .pop0 o=>mJ (R.e o) cJ (fun _ h=> .ok [] h) wo
 | .pop o a=>vt (R.e o) (R.e a)
 | .get1 o a=>uo (R.e o) (R.e a)
 | .get2 o a b=>xw (R.e o) (R.e a) (R.e b)
 | .items o=>Iw (R.e o)
 | .dnew=>fun _ h=> .ok (.ref h.n) (h.push (.bA []))
 | .dsp ks vs=>AX ((ks.zip vs).map fun p=>(R.e p.1,R.e p.2))
 | .lc lk it tg ifs elt vs=>eG (HF R.e lk) (pM E.lim (R.i it) (R.g tg) (gy R.t ifs) (R.e elt) vs)
 | .lc2 it tg ifs it1 tg1 ifs1 elt vs vs1=>vW E.lim (R.i it) (R.g tg) (gy R.t ifs) (R.i it1) (R.g tg1) (gy R.t ifs1) (R.e elt) vs vs1
 | .dc lk it tg ifs k v vs=>eG (HF R.e lk) (Gp E.lim (R.i it) (R.g tg) (gy R.t ifs) (R.e k) (R.e v) vs)
 | .eg a=>pC (R.e a)
 | .isiO cl as=>fun s h=>(bR R.e as s h).bind (oV cl)
 | .eqO neg cl tb a b=>aq (R.e a) (R.e b) (cB neg cl (if neg=true then methP E tb else bz E [] tb))
 | .rev a=>A6 (R.e a)
 | .ownC r tb as=>fun s h=>(bR R.e as s h).bind (nI r (methP E tb))
 | .clr o=>uP (R.e o)
 | .cm0 C i n d=>lu C n (cR d) (E.gc i)
 | .makeL j ks tb zs=>i9 j (mC E ks tb) (bR R.e zs)
 | .rvs o=>mJ (R.e o) cJ (fun _ h=> .ok [] h) BO
 | .dupd o as=>mJ (R.e o) rA (bR R.e as) B1
 | .lenSet it tg ifs elt vs=>mU E.lim (R.i it) (R.g tg) (gy R.t ifs) (R.e elt) vs
 | _=>fun _ _=> .stuck
def stepT(E:Env0)(R:Rn):IX→AT
 | .and a b=>xO (R.t a) (R.t b)
 | .or a b=>fH (R.t a) (R.t b)
 | .one a=>R.t a
 | .not a=>k6 (R.t a)
 | .ife c a b=>Bz (R.t c) (R.t a) (R.t b)
 | .cmp o a b=>fun s h=>qz (bG E R (.cmp o a b) s h)
 | .chain o o' a b c=>fun s h=>qz (bG E R (.chain o o' a b c) s h)
 | .eqO n cl tb a b=>fun s h=>qz (bG E R (.eqO n cl tb a b) s h)
 | x=>fun s h=>yj (bG E R x s h)
def stepI(E:Env0)(R:Rn):IX→az→AH→Ex AI
 | .iVal a=>iD (R.e a)
 | .iItems a=>wy (R.e a)
 | .iVals a=>A2 (R.e a)
 | .iKys a=>xF (R.e a)
 | .iNam a=>qL (R.e a)
 | .iRng1 as=>fun s h=>(bR R.e as s h).bind eT
 | .iRng2 as=>fun s h=>(bR R.e as s h).bind BN
 | .iEnum as=>fun s h=>(bR R.e as s h).bind CP
 | .iZip as=>fun s h=>(bR R.e as s h).bind Bs
 | .sS as=>fun s h=>(bR R.e as s h).bind Dk
 | _=>fun _ _=> .stuck
def AW(E:Env0)(R:Rn):IX→AG
 | .gName i=>aD i
 | .gTup n ts=>lP n (sD R.g ts)
 | .r5 i after ts=>pZ i after (sD R.g ts)
 | .gSub a b=>pB (R.e a) (R.e b)
 | .gFld a name=>jt (R.e a) name E.no
 | _=>fun _ _ _=> .stuck
def step(E:Env0)(R:Rn):Rn:=⟨bG E R,stepT E R,stepI E R,AW E R⟩
def qM(E:Env0):Nat→Rn
 | 0=>Rn.stuck
 | n+1=>step E (qM E n)
def eP(s:IS→AS):List IS→AS
 | []=>fun s h=> .ok (.nx s) h
 | x::r=>ax (s x) (eP s r)
def oh(E:Env0)(R:Rn)(S:IS→AS):IS→AS
 | .exp e=>fun s h=>(R.e e s h).bind fun _ h1=> .ok (.nx s) h1
 | .ret e=>fun s h=>(R.e e s h).bind fun v h1=> .ok (.rt v) h1
 | .retN=>fun s h=> .ok (.rt .non) h
 | .pass=>fun s h=> .ok (.nx s) h
 | .brk=>fun s h=> .ok (.bk s) h
 | .cont=>fun s h=> .ok (.ct s) h
 | .ifs c a b=>cO (R.t c) (eP S a) (eP S b)
 | .for_ lk tg it body=>fI (HF R.e lk) (lF E.lim (R.i it) (R.g tg) (eP S body))
 | .while_ c body=>gM (R.t c) (eP S body) E.lim
 | .asg tg e=>bZ (R.e e) (R.g tg)
 | .setLc i it tg ifs elt vs=>bZ (pM E.lim (R.i it) (R.g tg) (gy R.t ifs) (R.e elt) vs) (aD i)
 | .setLc2 i it tg ifs it1 tg1 ifs1 elt vs vs1=>bZ (vW E.lim (R.i it) (R.g tg) (gy R.t ifs) (R.i it1) (R.g tg1) (gy R.t ifs1) (R.e elt) vs vs1) (aD i)
 | .aug i e=>uB i (R.e e) fun a b=>a+b
 | .par2 i j as=>l6 i j (bR R.e as)
 | .par3 i j l as=>A8 i j l (bR R.e as)
 | .augM i e=>wu i (R.e e)
 | .augF o e name=>AN (R.e o) name E.no (R.e e)
 | .drop2 tg o a b=>bZ (oY (oY (R.e o) a) b) (R.g tg)
 | .sup C i n m d as=>yw C n m (cR d) (E.gc i) (bR R.e as)
 | .no=>fun _ _=> .stuck
def uc(E:Env0)(R:Rn):Nat→IS→AS
 | 0=>fun _ _ _=> .stuck
 | n+1=>oh E R (uc E R n)
def ei(r:Ex Fl):Ex AV:=match r with
 | .ok (.nx _) h=> .ok .non h
 | .ok (.rt v) h=> .ok v h
 | _=> .stuck
structure FI where
 n:Nat
 sz:Nat
 body:List IS
structure Prog where
 fns:List FI
 no:Str→Str→Bool
 tab:eX
def DX:Nat:=64
def aE:Nat:=100000
def Prog.body(P:Prog)(gc gm:Nat→AC)(i:Nat):AC:=fun as h=>match P.fns[i]? with
 | some F=>ei (eP (uc ⟨gc,gm,P.no,P.tab,aE⟩ (qM ⟨gc,gm,P.no,P.tab,aE⟩ DX) DX) F.body (as.map some++Ju (F.sz - as.length) none) h)
 | none=> .stuck
def Prog.two(P:Prog):Nat→(Nat→AC)×(Nat→AC)
 | 0=>(fun _ _ _=> .stuck,fun _ _ _=> .stuck)
 | k+1=>(P.body (P.two k).1 (P.two k).2,(P.two k).1)
structure Ct where
 sc:Scope
 fn:Str→Bool
structure eV where
 N:List Str
 glob:Str→Option AV
 free:Str→Bool
 fix:Str→Option Nat
 cix:Str→Option Nat
 mth:Str→List (Str×Nat)
 prp:Str→List (Str×Nat)
 shape:Nat→Nat→List Str→Option (Nat×List AV)
 vals:List Str
 dj:List (Str×List Str)
 cm:Str→List (Str×Nat)
structure Cm where
 e:Ct→Expr→Option IX
 i:Ct→Expr→Expr→Option IX
 g:Ct→Expr→Option (IX×List Nat)
def Cm.none:Cm:=⟨fun _ _=>KU,fun _ _ _=>KU,fun _ _=>KU⟩
def idxOf(x:Str):List Str→Nat→Option Nat
 | [],_=>none
 | y::r,i=>if y=x then some i else idxOf x r (i+1)
def fV(x:Str):Bool:=(x == ("__debug__" : Str)) || (x == ("__classdict__" : Str))
def fu(P:eV)(C:Ct)(x:Str):Option IX:=if fV x=true then none else match C.sc.names.lookup x with
 | some .local=>(idxOf x P.N 0).map .v
 | some .cell=>(idxOf x P.N 0).map .v
 | some .free=>(idxOf x P.N 0).map .v
 | some .globalImplicit=>(match P.glob x with
  | some v=>some (.c v)
  | none=>if P.free x=true then(match bootBuiltins x with
   | some (.type T)=>if x=("__name__" : Str)then none else some (.c (.ty T))
   | _=>none)else none)
 | _=>none
def dI(C:Ct)(x:Str):Bool:=decide (C.sc.names.lookup x=some .globalImplicit)
def bN(e:Expr→Option IX):List Expr→Option (List IX)
 | []=>some []
 | .Starred x _::r=>(match e x,bN e r with
  | some a,some b=>some (.star a::b)
  | _,_=>none)
 | x::r=>(match e x,bN e r with
  | some a,some b=>some (a::b)
  | _,_=>none)
def kD(e:Expr→Option IX):List Keyword→Option (List IX)
 | []=>some []
 | ⟨some _,x,_⟩::r=>(match e x,kD e r with
  | some a,some b=>some (a::b)
  | _,_=>none)
 | _=>none
def oQ(e:Expr→Option IX):List Expr→Option (List IX)
 | []=>some []
 | [x]=>(e x).map fun a=>[a]
 | _=>none
def iV(g:Expr→Option (IX×List Nat)):List Expr→Option (List IX×List Nat)
 | []=>some ([],[])
 | .Starred x _::r=>(match g x,iV g r with
  | some (a,is),some (b,js)=>some (a::b,is++js)
  | _,_=>none)
 | x::r=>(match g x,iV g r with
  | some (a,is),some (b,js)=>some (a::b,is++js)
  | _,_=>none)
def lD(x:Str):Option (BC×Bool×String) :=
 if x=("len" : Str)then some (.len,false, "len")else
 if x=("all" : Str)then some (.all,false, "all")else
 if x=("any" : Str)then some (.any,false, "any")else
 if x=("max" : Str)then some (.max,false, "max")else
 if x=("min" : Str)then some (.min,false, "min")else
 if x=("abs" : Str)then some (.abs,false, "abs")else
 if x=("int" : Str)then some (.int,true, "int")else
 if x=("list" : Str)then some (.list,true, "list")else
 if x=("tuple" : Str)then some (.tuple,true, "tuple")else
 if x=("dict" : Str)then some (.dict,true, "dict")else
 if x=("isinstance" : Str)then some (.isi,false, "isinstance")else
 if x=("repr" : Str)then some (.repr,false, "repr")else
 if x=("sum" : Str)then some (.sum,false, "sum")else
 if x=("sorted" : Str)then some (.sorted,false, "sorted")else
 if x=("str" : Str)then some (.str,true, "str")else none
def ownOf(N:List Str):List (Str×NameKind)→List (Str×Nat)
 | []=>[]
 | (x,k)::r=>(match k with
  | .local=>(match idxOf x N 0 with
   | some i=>(x,i)::ownOf N r
   | none=>ownOf N r)
  | .cell=>(match idxOf x N 0 with
   | some i=>(x,i)::ownOf N r
   | none=>ownOf N r)
  | _=>ownOf N r)
def cY(C:Ct)(scope:Scope):Ct:=⟨relS scope C.sc,fun x=>scope.names.lookup x == some .cell⟩
def subB(is vs:List Nat):Bool:=is.all fun i=>vs.contains i
def bQ(P:eV)(m:Nat)(ks:List Str):List (Str×Nat)→Option (List (Str×(Nat×Nat×Nat×List AV)))
 | []=>some []
 | (C,i)::r=>(match P.shape i m ks,bQ P m ks r with
  | some (n,d),some b=>some ((C,(i,n,m,d))::b)
  | none,some b=>some b
  | _,none=>none)
def hU(P:eV)(m:Nat)(ks:List Str):List Str→List (Str×(Nat×Nat×Nat×List AV))
 | []=>[]
 | x::r=>(match P.fix x with
  | some i=>(match P.shape i m ks with
   | some (n,d)=>(x,(i,n,m,d))::hU P m ks r
   | none=>hU P m ks r)
  | none=>hU P m ks r)
def sL(C:Ct)(x:Str):Bool:=decide (C.sc.names.lookup x=some .local) || decide (C.sc.names.lookup x=some .cell) || decide (C.sc.names.lookup x=some .free)
def dr(P:eV)(M:Cm)(C:Ct)(x:Str)(args:List Expr)(kws:List Keyword):Option IX :=
 if fV x=true then none else if sL C x=true then(if args.all noStar=true then(match bx kws,idxOf x P.N 0 with
  | some ks,some i=>(match bN (M.e C) args,kD (M.e C) kws with
   | some as,some zs=>some (.callL i args.length ks (hU P args.length ks P.vals) as zs)
   | _,_=>none)
  | _,_=>none)else none)else none
def gZ(P:eV)(ks:List Str):List Str→List (Str×(Nat×Nat×Nat×List AV))
 | []=>[]
 | x::r=>(match P.cix x with
  | some i=>(match P.shape i 1 ks with
   | some (n,d)=>(x,(i,n,1,d))::gZ P ks r
   | none=>gZ P ks r)
  | none=>gZ P ks r)
def fP(P:eV)(M:Cm)(C:Ct)(x:Str)(args:List Expr)(kws:List Keyword):Option IX :=
 if x=("cls" : Str)then(if sL C x=true then(match args,bx kws,idxOf x P.N 0 with
  | [],some ks,some i=>(match kD (M.e C) kws with
   | some zs=>some (.makeL i ks (gZ P ks (P.dj.map (·.1))) zs)
   | none=>none)
  | _,_,_=>none)else none)else none
def iT(P:eV)(C:Ct)(o:Expr)(m:Str)(apos:Pos)(args:List Expr)(kws:List Keyword)(pos:Pos):Option IX:=match o,args,kws with
 | .Name x _,[],[]=>if fV x=true then none else(if dI C x=true then(if aU apos pos=true then(match (P.cm m).lookup x with
  | some i=>(match P.shape i 1 []with
   | some (n,d)=>some (.cm0 x i n d)
   | none=>none)
  | none=>none)else none)else none)
 | _,_,_=>none
def C3(m:Str):Option SM :=
 if m=("split" : Str)then some .split else
 if m=("join" : Str)then some .join else
 if m=("lstrip" : Str)then some .lstrip else
 if m=("count" : Str)then some .count else none
def zI:IX→Option IX
 | .iItems a=>some a
 | .iVals a=>some a
 | .iNam a=>some a
 | _=>none
def HY:Expr→Bool
 | .Name x _=>decide (x=("_law_children_here" : Str))
 | _=>false
def zL:Expr→Bool
 | .Name x _=>decide (x=("_law_run" : Str)) || decide (x=("_law_book" : Str)) || decide (x=("_law_rule_here" : Str))
 | .Call (.Attribute (.Name x _) m _) _ _ _=>decide (x=("_law_run" : Str)) && decide (m=("copy" : Str)) || decide (x=("Rule" : Str))
 | .Call (.Name x _) _ _ _=>decide (x=("Rule" : Str)) || decide (x=("_law_rule" : Str))
 | _=>false
def iZ(P:eV)(b:BC)(args:List Expr)(as:List IX):IX:=match b,args with
 | .isi,[_,.Name x _]=>(match P.glob x with
  | some (.glo _)=> .isiO P.dj as
  | _=> .bc b as)
 | .repr,[e]=>if zL e=true then(match bQ P 1 [] (P.mth "__repr__")with
  | some (r::t)=> .ownC true (r::t) as
  | _=> .bc b as)else .bc b as
 | .len,[e]=>if zL e=true then(match bQ P 1 [] (P.mth "__len__")with
  | some (r::t)=> .ownC false (r::t) as
  | _=> .bc b as)else .bc b as
 | _,_=> .bc b as
def cS(P:eV)(M:Cm)(C:Ct)(x:Str)(args:List Expr)(kws:List Keyword):Option IX :=
 if fV x=true then none else if dI C x=true then(if args.all noStar=true then(match bx kws with
  | some ks=>(match bN (M.e C) args,kD (M.e C) kws with
   | some as,some zs=>(match P.fix x with
    | some i=>(match P.shape i args.length ks with
     | some (n,d)=>some (.call i n args.length ks d as zs)
     | none=>none)
    | none=>(match P.cix x with
     | some i=>(match P.shape i (args.length+1) ks with
      | some (n,d)=>some (.make x i n (args.length+1) ks d as zs)
      | none=>none)
     | none=>if P.free x=true then(match lD x,kws,args with
      | some (b,_),[],_::_=>some (iZ P b args as)
      | _,_,_=>none)else none))
   | _,_=>none)
  | none=>none)else none)else none
def gQ(m:Str)(args:List Expr)(kws:List Keyword)(a:IX)(as:List IX):Option IX :=
 if m=("append" : Str)then(match kws,args with
  | [],[_]=>some (.app a as)
  | _,_=>none)
 else if m=("extend" : Str)then(match kws,args with
  | [],[_]=>some (.extd a as)
  | _,_=>none)
 else if m=("pop" : Str)then(match kws,args,as with
  | [],[],_=>some (.pop0 a)
  | [],[_],[b]=>some (.pop a b)
  | _,_,_=>none)
 else if m=("get" : Str)then(match kws,args,as with
  | [],[_],[b]=>some (.get1 a b)
  | [],[_,_],[b,c]=>some (.get2 a b c)
  | _,_,_=>none)
 else if m=("index" : Str)then(match kws,args with
  | [],[_]=>some (.lidx a as)
  | _,_=>none)
 else if m=("update" : Str)then(match kws,args with
  | [],[_]=>some (.dupd a as)
  | _,_=>none)
 else if m=("clear" : Str)then(match kws,args with
  | [],[]=>some (.clr a)
  | _,_=>none)
 else if m=("reverse" : Str)then(match kws,args with
  | [],[]=>some (.rvs a)
  | _,_=>none)
 else(match C3 m,kws,args with
  | some k,[],[_]=>some (.sm k a as)
  | _,_,_=>none)
def d5(P:eV)(M:Cm)(C:Ct)(o:Expr)(m:Str)(apos:Pos)(args:List Expr)(kws:List Keyword)(pos:Pos):Option IX :=
 if aC o=true then(if args.all noStar=true then(if dS args kws=true then(if aU apos pos=true then(match bx kws with
  | some ks=>(match M.e C o,bN (M.e C) args,kD (M.e C) kws with
   | some a,some as,some zs=>(match P.mth m with
    | []=>gQ m args kws a as
    | row=>(match bQ P (args.length+1) ks row with
     | some tb=>some (.meth m tb ks a as zs)
     | none=>none))
   | _,_,_=>none)
  | none=>none)else none)else none)else none)else none
def nD(e:Expr→Option IX):Option Expr→Option (Option IX)
 | none=>some none
 | some x=>(e x).map some
def du(P:eV)(M:Cm)(C:Ct)(tg iter:Expr)(ifs:List Expr)(scope:Scope):Option (IX×IX×List IX×List Nat) :=
 if ck iter=true then(if blkC P.N C.sc scope (ownOf P.N scope.names)=true then(match M.i C tg iter,M.g (cY C scope) tg,oQ (M.e (cY C scope)) ifs with
  | some it,some (g,is),some ts=>if subB is ((ownOf P.N scope.names).map (·.2))=true then some (it,g,ts,(ownOf P.N scope.names).map (·.2))else none
  | _,_,_=>none)else none)else none
def fN:Const→Option IX
 | .int i=>some (.c (.int i))
 | .str i=>some (.c (.str i))
 | .bool i=>some (.c (.bl i))
 | .none=>some (.c .non)
 | _=>none
def kZ(M:Cm)(C:Ct):UnaryOp→Expr→Option IX
 | .USub,.Constant (.int i) _ _=>some (.c (.int (-i)))
 | .Not,a=>(M.e C a).map .not
 | _,_=>none
def fO(P:eV)(op:CmpOp)(a b:Expr)(x y:IX):IX:=if (zL a || zL b)=true then(match op,bQ P 2 [] (P.mth "__eq__")with
 | .Eq,some (r::t)=> .eqO false P.dj (r::t) x y
 | .NotEq,some (r::t)=> .eqO true P.dj (r::t) x y
 | _,_=> .cmp op x y)else .cmp op x y
def iB(P:eV)(M:Cm)(C:Ct)(a:Expr):List CmpOp→List Expr→Option IX
 | [op],[b]=>if behindInMarks op b=true then none else(match M.e C a,M.e C b with
  | some x,some y=>some (fO P op a b x y)
  | _,_=>none)
 | [op,op'],[b,c]=>if lastMarks [op,op'] [b,c]=true then none else(match M.e C a,M.e C b,M.e C c with
  | some x,some y,some z=>some (.chain op op' x y z)
  | _,_,_=>none)
 | _,_=>none
def j6(M:Cm)(C:Ct)(op:BoolOp)(pos:Pos):List Expr→Option IX
 | [a]=>(M.e C a).map .one
 | a::b::r=>(match M.e C a,M.e C (.BoolOp op (b::r) pos)with
  | some x,some y=>some (match op with
   | .And=> .and x y
   | .Or=> .or x y)
  | _,_=>none)
 | []=>none
def iA(M:Cm)(C:Ct)(a:Expr):Expr→Option IX
 | .Slice lo hi none _=>(match M.e C a,nD (M.e C) lo,nD (M.e C) hi with
  | some x,some y,some z=>some (.sl x y z)
  | _,_,_=>none)
 | .Slice none none (some (.UnaryOp .USub (.Constant (.int 1) _ _) _)) _=>(M.e C a).map .rev
 | b=>if il b=true then(match M.e C a,M.e C b with
  | some x,some y=>some (.ix x y)
  | _,_=>none)else none
def d6(P:eV)(M:Cm)(C:Ct)(f:Str):Expr→Option IX
 | .SetComp elt [⟨tg,iter,ifs,0⟩] scope _=>if f=("len" : Str)then(if dI C f=true then(if P.free f=true then(match du P M C tg iter ifs scope,M.e (cY C scope) elt with
  | some (it,g,ts,vs),some el=>some (.lenSet it g ts el vs)
  | _,_=>none)else none)else none)else none
 | .Call (.Name g _) [b] [] _=>if f=("len" : Str)∧g=("set" : Str)then(if dI C f=true then(if P.free f=true then(if dI C g=true then(if P.free g=true then(if noStar b=true then
  (M.e C b).map .eg else none)else none)else none)else none)else none)else none
 | _=>none
def iS(P:eV)(M:Cm)(C:Ct)(f:Str):Expr→Option IX
 | .Call (.Attribute o m apos) [] [] cpos=>if f=("list" : Str)∧m=("items" : Str)then(if dI C f=true then(if P.free f=true then(if aC o=true then(if aU apos cpos=true then
  (M.e C o).map .items else none)else none)else none)else none)else none
 | _=>none
def orElse'(a b:Option IX):Option IX:=match a with
 | some x=>some x
 | none=>b
def c6(P:eV)(M:Cm)(C:Ct)(f:Str):List Expr→List Keyword→Option IX
 | [a],[]=>orElse' (d6 P M C f a) (orElse' (iS P M C f a) (orElse' (dr P M C f [a] []) (cS P M C f [a] [])))
 | args,kws=>orElse' (fP P M C f args kws) (orElse' (dr P M C f args kws) (cS P M C f args kws))
def dW(P:eV)(M:Cm)(C:Ct)(args:List Expr)(kws:List Keyword)(pos:Pos):Expr→Option IX
 | .Name f _=>c6 P M C f args kws
 | .Attribute o m apos=>orElse' (iT P C o m apos args kws pos) (d5 P M C o m apos args kws pos)
 | _=>none
def gO(P:eV)(M:Cm)(C:Ct)(elt:Expr)(scope:Scope):List Comprehension→Option IX
 | [⟨tg,iter,ifs,0⟩]=>(match du P M C tg iter ifs scope,M.e (cY C scope) elt with
  | some (it,g,ts,vs),some el=>some (.lc (zI it) it g ts el vs)
  | _,_=>none)
 | [⟨tg,iter,ifs,0⟩,⟨tg1,iter1,ifs1,0⟩]=>if ck iter1=true then(match du P M C tg iter ifs scope,M.i (cY C scope) tg1 iter1,M.g (cY C scope) tg1,oQ (M.e (cY C scope)) ifs1,M.e (cY C scope) elt with
  | some (it,g,ts,vs),some it1,some (g1,is1),some ts1,some el=>if subB is1 vs=true then some (.lc2 it g ts it1 g1 ts1 el vs is1)else none
  | _,_,_,_,_=>none)else none
 | _=>none
def gE(P:eV)(M:Cm)(C:Ct)(k v:Expr)(scope:Scope):List Comprehension→Option IX
 | [⟨tg,iter,ifs,0⟩]=>(match du P M C tg iter ifs scope,M.e (cY C scope) k,M.e (cY C scope) v with
  | some (it,g,ts,vs),some x,some y=>some (.dc (zI it) it g ts x y vs)
  | _,_,_=>none)
 | _=>none
def mK(e:Expr→Option IX):List (Option Expr)→Option (List IX)
 | []=>some []
 | some x::r=>(match e x,mK e r with
  | some a,some b=>some (a::b)
  | _,_=>none)
 | none::_=>none
def fv(e:Expr→Option IX):List Expr→Option (List IX)
 | []=>some []
 | x::r=>(match e x,fv e r with
  | some a,some b=>some (a::b)
  | _,_=>none)
def c8(M:Cm)(C:Ct)(vs:List Expr):List (Option Expr)→Option IX
 | []=>if vs.isEmpty=true then some .dnew else none
 | k::ks=>if ks.length≤14 then(match mK (M.e C) (k::ks),fv (M.e C) vs with
  | some a,some b=>if a.length=b.length then some (.dsp a b)else none
  | _,_=>none)else none
def ie(e:Expr→Option IX):List Expr→Option IX
 | x::y::r=>(fv e (x::y::r)).map .fstr
 | _=>none
def kO(P:eV)(M:Cm)(C:Ct):Expr→Option IX
 | .FormattedValue a (-1) none _=>(M.e C a).map .fmt
 | .JoinedStr es _=>ie (M.e C) es
 | .Constant c _ _=>fN c
 | .Name x _=>fu P C x
 | .UnaryOp op a _=>kZ M C op a
 | .BinOp a op b _=>(match M.e C a,M.e C b with
  | some x,some y=>some (.bin op x y)
  | _,_=>none)
 | .Compare a ops bs _=>iB P M C a ops bs
 | .BoolOp op as pos=>j6 M C op pos as
 | .IfExp c a b _=>(match M.e C c,M.e C a,M.e C b with
  | some x,some y,some z=>some (.ife x y z)
  | _,_,_=>none)
 | .Tuple es _ _=>(bN (M.e C) es).map .tup
 | .List es _=>(bN (M.e C) es).map .lst
 | .Subscript a b _=>iA M C a b
 | .Attribute a name _=>if aC a=true then(match P.prp name with
  | []=>(M.e C a).map fun x=> .fld x name
  | row=>(match bQ P 1 [] row with
   | some tb=>(M.e C a).map fun x=> .prop x name tb
   | none=>none))else none
 | .Call f args kws pos=>dW P M C args kws pos f
 | .Dict ks vs _=>c8 M C vs ks
 | .ListComp elt gs scope _=>gO P M C elt scope gs
 | .DictComp k v gs scope _=>gE P M C k v scope gs
 | _=>none
def isTup:Expr→Bool
 | .Tuple .. => true
 | _=>false
def xV(P:eV)(M:Cm)(C:Ct)(tg:Expr):Expr→Option IX
 | .Call (.Name f p) args kws pos=>
  if dI C f=true then(if P.free f=true then(if args.all noStar=true then(match bN (M.e C) args with
   | some as=>(if f=("range" : Str)then(match args,kws with
     | [_],[]=>some (.iRng1 as)
     | [_,_],[]=>some (.iRng2 as)
     | _,_=>none)
    else if f=("enumerate" : Str)then(match args,kws with
     | [_],[]=>if isTup tg=true then some (.iEnum as)else none
     | _,_=>none)
    else if f=("zip" : Str)then(match args,kws with
     | [_,_],[]=>if isTup tg=true then some (.iZip as)else none
     | [_,_],[⟨some k,.Constant (.bool true) _ _,_⟩]=>if isTup tg=true∧k=("strict" : Str)then some (.sS as)else none
     | _,_=>none)
    else(M.e C (.Call (.Name f p) args kws pos)).map .iVal)
   | none=>none)else none)else(M.e C (.Call (.Name f p) args kws pos)).map .iVal)else(M.e C (.Call (.Name f p) args kws pos)).map .iVal
 | .Call (.Attribute o m apos) [] [] cpos=>
  if m=("items" : Str)then(if isTup tg=true∧aC o=true∧aU apos cpos=true then(M.e C o).map .iItems else none)
  else if m=("values" : Str)then(if aC o=true∧aU apos cpos=true then(M.e C o).map .iVals else none)
  else if m=("waiting" : Str)then(M.e C (.Call (.Attribute o m apos) [] [] cpos)).map .iKys
  else(M.e C (.Call (.Attribute o m apos) [] [] cpos)).map .iVal
 | e=>if HY e=true then(M.e C e).map .iNam else(M.e C e).map .iVal
def vK(P:eV)(M:Cm)(C:Ct):Expr→Option (IX×List Nat)
 | .Name x _=>(match C.sc.names.lookup x with
  | some .local=>(idxOf x P.N 0).map fun i=>(.gName i,[i])
  | some .cell=>if C.fn x=true then(idxOf x P.N 0).map fun i=>(.gName i,[i])else none
  | _=>none)
 | .Tuple es _ _=>(match iV (M.g C) es with
  | some (ts,is)=>(match iW es with
   | none=>if es.all noStar=true then some (.gTup es.length ts,is)else none
   | some i=>if (es.drop (i+1)).all noStar=true∧i+1≤es.length then some (.r5 i (es.length - i - 1) ts,is)else none)
  | none=>none)
 | .Subscript o a _=>if il a=true then(match M.e C o,M.e C a with
  | some x,some y=>some (.gSub x y,[])
  | _,_=>none)else none
 | .Attribute o name _=>(M.e C o).map fun x=>(.gFld x name,[])
 | _=>none
def uN(P:eV)(M:Cm):Cm:=⟨fun C ex=>orElse' (kO P M C ex) (some .bad),fun C tg ex=>orElse' (xV P M C tg ex) (some .bad),vK P M⟩
def kf(P:eV):Nat→Cm
 | 0=>Cm.none
 | n+1=>uN P (kf P n)
def dO(s:Stmt→Option IS):List Stmt→Option (List IS)
 | []=>some []
 | x::r=>(match s x,dO s r with
  | some a,some b=>some (a::b)
  | _,_=>none)
def zN(sc:Scope)(y:Str)(py:Pos)(scope:Scope)(pos:Pos):Bool :=
 decide (sc.names.lookup y=some .local) && (py.line == pos.line) && !(scope.names.any fun(n,k)=>n == y && (k == .local || k == .cell))
def F5:Expr→Bool
 | .ListComp .. => true
 | .SetComp .. => true
 | .DictComp .. => true
 | _=>false
def mT:Expr→Bool
 | .Name .. => true
 | _=>false
def rT(P:eV)(M:Cm)(C:Ct)(s:Stmt→Option IS):Stmt→Option IS
 | .Expr e _=>if fX e=true then(M.e C e).map .exp else some .no
 | .Return (some e) _=>(M.e C e).map .ret
 | .Return none _=>some .retN
 | .Pass _=>some .pass
 | .Break _=>some .brk
 | .Continue _=>some .cont
 | .If c a b _=>(match M.e C c,dO s a,dO s b with
  | some x,some y,some z=>some (.ifs x y z)
  | _,_,_=>none)
 | .For tg e body [] _=>if ck e=true then(match M.i C tg e,M.g C tg,dO s body with
  | some it,some (g,_),some b=>some (.for_ (zI it) g it b)
  | _,_,_=>none)else none
 | .While c body [] _=>(match M.e C c,dO s body with
  | some x,some b=>some (.while_ x b)
  | _,_=>none)
 | .Assign [.Name y py] (.ListComp elt [⟨tg,iter,ifs,0⟩] scope pos) _=>if zN C.sc y py scope pos=true then(match idxOf y P.N 0,du P M C tg iter ifs scope,M.e (cY C scope) elt with
  | some i,some (it,g,ts,vs),some el=>if (zI it).isNone=true then some (.setLc i it g ts el vs)else none
  | _,_,_=>none)else none
 | .Assign [.Name y py] (.ListComp elt [⟨tg,iter,ifs,0⟩,⟨tg1,iter1,ifs1,0⟩] scope pos) _=>if zN C.sc y py scope pos=true∧ck iter1=true then(match idxOf y P.N 0,du P M C tg iter ifs scope,M.i (cY C scope) tg1 iter1,M.g (cY C scope) tg1,oQ (M.e (cY C scope)) ifs1,M.e (cY C scope) elt with
  | some i,some (it,g,ts,vs),some it1,some (g1,is1),some ts1,some el=>if subB is1 vs=true then some (.setLc2 i it g ts it1 g1 ts1 el vs is1)else none
  | _,_,_,_,_,_=>none)else none
 | .Assign [.Tuple ts k p] (.Tuple vs k2 p2) _=>if Af C.sc ts vs=true then(match M.e C (.Tuple vs k2 p2),M.g C (.Tuple ts k p)with
  | some x,some (g,_)=>some (.asg g x)
  | _,_=>none)else none
 | .Assign [tg] e _=>if (fX e || !mT tg)=true∧mr tg e=true then(match M.e C e,M.g C tg with
  | some x,some (g,_)=>some (.asg g x)
  | _,_=>none)else none
 | .AugAssign (.Name x _) .Add e _=>(match C.sc.names.lookup x with
  | some .local=>(match idxOf x P.N 0,M.e C e with
   | some i,some a=>some (.aug i a)
   | _,_=>none)
  | some .cell=>if C.fn x=true then(match idxOf x P.N 0,M.e C e with
   | some i,some a=>some (.aug i a)
   | _,_=>none)else none
  | _=>none)
 | .Raise .. => some .no
 | _=>none
def CT:Expr→Option Scope
 | .ListComp _ _ s _=>some s
 | .SetComp _ _ s _=>some s
 | .DictComp _ _ _ s _=>some s
 | _=>none
def FQ(sc:Scope)(tg e:Expr):Bool:=match CT e,tg with
 | some s,.Name t p=> !(sc.names.lookup t == some .local && p.line == e.pos.line && !(s.names.any fun(n,k)=>n == t && (k == .local || k == .cell)))
 | _,_=>true
def rR(M:Cm)(C:Ct)(tg e:Expr):Option IS:=if FQ C.sc tg e=true∧mr tg e=true then(match M.e C e,M.g C tg with
 | some x,some (g,_)=>some (.asg g x)
 | _,_=>none)else none
def mX(P:eV)(M:Cm)(C:Ct)(vs:List Expr):List Expr→Option IS
 | [.Name x px,.Name y py]=>if ji C.sc x px y py vs=true then(match idxOf x P.N 0,idxOf y P.N 0,bN (M.e C) vs with
  | some i,some j,some l=>some (.par2 i j l)
  | _,_,_=>none)else none
 | [.Name x px,.Name y py,.Name z pz]=>if jd C.sc x px y py z pz vs=true then(match idxOf x P.N 0,idxOf y P.N 0,idxOf z P.N 0,bN (M.e C) vs with
  | some i,some j,some k,some l=>some (.par3 i j k l)
  | _,_,_,_=>none)else none
 | _=>none
def nL(P:eV)(M:Cm)(C:Ct):Stmt→Option IS
 | .Assign [.Tuple ts _ _] (.Tuple vs _ _) _=>mX P M C vs ts
 | .Assign [tg] e _=>rR M C tg e
 | .AugAssign (.Name x _) .Mult e _=>if C.sc.names.lookup x=some .local then(match idxOf x P.N 0,M.e C e with
  | some i,some a=>some (.augM i a)
  | _,_=>none)else none
 | .AugAssign (.Attribute o name _) .Add e _=>(match M.e C o,M.e C e with
  | some a,some b=>some (.augF a b name)
  | _,_=>none)
 | _=>none
def oM(P:eV)(M:Cm)(C:Ct):Nat→Stmt→Option IS
 | 0=>fun _=>none
 | n+1=>fun st=>(match rT P M C (oM P M C n) st with
  | some x=>some x
  | none=>(match nL P M C st with
   | some x=>some x
   | none=>some .no))
def xT(m1 m2 a z1 b z2:Str)(o:Expr)(ap1 p1 ap2 p2:Pos):Bool:=decide (m1 = "replace") && decide (m2 = "replace") && decide (z1=Str.empty) && decide (z2=Str.empty) && !(a == Str.empty) && !(b == Str.empty) && aC o && aU ap1 p1 && aU ap2 p2
def qX(M:Cm)(C:Ct):Stmt→Option IS
 | .Assign [.Name x px] (.Call (.Attribute (.Call (.Attribute o m1 ap1) [.Constant (.str a) j1 q1,.Constant (.str z1) k1 q2] [] p1) m2 ap2) [.Constant (.str b) j2 q3,.Constant (.str z2) k2 q4] [] p2) _=>
  if xT m1 m2 a z1 b z2 o ap1 p1 ap2 p2=true then(match M.e C o,M.g C (.Name x px)with
   | some r,some (g,_)=>some (.drop2 g r a b)
   | _,_=>none)else none
 | _=>none
def fY(s t:Stmt→Option IS):List Stmt→Option (List IS)
 | []=>some []
 | x::r=>(match (t x).or (s x),fY s t r with
  | some a,some b=>some (a::b)
  | _,_=>none)
def sj(P:eV)(M:Cm)(C:Ct)(own base:Str):Stmt→Option IS
 | .Expr (.Call (.Attribute (.Call (.Name x _) [] [] _) mth ap) (e::es) [] cp) _=>if x=("super" : Str)∧mth=("__init__" : Str)∧(e::es).all noStar=true∧dS (e::es) []=true∧aU ap cp=true then(match P.cix base,bN (M.e C) (e::es)with
  | some i,some as=>(match P.shape i (es.length+2) []with
   | some (n,d)=>some (.sup own i n (es.length+2) d as)
   | none=>none)
  | _,_=>none)else none
 | _=>none
end WC
namespace WC
open PySem PySem.Spec PyProof.Rows L2
structure cj(X:Cx)(a0:Addr)(P:eV)(E:Env0)(k:Nat)(C:Ct):Prop where
 sc:X.env.scope=C.sc
 fn:X.fn=C.fn
 N:X.N=P.N
 nd:X.N.Nodup
 calm:X.calm=true
 room:Rm (k+1) X.A
 gl:∀ x v,P.glob x=some v→IE X a0 x v
 free:∀ x,P.free x=true→X.mg x=none
 fix:∀ x i,P.fix x=some i→∃ f,X.mg x=some (.ref f)∧Km X.K (.ref f)=true∧∀ m ks n d,P.shape i m ks=some (n,d)→FnAt X a0 (k+1) f n (E.gc i) m ks (cR d)
 fixg:∀ x i,P.fix x=some i→X.mg x=some (.ref (Jo X.K x))
 cix:∀ x i,P.cix x=some i→X.mg x=some (.ref (Jo X.K x))∧∃ f,Mk X.K (Jo X.K x) f∧∀ m ks n d,P.shape i m ks=some (n,d)→FnAt X a0 k f n (E.gm i) m ks (cR d)
 mth:∀ m x i,(x,i)∈P.mth m→Cls X.K (Jo X.K x)∧∃ f,Meth X.K (Jo X.K x) m f∧∀ mm ks n d,P.shape i mm ks=some (n,d)→FnAt X a0 (k+1) f n (E.gc i) mm ks (cR d)
 mtm:∀ m x i,(x,i)∈P.mth m→∃ f,Meth X.K (Jo X.K x) m f∧∀ mm ks n d,P.shape i mm ks=some (n,d)→FnAt X a0 k f n (E.gm i) mm ks (cR d)
 prp:∀ f x i,(x,i)∈P.prp f→Cls X.K (Jo X.K x)∧∃ p g,PropOf X.K (Jo X.K x) f p g∧∀ mm ks n d,P.shape i mm ks=some (n,d)→FnAt X a0 k g n (E.gm i) mm ks (cR d)
 cm:∀ m x i,(P.cm m).lookup x=some i→X.mg x=some (.ref (Jo X.K x))∧∃ mc p g,Mv X.K (Jo X.K x) mc∧MO X.K (Jo X.K x) mc m p g∧∀ mm ks n d,P.shape i mm ks=some (n,d)→FnAt X a0 (k+1) g n (E.gc i) mm ks (cR d)
 eqs:∀ x i,(x,i)∈P.mth "__eq__" → JA X.K (.ref (Jo X.K x)) "__ne__" = some (some (.builtin "object.__ne__"))∧Ih X.K (Jo X.K x)∧∃ f,Meth X.K (Jo X.K x) "__eq__" f∧∀ mm ks n d,P.shape i mm ks=some (n,d)→FnAt X a0 k f n (E.gm i) mm ks (cR d)
 ins:B5 X.K P.dj
 unk:∀ C,(P.dj.lookup C).isSome=true→u6 X.K (Jo X.K C)
 subs:∀ C D,(P.dj.lookup C).isSome=true→(P.dj.lookup D).isSome=true→D≠C→Jo X.K D≠Jo X.K C∧Kr X.K (.ref (Jo X.K D)) (.ref (Jo X.K C))=some (jD P.dj D C)
 no:iR X.K E.no
 tab:vm X a0 E.tab
section
variable {X:Cx}{a0:Addr}{P:eV}{E:Env0}{k:Nat}{C:Ct}
theorem cj.blk(h:cj X a0 P E k C){s:Shared}{H:Hp}{scope:Scope}{cl:List (Jh×Addr)}{Cc:Addr}{fp:List Addr}:cj (X.blk s H scope (compEnvC scope cl Cc X.env) fp) a0 P E k (cY C scope) where
 sc:=by
  show relS scope X.env.scope=relS scope C.sc;rw[h.sc]
 fn:=rfl
 N:=h.N
 nd:=h.nd
 calm:=h.calm
 room:=h.room
 gl:=h.gl
 free:=h.free
 fix:=h.fix
 fixg:=h.fixg
 cix:=h.cix
 mth:=h.mth
 mtm:=h.mtm
 prp:=h.prp
 cm:=h.cm
 eqs:=h.eqs
 ins:=h.ins
 unk:=h.unk
 subs:=h.subs
 no:=h.no
 tab:=h.tab
theorem cj.FN(h:cj X a0 P E k C):X.A.units+150<cLine:=by have:=h.room.r.un; omega
theorem cj.hu(h:cj X a0 P E k C):X.A.units+65<cLine:=by have:=h.room.r.un; omega
theorem cj.AK(h:cj X a0 P E k C):X.A.units+100<cLine:=by have:=h.room.r.un; omega
theorem cj.CV(h:cj X a0 P E k C):X.A.units+1<cLine:=by have:=h.room.r.un; omega
theorem cj.dI(h:cj X a0 P E k C){x:Jh}(g:dI C x=true):Gl X x:=by
 unfold WC.dI at g;have:=of_decide_eq_true g;show X.env.scope.names.lookup x=_;rw[h.sc]; exact this
theorem oq{x:Jh}:∀{N:List Jh} {i j:Nat},idxOf x N i=some j→i≤j∧N[j - i]? = some x
 | [],_,_,h=>by cases h
 | y::r,i,j,h=>by
  unfold idxOf at h;split at h
  ·rename_i e;cases h;exact⟨Jw _,by simp [e]⟩
  ·obtain⟨h1,h2⟩:=oq h;refine⟨by omega, ?_⟩
   rw[show j - i=(j - (i+1))+1 by omega,List.getElem?_cons_succ]
   exact h2
theorem cj.idx(h:cj X a0 P E k C){x:Jh}{i:Nat}(e:idxOf x P.N 0=some i):X.N[i]? = some x:=by
 rw[h.N]; exact(oq e).2
theorem eB {x:Jh} (h:¬ fV x=true):(x == ("__debug__" : Jh))=false∧(x == ("__classdict__" : Jh))=false:=by
 unfold fV at h;rw[JC,not_or]at h;exact⟨Ks.mpr h.1,Ks.mpr h.2⟩
theorem zg(h:cj X a0 P E k C){R:Rn}{x:Jh}{pos:Pos}{ir:IX}(e:fu P C x=some ir):ME X a0 (.Name x pos) (bG E R ir)∧MT X a0 (.Name x pos) (stepT E R ir):=by
 unfold fu at e;split at e
 ·cases e
 ·rename_i hb;obtain⟨hd,hcd⟩:=eB hb;have loc:(∃ i,idxOf x P.N 0=some i∧ir = .v i)→Vis X.env.scope x→ME X a0 (.Name x pos) (bG E R ir)∧MT X a0 (.Name x pos) (stepT E R ir):=by
   rintro⟨i,hi,rfl⟩ hv;have m:ME X a0 (.Name x pos) (af i):=De (h.idx hi) hv hd hcd;exact⟨m,fF m rfl⟩
  have mp:∀{o:Option Nat} {ir},o.map IX.v=some ir→∃ i,o=some i∧ir = .v i:=fun{o ir} e=>by
   cases o with
   | none=>cases e
   | some i=>cases e; exact⟨i,rfl,rfl⟩
  split at e
  ·rename_i hk;exact loc (mp e) (.inl (by rw[h.sc]; exact hk))
  ·rename_i hk;exact loc (mp e) (.inr (.inl (by rw[h.sc]; exact hk)))
  ·rename_i hk;exact loc (mp e) (.inr (.inr (by rw[h.sc]; exact hk)))
  ·rename_i hk;have hg:Gl X x:=by show X.env.scope.names.lookup x=_; rw[h.sc]; exact hk
   split at e
   ·rename_i v hv;cases e;have m:ME X a0 (.Name x pos) (fun _ h=> .ok v h):=zz hg (h.gl x v hv) hd
    exact⟨m,fF m rfl⟩
   ·split at e
    ·rename_i hf;split at e
     ·rename_i T hb;split at e
      ·cases e
      ·rename_i hn;cases e;have m:ME X a0 (.Name x pos) (fun _ h=> .ok (.ty T) h):=Bm hg (h.free x hf) hb hn hd
       exact⟨m,fF m rfl⟩
     ·cases e
    ·cases e
  ·cases e
theorem fz{f:Value→Value→Sem Value}:OpR X f (bD (Cx.wd X a0) fun _ _ _=> .stuck):=by
 intro pins s σ H x y v u Q I rx ry ⟨μ,a,b,ah,hr,ra,rb,p⟩;exact p.elim
theorem yO(o:Operator):OpR X (binaryOp o) (bD (Cx.wd X a0) (FA o)):=by
 cases o
 ·exact AD
 ·exact zG
 ·exact zX
 ·exact fz
 ·exact fz
 ·exact yk
 ·exact Aq
 ·exact yq
 ·exact Ad
 ·exact fz
 ·exact fz
 ·exact fz
 ·exact x7
theorem fM(h:cj X a0 P E k C)(o:CmpOp):OpR X (compareOp o) (bD (Cx.wd X a0) (zB E.tab o)):=by
 cases o
 ·exact zl h.AK
 ·exact zZ h.AK
 ·exact Dm
 ·exact CZ
 ·exact Cb
 ·exact CK
 ·exact Cr
 ·exact t5
 ·exact Bk h.tab (Bj h.hu)
 ·exact tj h.tab (ue h.hu)
def Ac:Expr→Bool
 | .BoolOp .. => true
 | _=>false
structure eU(a0:Addr)(P:eV)(E:Env0)(k:Nat)(M:Cm)(R:Rn):Prop where
 e:∀ X C ex ir,cj X a0 P E k C→M.e C ex=some ir→ME X a0 ex (R.e ir)∧MT X a0 ex (R.t ir)∧(Ac ex=true→MW X a0 ex (R.t ir))
 i:∀ X C tg ex ir,cj X a0 P E k C→M.i C tg ex=some ir→MI X a0 tg ex (R.i ir)
 g:∀ X C ex ir is,cj X a0 P E k C→M.g C ex=some (ir,is)→MG X a0 ex is (R.g ir)
variable {M:Cm}{R:Rn}
theorem eU.me(S:eU a0 P E k M R)(h:cj X a0 P E k C){ex:Expr}{ir:IX}(e:M.e C ex=some ir):ME X a0 ex (R.e ir):=(S.e X C ex ir h e).1
theorem eU.mt(S:eU a0 P E k M R)(h:cj X a0 P E k C){ex:Expr}{ir:IX}(e:M.e C ex=some ir):MT X a0 ex (R.t ir):=(S.e X C ex ir h e).2.1
theorem eF{e:Expr}{es:List Expr}{env:Env}(h:noStar e=true):starEach (e::es) env=(false,eval e env)::starEach es env:=aH h
theorem l9{e:IX→AE}{x:IX}{r:List IX}(h:∀ y,x≠ .star y):bR e (x::r)=ae (e x) (bR e r):=by
 cases x<;>first | rfl | exact absurd rfl (h _)
def gN(M:Cm):Prop:=∀ C ex y,M.e C ex≠some (.star y)
theorem bS(S:eU a0 P E k M R)(ns:gN M)(h:cj X a0 P E k C):∀{es:List Expr} {irs:List IX},bN (M.e C) es=some irs→MA X a0 es (bR R.e irs)
 | [],irs,e=>by cases e; exact uF
 | x::r,irs,e=>by
  by_cases hs:noStar x=true
  ·have e':(match M.e C x,bN (M.e C) r with
    | some a,some b=>some (a::b)
    | _,_=>none)=some irs:=by cases x<;>first | exact e | cases hs
   split at e'
   ·rename_i a b h1 h2;cases e';rw[l9 fun y z=>ns C x y (z ▸ h1)]
    exact sC (S.me h h1) (bS S ns h h2) (aH hs)
   ·cases e'
  ·cases x with
   | Starred y p=>
    have e':(match M.e C y,bN (M.e C) r with
     | some a,some b=>some (IX.star a::b)
     | _,_=>none)=some irs:=e
    split at e'
    ·rename_i a b h1 h2;cases e';exact yL (S.me h h1) (bS S ns h h2)
    ·cases e'
   | _=>exact absurd rfl hs
theorem wL(S:eU a0 P E k M R)(h:cj X a0 P E k C){pos:Pos}:∀{ks:List (Option Expr)} {vs:List Expr} {a b:List IX},mK (M.e C) ks=some a→fv (M.e C) vs=some b→a.length=b.length→
  PPs X pos ks vs (((a.zip b).map fun p=>(R.e p.1,R.e p.2)).map fun p=>(d8 (Cx.wd X a0) p.1,d8 (Cx.wd X a0) p.2))∧ks.all (·.isSome)=true∧ks.length=vs.length
 | [],vs,a,b,e1,e2,hl=>by
  cases e1;cases vs with
  | nil=>
   cases e2;exact⟨pps_nil,rfl,rfl⟩
  | cons x r=>
   unfold fv at e2;split at e2
   ·cases e2; cases hl
   ·cases e2
 | none::_,vs,a,b,e1,e2,hl=>by cases e1
 | some kx::ks,vs,a,b,e1,e2,hl=>by
  unfold mK at e1;split at e1
  ·rename_i k0 kr q1 q2;cases e1;cases vs with
   | nil=>cases e2; cases hl
   | cons x r=>
    unfold fv at e2;split at e2
    ·rename_i v0 vr q3 q4;cases e2;obtain⟨h1,h2,h3⟩:=wL S h (pos:=pos) q2 q4 (by simpa using hl)
     exact⟨pps_cons (S.me h q1) (S.me h q3) h1,by simpa using h2,by simp [h3]⟩
    ·cases e2
  ·cases e1
theorem AF(S:eU a0 P E k M R)(h:cj X a0 P E k C){ks:List (Option Expr)}{vs:List Expr}{pos:Pos}{ir:IX}(e:c8 M C vs ks=some ir):ME X a0 (.Dict ks vs pos) (bG E R ir):=by
 unfold c8 at e;split at e
 ·split at e
  ·rename_i h2;cases e;cases vs with
   | nil=>exact yR
   | cons _ _=>cases h2
  ·cases e
 ·split at e
  ·rename_i hn;split at e
   ·rename_i a b q1 q2;split at e
    ·rename_i hl;cases e;obtain⟨h1,h2,h3⟩:=wL S h (pos:=pos) q1 q2 hl;exact zq h1 h2 h3 (fun z=>nomatch z) (by simp; omega)
    ·cases e
   ·cases e
  ·cases e
theorem fy(S:eU a0 P E k M R)(ns:gN M)(h:cj X a0 P E k C):∀{kws:List Keyword} {irs:List IX},kD (M.e C) kws=some irs→MK X a0 kws (bR R.e irs)
 | [],irs,e=>by cases e; exact C1
 | ⟨some n,x,p⟩::r,irs,e=>by
  have e':(match M.e C x,kD (M.e C) r with
    | some a,some b=>some (a::b)
    | _,_=>none)=some irs:=e
  split at e'
  ·rename_i a b h1 h2;cases e';rw[l9 fun y z=>ns C x y (z ▸ h1)]
   exact yJ (S.me h h1) (fy S ns h h2)
  ·cases e'
 | ⟨none,x,p⟩::r,irs,e=>by cases e
theorem jY(S:eU a0 P E k M R)(h:cj X a0 P E k C){es:List Expr}{irs:List IX}(e:oQ (M.e C) es=some irs):uj X a0 es (gy R.t irs):=by
 unfold oQ at e;split at e
 ·cases e; exact As
 ·rename_i x;cases q:M.e C x with
  | none=>rw[q]at e; cases e
  | some a=>rw[q]at e; cases e; exact zD (S.mt h q)
 ·cases e
theorem lO(S:eU a0 P E k M R)(h:cj X a0 P E k C){e:Option Expr}{ir:Option IX}(he:nD (M.e C) e=some ir):MP X a0 e (Bw R.e ir):=by
 cases e with
 | none=>cases he; exact yT
 | some x=>
  unfold nD at he;simp only at he;cases q:M.e C x with
  | none=>rw[q]at he; cases he
  | some a=>rw[q]at he; cases he; exact yC (S.me h q)
theorem fU(S:eU a0 P E k M R)(h:cj X a0 P E k C):∀{es:List Expr} {irs:List IX} {is:List Nat},iV (M.g C) es=some (irs,is)→A0 X a0 es is (sD R.g irs)
 | [],irs,is,e=>by cases e; exact yr
 | x::r,irs,is,e=>by
  by_cases hs:noStar x=true
  ·have e':(match M.g C x,iV (M.g C) r with
    | some (a,is),some (b,js)=>some (a::b,is++js)
    | _,_=>none)=some (irs,is):=by cases x<;>first | exact e | cases hs
   split at e'
   ·rename_i a i1 b i2 h1 h2;cases e';exact xr (S.g X C x a i1 h h1) (fU S h h2) hs
   ·cases e'
  ·cases x with
   | Starred y p=>
    have e':(match M.g C y,iV (M.g C) r with
     | some (a,is),some (b,js)=>some (a::b,is++js)
     | _,_=>none)=some (irs,is):=e
    split at e'
    ·rename_i a i1 b i2 h1 h2;cases e';exact tE (S.g X C y a i1 h h1) (fU S h h2)
    ·cases e'
   | _=>exact absurd rfl hs
end
section
variable {X:Cx}{a0:Addr}{P:eV}{E:Env0}{k:Nat}{C:Ct}{M:Cm}{R:Rn}
theorem w8 {x:Jh} {z:Bool×String} (e:lD x=some (.isi,z)):x=("isinstance" : Jh):=by
 unfold lD at e;by_cases h_len:x=("len" : Jh)
 ·rw[if_pos h_len]at e; cases e
 rw[if_neg h_len]at e;by_cases h_all:x=("all" : Jh)
 ·rw[if_pos h_all]at e; cases e
 rw[if_neg h_all]at e;by_cases h_any:x=("any" : Jh)
 ·rw[if_pos h_any]at e; cases e
 rw[if_neg h_any]at e;by_cases h_max:x=("max" : Jh)
 ·rw[if_pos h_max]at e; cases e
 rw[if_neg h_max]at e;by_cases h_min:x=("min" : Jh)
 ·rw[if_pos h_min]at e; cases e
 rw[if_neg h_min]at e;by_cases h_abs:x=("abs" : Jh)
 ·rw[if_pos h_abs]at e; cases e
 rw[if_neg h_abs]at e;by_cases h_int:x=("int" : Jh)
 ·rw[if_pos h_int]at e; cases e
 rw[if_neg h_int]at e;by_cases h_list:x=("list" : Jh)
 ·rw[if_pos h_list]at e; cases e
 rw[if_neg h_list]at e;by_cases h_tuple:x=("tuple" : Jh)
 ·rw[if_pos h_tuple]at e; cases e
 rw[if_neg h_tuple]at e;by_cases h_dict:x=("dict" : Jh)
 ·rw[if_pos h_dict]at e; cases e
 rw[if_neg h_dict]at e;by_cases hx:x=("isinstance" : Jh)
 ·exact hx
 rw[if_neg hx]at e;by_cases h_repr:x=("repr" : Jh)
 ·rw[if_pos h_repr]at e; cases e
 rw[if_neg h_repr]at e;by_cases h_sum:x=("sum" : Jh)
 ·rw[if_pos h_sum]at e; cases e
 rw[if_neg h_sum]at e;by_cases h_sorted:x=("sorted" : Jh)
 ·rw[if_pos h_sorted]at e; cases e
 rw[if_neg h_sorted]at e;by_cases h_str:x=("str" : Jh)
 ·rw[if_pos h_str]at e; cases e
 rw[if_neg h_str]at e;cases e
theorem lT (h:cj X a0 P E k C) {x:Jh} {b:BC} {z:Bool×String} (e:lD x=some (b,z)) {es:List Expr} {e0:Expr} {p pos:Pos} {f:AL} (hg:Gl X x) (hm:X.mg x=none) (hd:(x == ("__debug__" : Jh))=false) (ha:MA X a0 (e0::es) f) (hn:(e0::es).all noStar=true) :
  ME X a0 (.Call (.Name x p) (e0::es) [] pos) (fun s h=>(f s h).bind (II b)):=by
 have h1:noStar e0=true:=by
  rw[Jt,Ji]at hn; exact hn.1
 have he:=eF (es:=es) (env:=X.env) h1;have hpl:(backTo pos (starEach es X.env)).any (·.1)=false:=bo (by rw[Jt,Ji]at hn; exact hn.2)
 unfold lD at e;by_cases hx:x=("len" : Jh)
 ·rw[if_pos hx]at e;cases e; subst hx;exact bF CN hg hm boot_len ha (by decide) hd he hpl
 rw[if_neg hx]at e;clear hx;by_cases hx:x=("all" : Jh)
 ·rw[if_pos hx]at e;cases e; subst hx;exact bF (B7 h.calm) hg hm boot_all ha (by decide) hd he hpl
 rw[if_neg hx]at e;clear hx;by_cases hx:x=("any" : Jh)
 ·rw[if_pos hx]at e;cases e; subst hx;exact bF (Bo h.calm) hg hm boot_any ha (by decide) hd he hpl
 rw[if_neg hx]at e;clear hx;by_cases hx:x=("max" : Jh)
 ·rw[if_pos hx]at e;cases e; subst hx;exact bF (Cs h.calm) hg hm boot_max ha (by decide) hd he hpl
 rw[if_neg hx]at e;clear hx;by_cases hx:x=("min" : Jh)
 ·rw[if_pos hx]at e;cases e; subst hx;exact bF (Ce h.calm) hg hm boot_min ha (by decide) hd he hpl
 rw[if_neg hx]at e;clear hx;by_cases hx:x=("abs" : Jh)
 ·rw[if_pos hx]at e;cases e; subst hx;exact bF By hg hm (by decide +kernel) ha (by decide) hd he hpl
 rw[if_neg hx]at e;clear hx;by_cases hx:x=("int" : Jh)
 ·rw[if_pos hx]at e;cases e; subst hx;exact d3 BA hg hm (by decide +kernel) ha (by decide) hd he hpl
 rw[if_neg hx]at e;clear hx;by_cases hx:x=("list" : Jh)
 ·rw[if_pos hx]at e;cases e; subst hx;exact d3 (zb h.calm) hg hm (by decide +kernel) ha (by decide) hd he hpl
 rw[if_neg hx]at e;clear hx;by_cases hx:x=("tuple" : Jh)
 ·rw[if_pos hx]at e;cases e; subst hx;exact d3 wR hg hm (by decide +kernel) ha (by decide) hd he hpl
 rw[if_neg hx]at e;clear hx;by_cases hx:x=("dict" : Jh)
 ·rw[if_pos hx]at e;cases e; subst hx;exact d3 (zp h.calm) hg hm (by decide +kernel) ha (by decide) hd he hpl
 rw[if_neg hx]at e;clear hx;by_cases hx:x=("isinstance" : Jh)
 ·rw[if_pos hx]at e;cases e; subst hx;exact bF q5 hg hm (by decide +kernel) ha (by decide) hd he hpl
 rw[if_neg hx]at e;clear hx;by_cases hx:x=("repr" : Jh)
 ·rw[if_pos hx]at e;cases e; subst hx;exact bF (Au h.room.g h.FN) hg hm (by decide +kernel) ha (by decide) hd he hpl
 rw[if_neg hx]at e;clear hx;by_cases hx:x=("sum" : Jh)
 ·rw[if_pos hx]at e;cases e; subst hx;exact bF (Ca h.calm) hg hm (by decide +kernel) ha (by decide) hd he hpl
 rw[if_neg hx]at e;clear hx;by_cases hx:x=("sorted" : Jh)
 ·rw[if_pos hx]at e;cases e; subst hx;exact bF sX hg hm (by decide +kernel) ha (by decide) hd he hpl
 rw[if_neg hx]at e;clear hx;by_cases hx:x=("str" : Jh)
 ·rw[if_pos hx]at e;cases e; subst hx;exact d3 yH hg hm (by decide +kernel) ha (by decide) hd he hpl
 rw[if_neg hx]at e;clear hx;cases e
theorem cg{m:Nat}{ks:List Jh}:∀{row:List (Jh×Nat)} {tb},bQ P m ks row=some tb→∀ C z,tb.lookup C=some z→∃ i n d,z=(i,n,m,d)∧(C,i)∈row∧P.shape i m ks=some (n,d)
 | [],tb,e,C,z,hz=>by cases e; cases hz
 | (C0,i)::r,tb,e,C,z,hz=>by
  unfold bQ at e;split at e
  ·rename_i n d b h1 h2;cases e;rw[J7]at hz;split at hz
   ·rename_i hq;cases hz;have:C=C0:=by simpa using hq
    subst this;exact⟨i,n,d,rfl,JO,h1⟩
   ·obtain⟨i',n',d',a,b,c⟩:=cg h2 C z hz;exact⟨i',n',d',a,JI _ b,c⟩
  ·rename_i b h1 h2;cases e;obtain⟨i',n',d',a,b,c⟩:=cg h2 C z hz;exact⟨i',n',d',a,JI _ b,c⟩
  ·cases e
theorem mD(h:cj X a0 P E k C){r:Bool}{tb}(e:bQ P 1 [] (P.mth (v7 r))=some tb):Bc X a0 k r (methP E tb):=by
 refine⟨fun D i hi=> ?_⟩
 unfold methP at hi;split at hi
 ·rename_i j n m d hl;cases hi;obtain⟨j',n',d',hz,hrow,hsh⟩:=cg e D _ hl;cases hz;obtain⟨f,hM,F⟩:=h.mtm _ D j hrow;exact⟨rfl,rfl,f,hM,F _ _ _ _ hsh⟩
 ·cases hi
theorem tD {x:Jh} {z:Bool×String} (e:lD x=some (.repr,z)):x=("repr" : Jh):=by
 unfold lD at e;by_cases h_len:x=("len" : Jh)
 ·rw[if_pos h_len]at e; cases e
 rw[if_neg h_len]at e;by_cases h_all:x=("all" : Jh)
 ·rw[if_pos h_all]at e; cases e
 rw[if_neg h_all]at e;by_cases h_any:x=("any" : Jh)
 ·rw[if_pos h_any]at e; cases e
 rw[if_neg h_any]at e;by_cases h_max:x=("max" : Jh)
 ·rw[if_pos h_max]at e; cases e
 rw[if_neg h_max]at e;by_cases h_min:x=("min" : Jh)
 ·rw[if_pos h_min]at e; cases e
 rw[if_neg h_min]at e;by_cases h_abs:x=("abs" : Jh)
 ·rw[if_pos h_abs]at e; cases e
 rw[if_neg h_abs]at e;by_cases h_int:x=("int" : Jh)
 ·rw[if_pos h_int]at e; cases e
 rw[if_neg h_int]at e;by_cases h_list:x=("list" : Jh)
 ·rw[if_pos h_list]at e; cases e
 rw[if_neg h_list]at e;by_cases h_tuple:x=("tuple" : Jh)
 ·rw[if_pos h_tuple]at e; cases e
 rw[if_neg h_tuple]at e;by_cases h_dict:x=("dict" : Jh)
 ·rw[if_pos h_dict]at e; cases e
 rw[if_neg h_dict]at e;by_cases h_isinstance:x=("isinstance" : Jh)
 ·rw[if_pos h_isinstance]at e; cases e
 rw[if_neg h_isinstance]at e;by_cases h_repr:x=("repr" : Jh)
 ·exact h_repr
 rw[if_neg h_repr]at e;by_cases h_sum:x=("sum" : Jh)
 ·rw[if_pos h_sum]at e; cases e
 rw[if_neg h_sum]at e;by_cases h_sorted:x=("sorted" : Jh)
 ·rw[if_pos h_sorted]at e; cases e
 rw[if_neg h_sorted]at e;by_cases h_str:x=("str" : Jh)
 ·rw[if_pos h_str]at e; cases e
 rw[if_neg h_str]at e;cases e
theorem wz {x:Jh} {z:Bool×String} (e:lD x=some (.len,z)):x=("len" : Jh):=by
 unfold lD at e;by_cases h_len:x=("len" : Jh)
 ·exact h_len
 rw[if_neg h_len]at e;by_cases h_all:x=("all" : Jh)
 ·rw[if_pos h_all]at e; cases e
 rw[if_neg h_all]at e;by_cases h_any:x=("any" : Jh)
 ·rw[if_pos h_any]at e; cases e
 rw[if_neg h_any]at e;by_cases h_max:x=("max" : Jh)
 ·rw[if_pos h_max]at e; cases e
 rw[if_neg h_max]at e;by_cases h_min:x=("min" : Jh)
 ·rw[if_pos h_min]at e; cases e
 rw[if_neg h_min]at e;by_cases h_abs:x=("abs" : Jh)
 ·rw[if_pos h_abs]at e; cases e
 rw[if_neg h_abs]at e;by_cases h_int:x=("int" : Jh)
 ·rw[if_pos h_int]at e; cases e
 rw[if_neg h_int]at e;by_cases h_list:x=("list" : Jh)
 ·rw[if_pos h_list]at e; cases e
 rw[if_neg h_list]at e;by_cases h_tuple:x=("tuple" : Jh)
 ·rw[if_pos h_tuple]at e; cases e
 rw[if_neg h_tuple]at e;by_cases h_dict:x=("dict" : Jh)
 ·rw[if_pos h_dict]at e; cases e
 rw[if_neg h_dict]at e;by_cases h_isinstance:x=("isinstance" : Jh)
 ·rw[if_pos h_isinstance]at e; cases e
 rw[if_neg h_isinstance]at e;by_cases h_repr:x=("repr" : Jh)
 ·rw[if_pos h_repr]at e; cases e
 rw[if_neg h_repr]at e;by_cases h_sum:x=("sum" : Jh)
 ·rw[if_pos h_sum]at e; cases e
 rw[if_neg h_sum]at e;by_cases h_sorted:x=("sorted" : Jh)
 ·rw[if_pos h_sorted]at e; cases e
 rw[if_neg h_sorted]at e;by_cases h_str:x=("str" : Jh)
 ·rw[if_pos h_str]at e; cases e
 rw[if_neg h_str]at e;cases e
theorem tM (h:cj X a0 P E k C) {x:Jh} {b:BC} {z:Bool×String} (e:lD x=some (b,z)) {es:List Expr} {e0:Expr} {as:List IX} {p pos:Pos} (hg:Gl X x) (hm:X.mg x=none) (hd:(x == ("__debug__" : Jh))=false) (ha:MA X a0 (e0::es) (bR R.e as)) (hn:(e0::es).all noStar=true) :
  ME X a0 (.Call (.Name x p) (e0::es) [] pos) (bG E R (iZ P b (e0::es) as)):=by
 unfold iZ;split
 ·rename_i heq;split
  ·have hx:x=("isinstance" : Jh):=w8 e;subst hx;have h1:noStar e0=true:=by
    rw[Jt,Ji]at hn; exact hn.1
   have he:=eF (es:=es) (env:=X.env) h1;have hpl:(backTo pos (starEach es X.env)).any (·.1)=false:=bo (by rw[Jt,Ji]at hn; exact hn.2)
   exact bF (yV h.ins h.unk) hg hm (by decide +kernel) ha (by decide) hd he hpl
  ·exact lT h e hg hm hd ha hn
 ·rename_i heq;split
  ·split
   ·rename_i row tb hr;have hx:x=("repr" : Jh):=tD e;subst hx;have h1:noStar e0=true:=by
     rw[Jt,Ji]at hn; exact hn.1
    have he:=eF (es:=es) (env:=X.env) h1;have hpl:(backTo pos (starEach es X.env)).any (·.1)=false:=bo (by rw[Jt,Ji]at hn; exact hn.2)
    exact bF (v5 (r:=true) (mD (r:=true) h hr) h.room) hg hm (by decide +kernel) ha (by decide) hd he hpl
   ·exact lT h e hg hm hd ha hn
  ·exact lT h e hg hm hd ha hn
 ·rename_i heq;split
  ·split
   ·rename_i row tb hr;have hx:x=("len" : Jh):=wz e;subst hx;have h1:noStar e0=true:=by
     rw[Jt,Ji]at hn; exact hn.1
    have he:=eF (es:=es) (env:=X.env) h1;have hpl:(backTo pos (starEach es X.env)).any (·.1)=false:=bo (by rw[Jt,Ji]at hn; exact hn.2)
    exact bF (v5 (r:=false) (mD (r:=false) h hr) h.room) hg hm (by decide +kernel) ha (by decide) hd he hpl
   ·exact lT h e hg hm hd ha hn
  ·exact lT h e hg hm hd ha hn
 ·exact lT h e hg hm hd ha hn
theorem rO(S:eU a0 P E k M R)(ns:gN M)(h:cj X a0 P E k C){x:Jh}{args:List Expr}{kws:List Keyword}{p pos:Pos}{ir:IX}(e:cS P M C x args kws=some ir):ME X a0 (.Call (.Name x p) args kws pos) (bG E R ir):=by
 unfold cS at e;split at e
 ·cases e
 rename_i hb;obtain⟨hd,_⟩:=eB hb;split at e
 ·rename_i hgl;have hg:=h.dI hgl;split at e
  ·rename_i hall;split at e
   ·rename_i ks hks;split at e
    ·rename_i as zs ha hz;have mk:=fy S ns h hz;have ml:=bS S ns h ha;split at e
     ·rename_i i hi;split at e
      ·rename_i n d hsh;cases e;obtain⟨f,hm,hkp,hF⟩:=h.fix x i hi;have F:=hF _ _ _ _ hsh;cases args with
       | nil=>cases ha; exact uk F h.room hg hm hkp mk hd hks
       | cons a0 ar=>exact yu F h.room hg hm hkp ml mk hd hall hks
      ·cases e
     ·split at e
      ·rename_i i hi;split at e
       ·rename_i n d hsh;cases e;obtain⟨hm,f,hM,hF⟩:=h.cix x i hi;have F:=hF _ _ _ _ hsh;cases args with
        | nil=>cases ha; exact xo F hM h.room hg hm mk hd hks
        | cons a0 ar=>exact yP F hM h.room hg hm ml mk hd hall hks
       ·cases e
      ·split at e
       ·rename_i hf;split at e
        ·rename_i b z _ _ _ _ hbc;cases e;exact tM h hbc hg (h.free x hf) hd ml hall
        ·cases e
       ·cases e
    ·cases e
   ·cases e
  ·cases e
 ·cases e
theorem fL{m:Nat}{ks:List Jh}:∀{row:List Jh} C z,(hU P m ks row).lookup C=some z→∃ i n d,z=(i,n,m,d)∧P.fix C=some i∧P.shape i m ks=some (n,d)
 | [],_,_,h=>by cases h
 | x::r,C,z,h=>by
  unfold hU at h;split at h
  ·rename_i i hi;split at h
   ·rename_i n d hsh;rw[J7]at h;split at h
    ·rename_i q;cases h;obtain rfl:C=x:=by simpa using q
     exact⟨i,n,d,rfl,hi,hsh⟩
    ·exact fL C z h
   ·exact fL C z h
  ·exact fL C z h
theorem mn(h:cj X a0 P E k C){m:Nat}{ks:List Jh}:qS X a0 (k+1) ks (bz E ks (hU P m ks P.vals)):=by
 intro x j hj;unfold bz at hj;split at hj
 ·rename_i i n m' d hl;cases hj;obtain⟨i1,n1,d1,e1,hfix,hsh⟩:=fL x _ hl;cases e1;obtain⟨f,hm,hk,hF⟩:=h.fix x i hfix;have e2:=h.fixg x i hfix;rw[hm]at e2;cases e2;exact⟨rfl,hk,hF _ _ _ _ hsh⟩
 ·cases hj
theorem kd(h:cj X a0 P E k C){x:Jh}(g:sL C x=true):Vis X.env.scope x:=by
 unfold sL at g;rw[JC,JC]at g;show _∨_∨_;rw[h.sc];rcases g with (g | g) | g
 ·exact .inl (of_decide_eq_true g)
 ·exact .inr (.inl (of_decide_eq_true g))
 ·exact .inr (.inr (of_decide_eq_true g))
theorem fR{ks:List Jh}:∀{row:List Jh} C z,(gZ P ks row).lookup C=some z→∃ i n d,z=(i,n,1,d)∧P.cix C=some i∧P.shape i 1 ks=some (n,d)
 | [],_,_,h=>by cases h
 | x::r,C,z,h=>by
  unfold gZ at h;split at h
  ·rename_i i hi;split at h
   ·rename_i n d hsh;rw[J7]at h;split at h
    ·rename_i q;cases h;obtain rfl:C=x:=by simpa using q
     exact⟨i,n,d,rfl,hi,hsh⟩
    ·exact fR C z h
   ·exact fR C z h
  ·exact fR C z h
theorem tN(h:cj X a0 P E k C){ks:List Jh}{l:List Jh}:vJ X a0 k ks (mC E ks (gZ P ks l)):=by
 intro x j hj;unfold mC at hj;split at hj
 ·rename_i i n m' d hl;cases hj;obtain⟨i1,n1,d1,e1,hfix,hsh⟩:=fR x _ hl;cases e1;obtain⟨_,f,M,hF⟩:=h.cix x i hfix;exact⟨rfl,rfl,f,M,hF _ _ _ _ hsh⟩
 ·cases hj
theorem Aa(S:eU a0 P E k M R)(ns:gN M)(h:cj X a0 P E k C){x:Jh}{args:List Expr}{kws:List Keyword}{p pos:Pos}{ir:IX}(e:fP P M C x args kws=some ir):ME X a0 (.Call (.Name x p) args kws pos) (bG E R ir):=by
 unfold fP at e;split at e
 ·rename_i hx;split at e
  ·rename_i hloc;split at e
   ·rename_i ks i hks hi;split at e
    ·rename_i zs hz;cases e;have mk:=fy S ns h hz;exact ti (tN h) h.room (h.idx hi) (kd h hloc) (by rw[hx]; decide) (by rw[hx]; decide) mk hks
    ·cases e
   ·cases e
  ·cases e
 ·cases e
theorem DK(h:cj X a0 P E k C){o:Expr}{m:Jh}{args:List Expr}{kws:List Keyword}{apos pos:Pos}{ir:IX}(e:iT P C o m apos args kws pos=some ir):ME X a0 (.Call (.Attribute o m apos) args kws pos) (bG E R ir):=by
 unfold iT at e;split at e
 ·split at e
  ·cases e
  rename_i hb;obtain⟨hd,hcd⟩:=eB hb;split at e
  ·rename_i hgl;split at e
   ·rename_i hlo;split at e
    ·rename_i i hi;split at e
     ·rename_i n d hsh;cases e;obtain⟨hm,mc,p,g,r,c,hF⟩:=h.cm m _ i hi;exact CW (pl:=plainOf _ X.env) r c (hF _ _ _ _ hsh) h.room (h.dI hgl) hm hd (iN rfl rfl rfl rfl hlo)
     ·cases e
    ·cases e
   ·cases e
  ·cases e
 ·cases e
theorem vY(S:eU a0 P E k M R)(ns:gN M)(h:cj X a0 P E k C){x:Jh}{args:List Expr}{kws:List Keyword}{p pos:Pos}{ir:IX}(e:dr P M C x args kws=some ir):ME X a0 (.Call (.Name x p) args kws pos) (bG E R ir):=by
 unfold dr at e;split at e
 ·cases e
 rename_i hb;obtain⟨hd,hcd⟩:=eB hb;split at e
 ·rename_i hloc;split at e
  ·rename_i hall;split at e
   ·rename_i ks i hks hi;split at e
    ·rename_i as zs ha hz;cases e;have mk:=fy S ns h hz;have ml:=bS S ns h ha;cases args with
     | nil=>cases ha; exact sY (mn h) h.room (h.idx hi) (kd h hloc) hd hcd mk hks
     | cons a0 ar=>exact xi (mn h) h.room (h.idx hi) (kd h hloc) hd hcd ml mk hall hks
    ·cases e
   ·cases e
  ·cases e
 ·cases e
theorem qj(h:cj X a0 P E k C){mth:Jh}{m:Nat}{ks:List Jh}{tb}(e:bQ P m ks (P.mth mth)=some tb):MethTab X a0 (k+1) mth ks (bz E ks tb):=by
 intro C' i hi;unfold bz at hi;split at hi
 ·rename_i i0 n m' d hl;cases hi;obtain⟨i1,n1,d1,e1,hmem,hsh⟩:=cg e C' _ hl;cases e1;obtain⟨c,f,hM,hF⟩:=h.mth mth C' i0 hmem;exact⟨rfl,c,f,hM,hF _ _ _ _ hsh⟩
 ·cases hi
theorem fQ{e:Expr}(h:[e].all noStar=true):noStar e=true:=by simpa using h
theorem yG {o a:Expr} {f g:AE} {apos pos:Pos} (ho:ME X a0 o f) (ha:ME X a0 a g) (h1:aC o=true) (h2:noStar a=true) (h4:dS [a] []=true) (h5:aU apos pos=true):ME X a0 (.Call (.Attribute o "pop" apos) [a] [] pos) (vt f g):=by
 refine⟨fun pins s0 σ H Q I q=> ?_⟩
 obtain⟨μ,s,ah,hs,hr,p⟩:=q;unfold vt at p;split at p
 ·split at p
  ·exact(iy JH LD LF sZ de ho (sC ha uF (aH h2)) h1 (by simp [h2]) h4 h5).run pins s0 σ H Q I ⟨μ,s,ah,hs,hr,p⟩
  ·exact(zK ho ha h1 h2 h5).run pins s0 σ H Q I ⟨μ,s,ah,hs,hr,p⟩
 ·exact p.elim
theorem yU {o:Expr} {f:AE} {apos pos:Pos} (ho:ME X a0 o f) (h1:aC o=true) (h5:aU apos pos=true):ME X a0 (.Call (.Attribute o "clear" apos) [] [] pos) (uP f):=by
 refine⟨fun pins s0 σ H Q I q=> ?_⟩
 obtain⟨μ,s,ah,hs,hr,p⟩:=q;unfold uP at p;split at p
 ·split at p
  ·exact(mN JH PySem.F.slot_list_clear PySem.F.type_list_clear vR de ho h1 h5).run pins s0 σ H Q I ⟨μ,s,ah,hs,hr,p⟩
  ·exact(mN Lj Li PySem.F.type_dict_clear vi oA ho h1 h5).run pins s0 σ H Q I ⟨μ,s,ah,hs,hr,p⟩
 ·exact p.elim
theorem kY{x:Expr}{r:List Expr}{irs:List IX}(hs:noStar x=true)(e:bN (M.e C) (x::r)=some irs):∃ a b,irs=a::b∧M.e C x=some a∧bN (M.e C) r=some b:=by
 have e':(match M.e C x,bN (M.e C) r with
  | some a,some b=>some (a::b)
  | _,_=>none)=some irs:=by cases x<;>first | exact e | cases hs
 split at e'
 ·rename_i a b h1 h2;cases e';exact⟨a,b,rfl,h1,h2⟩
 ·cases e'
theorem jj{x:Expr}{a:IX}(hs:noStar x=true)(e:bN (M.e C) [x]=some [a]):M.e C x=some a:=by
 obtain⟨a',b,e1,h1,_⟩:=kY hs e;cases e1; exact h1
theorem tS{x y:Expr}{a b:IX}(hs:noStar x=true)(hs2:noStar y=true)(e:bN (M.e C) [x,y]=some [a,b]):M.e C x=some a∧M.e C y=some b:=by
 obtain⟨a',b',e1,h1,h2⟩:=kY hs e;cases e1;exact⟨h1,jj hs2 h2⟩
theorem eK{x y:Expr}(h:[x,y].all noStar=true):noStar x=true∧noStar y=true:=by simpa using h
theorem Eu{m:Jh}{sk:SM}(e:C3 m=some sk){o e0:Expr}{f:AE}{g:AL}{apos pos:Pos}(ho:ME X a0 o f)(ha:MA X a0 [e0] g)(h1:aC o=true)(h2:[e0].all noStar=true)(h4:dS [e0] []=true)(h5:aU apos pos=true) :
  ME X a0 (.Call (.Attribute o m apos) [e0] [] pos) (mJ f isStr g (Ir sk)):=by
 unfold C3 at e;by_cases hx:m=("split" : Jh)
 ·rw[if_pos hx]at e;cases e; subst hx;exact iy Ko PySem.F.slot_str_split PySem.F.type_str_split tY hY ho ha h1 h2 h4 h5
 rw[if_neg hx]at e;clear hx;by_cases hx:m=("join" : Jh)
 ·rw[if_pos hx]at e;cases e; subst hx;exact iy Ko PySem.F.slot_str_join PySem.F.type_str_join uR hY ho ha h1 h2 h4 h5
 rw[if_neg hx]at e;clear hx;by_cases hx:m=("lstrip" : Jh)
 ·rw[if_pos hx]at e;cases e; subst hx;exact iy Ko PySem.F.slot_str_lstrip PySem.F.type_str_lstrip qJ hY ho ha h1 h2 h4 h5
 rw[if_neg hx]at e;clear hx;by_cases hx:m=("count" : Jh)
 ·rw[if_pos hx]at e;cases e; subst hx;exact iy Ko PySem.F.slot_str_count PySem.F.type_str_count t9 hY ho ha h1 h2 h4 h5
 rw[if_neg hx]at e;cases e
theorem EU(S:eU a0 P E k M R)(h:cj X a0 P E k C){o:Expr}{m:Jh}{args:List Expr}{kws:List Keyword}{apos pos:Pos}{a ir:IX}{as:List IX}(mo:ME X a0 o (R.e a))(ml:MA X a0 args (bR R.e as))(h1:aC o=true)(h2:args.all noStar=true)(h4:dS args kws=true)(h5:aU apos pos=true)(ho:M.e C o=some a)(ha:bN (M.e C) args=some as)(e:gQ m args kws a as=some ir):ME X a0 (.Call (.Attribute o m apos) args kws pos) (bG E R ir):=by
 unfold gQ at e;split at e
 ·rename_i hx;subst hx;split at e
  ·rename_i e0;cases e;exact iy JH PySem.F.slot_list_append PySem.F.type_list_append pS de mo ml h1 h2 h4 h5
  ·cases e
 ·split at e
  ·rename_i hx;subst hx;split at e
   ·rename_i e0;cases e;exact iy JH PySem.F.slot_list_extend PySem.F.type_list_extend ow de mo ml h1 h2 h4 h5
   ·cases e
  ·split at e
   ·rename_i hx;subst hx;split at e
    ·cases e;exact mN JH LD LF xH de mo h1 h5
    ·rename_i e0 b;cases e;have hb:M.e C e0=some b:=jj (fQ h2) ha;exact yG mo (S.me h hb) h1 (fQ h2) h4 h5
    ·cases e
   ·split at e
    ·rename_i hx;subst hx;split at e
     ·rename_i e0 b;cases e;exact wW h.CV mo (S.me h (jj (fQ h2) ha)) h1 (fQ h2) h5
     ·rename_i e0 e1 b c;cases e;obtain⟨n1,n2⟩:=eK h2;obtain⟨q1,q2⟩:=tS n1 n2 ha;exact vw h.CV mo (S.me h q1) (S.me h q2) h1 n1 n2 h5
     ·cases e
    ·split at e
     ·rename_i hx;subst hx;split at e
      ·rename_i e0;cases e;exact iy JH PySem.F.slot_list_index PySem.F.type_list_index (sW h.hu) de mo ml h1 h2 h4 h5
      ·cases e
     ·split at e
      ·rename_i hx;subst hx;split at e
       ·rename_i e0;cases e;exact iy Lj Ld PySem.F.type_dict_update zy oA mo ml h1 h2 h4 h5
       ·cases e
      ·split at e
       ·rename_i hx;subst hx;split at e
        ·cases e;exact yU mo h1 h5
        ·cases e
       ·split at e
        ·rename_i hx;subst hx;split at e
         ·cases e;exact mN JH PySem.F.slot_list_reverse PySem.F.type_list_reverse zt de mo h1 h5
         ·cases e
        ·split at e
         ·rename_i sk e0 _ hsm;cases e;exact Eu hsm mo ml h1 h2 h4 h5
         ·cases e
theorem meth_ok(S:eU a0 P E k M R)(ns:gN M)(h:cj X a0 P E k C){o:Expr}{m:Jh}{args:List Expr}{kws:List Keyword}{apos pos:Pos}{ir:IX}(e:d5 P M C o m apos args kws pos=some ir):ME X a0 (.Call (.Attribute o m apos) args kws pos) (bG E R ir):=by
 unfold d5 at e;split at e
 ·rename_i h1;split at e
  ·rename_i h2;split at e
   ·rename_i h4;split at e
    ·rename_i h5;split at e
     ·rename_i ks hks;split at e
      ·rename_i a as zs ho ha hz;have mo:=S.me h ho;have ml:=bS S ns h ha;have mk:=fy S ns h hz;split at e
       ·exact EU S h mo ml h1 h2 h4 h5 ho ha e
       ·split at e
        ·rename_i tb htb;cases e;have T:=qj h htb;cases args with
         | nil=>cases ha; exact xq T h.room mo mk h1 hks h4 h5
         | cons e0 es=>exact Ao T h.room mo ml mk h1 h2 hks h4 h5
        ·cases e
      ·cases e
     ·cases e
    ·cases e
   ·cases e
  ·cases e
 ·cases e
theorem qQ(h:cj X a0 P E k C){f:Jh}{tb}(e:bQ P 1 [] (P.prp f)=some tb):rP X a0 k f (methP E tb):=by
 intro C i hi;unfold methP at hi;split at hi
 ·rename_i j n m d hl;cases hi;obtain⟨j',n',d',hz,hrow,hsh⟩:=cg e C _ hl;cases hz;obtain⟨c,p,g,hp,F⟩:=h.prp f C j hrow;exact⟨rfl,rfl,c,p,g,hp,F _ _ _ _ hsh⟩
 ·cases hi
theorem nN{is vs:List Nat}(h:subB is vs=true):∀ i∈is,i∈vs:=fun i hi=>by
 unfold subB at h;have:=Jm.mp h i hi;simpa using this
theorem jk(S:eU a0 P E k M R)(h:cj X a0 P E k C){tg iter:Expr}{ifs:List Expr}{scope:Scope}{it g:IX}{ts:List IX}{vs:List Nat}(e:du P M C tg iter ifs scope=some (it,g,ts,vs)) :
  ck iter=true∧BlkOk X.N X.env.scope scope (ownOf P.N scope.names)∧vs=(ownOf P.N scope.names).map (·.2)∧MI X a0 tg iter (R.i it)∧∃ is,(∀ i∈is,i∈vs)∧iU X scope (fun Y=>MG Y a0 tg is (R.g g))∧iU X scope (fun Y=>uj Y a0 ifs (gy R.t ts)):=by
 unfold du at e;split at e
 ·rename_i hn;split at e
  ·rename_i hb;split at e
   ·rename_i it0 g0 is ts0 h1 h2 h3;split at e
    ·rename_i hs;cases e;refine⟨hn, ?_,rfl,S.i X C tg iter it h h1,is,nN hs,fun s H Cc cl fp=>S.g _ _ tg g is h.blk h2,fun s H Cc cl fp=>jY S h.blk h3⟩
     rw[h.N,h.sc];exact blkOk_by hb
    ·cases e
   ·cases e
  ·cases e
 ·cases e
theorem Fq(S:eU a0 P E k M R)(h:cj X a0 P E k C){elt:Expr}{scope:Scope}{gs:List Comprehension}{pos:Pos}{ir:IX}(e:gO P M C elt scope gs=some ir):ME X a0 (.ListComp elt gs scope pos) (bG E R ir):=by
 unfold gO at e;split at e
 ·split at e
  ·rename_i it g ts vs el h1 h2;cases e;obtain⟨hn,ok,rfl,hi,is,hv,hg,ht⟩:=jk S h h1;exact rG (EC h.calm h.nd hi ok hv hg ht (fun s H Cc cl fp=>S.me h.blk h2) hn)
  ·cases e
 ·split at e
  ·rename_i hn1;split at e
   ·rename_i it g ts vs it1 g1 is1 ts1 el h1 h2 h3 h4 h5;split at e
    ·rename_i hs;cases e;obtain⟨hn,ok,rfl,hi,is,hv,hg,ht⟩:=jk S h h1;exact CM h.calm h.nd hi ok hv (nN hs) hg ht (fun s H Cc cl fp=>S.i _ _ _ _ _ h.blk h2) (fun s H Cc cl fp=>S.g _ _ _ _ _ h.blk h3) (fun s H Cc cl fp=>jY S h.blk h4) (fun s H Cc cl fp=>S.me h.blk h5) hn hn1
    ·cases e
   ·cases e
  ·cases e
 ·cases e
theorem Er(S:eU a0 P E k M R)(h:cj X a0 P E k C){kx vx:Expr}{scope:Scope}{gs:List Comprehension}{pos:Pos}{ir:IX}(e:gE P M C kx vx scope gs=some ir):ME X a0 (.DictComp kx vx gs scope pos) (bG E R ir):=by
 unfold gE at e;split at e
 ·split at e
  ·rename_i it g ts vs x y h1 h2 h3;cases e;obtain⟨hn,ok,rfl,hi,is,hv,hg,ht⟩:=jk S h h1;exact rG (Eo h.calm h.nd hi ok hv hg ht (fun s H Cc cl fp=>S.me h.blk h2) (fun s H Cc cl fp=>S.me h.blk h3) hn)
  ·cases e
 ·cases e
theorem map_some{α β:Type}{o:Option α}{f:α → β}{b:β}(h:o.map f=some b):∃ a,o=some a∧b=f a:=by
 cases o with
 | none=>cases h
 | some a=>cases h; exact⟨a,rfl,rfl⟩
theorem yM(S:eU a0 P E k M R)(h:cj X a0 P E k C){f:Jh}{a:Expr}{p pos:Pos}{ir:IX}(e:d6 P M C f a=some ir):ME X a0 (.Call (.Name f p) [a] [] pos) (bG E R ir):=by
 unfold d6 at e;split at e
 ·split at e
  ·rename_i hx;subst hx;split at e
   ·rename_i hgl;split at e
    ·rename_i hf;split at e
     ·rename_i it g ts vs el h1 h2;cases e;obtain⟨hn,ok,rfl,hi,is,hv,hg,ht⟩:=jk S h h1;exact tG h.calm h.nd (h.dI hgl) (h.free _ hf) hi ok hv hg ht (fun s H Cc cl fp=>S.me h.blk h2) hn
     ·cases e
    ·cases e
   ·cases e
  ·cases e
 ·split at e
  ·rename_i hx;obtain⟨rfl,rfl⟩:=hx;split at e
   ·rename_i hgl;split at e
    ·rename_i hf;split at e
     ·rename_i hgl2;split at e
      ·rename_i hf2;split at e
       ·rename_i hns;obtain⟨b,hb,rfl⟩:=map_some e;exact qH h.calm (h.dI hgl) (h.free _ hf) (h.dI hgl2) (h.free _ hf2) (S.me h hb) (aH hns)
       ·cases e
      ·cases e
     ·cases e
    ·cases e
   ·cases e
  ·cases e
 ·cases e
theorem DU(S:eU a0 P E k M R)(h:cj X a0 P E k C){f:Jh}{a:Expr}{p pos:Pos}{ir:IX}(e:iS P M C f a=some ir):ME X a0 (.Call (.Name f p) [a] [] pos) (bG E R ir):=by
 unfold iS at e;split at e
 ·split at e
  ·rename_i hx;obtain⟨rfl,rfl⟩:=hx;split at e
   ·rename_i hgl;split at e
    ·rename_i hf;split at e
     ·rename_i h1;split at e
      ·rename_i h2;obtain⟨a,ha,rfl⟩:=map_some e;exact nE h.calm (S.me h ha) (h.dI hgl) (h.free _ hf) h1 h2
      ·cases e
     ·cases e
    ·cases e
   ·cases e
  ·cases e
 ·cases e
theorem aM{a b:Option IX}{ir:IX}(h:orElse' a b=some ir):a=some ir∨b=some ir:=by
 cases a with
 | none=>exact .inr h
 | some x=>exact .inl h
theorem vp(S:eU a0 P E k M R)(ns:gN M)(h:cj X a0 P E k C){f:Jh}{args:List Expr}{kws:List Keyword}{p pos:Pos}{ir:IX}(e:c6 P M C f args kws=some ir):ME X a0 (.Call (.Name f p) args kws pos) (bG E R ir):=by
 unfold c6 at e;split at e
 ·rcases aM e with e | e
  ·exact yM S h e
  ·rcases aM e with e | e
   ·exact DU S h e
   ·rcases aM e with e | e
    ·exact vY S ns h e
    ·exact rO S ns h e
 ·rcases aM e with e | e
  ·exact Aa S ns h e
  ·rcases aM e with e | e
   ·exact vY S ns h e
   ·exact rO S ns h e
theorem xc{c:Const}{j:Nat}{pos:Pos}{ir:IX}(e:fN c=some ir):ME X a0 (.Constant c j pos) (bG E R ir):=by
 unfold fN at e;split at e
 ·cases e; exact BU
 ·cases e; exact Cg
 ·cases e; exact DY
 ·cases e; exact CY
 ·cases e
theorem u5{i:Int}{j:Nat}{p pos:Pos}:ME X a0 (.UnaryOp .USub (.Constant (.int i) j p) pos) (fun _ h=> .ok (.int (-i)) h) :=
 PE.imp (pe_un un_neg pe_int) fun σ H Q ⟨μ,s,ah,hs,hr,p⟩=>⟨i,rfl,p.ret hr .int⟩
end
section
variable {X:Cx}{a0:Addr}{P:eV}{E:Env0}{k:Nat}{C:Ct}{M:Cm}{R:Rn}
def cf:IX→Bool
 | .and .. => false
 | .or .. => false
 | .one .. => false
 | .not .. => false
 | .ife .. => false
 | .cmp .. => false
 | .chain .. => false
 | .eqO .. => false
 | _=>true
theorem oC{ir:IX}(h:cf ir=true):stepT E R ir=fun s h=>yj (bG E R ir s h):=by
 cases ir<;>first | rfl | cases h
theorem both{ex:Expr}{ir:IX}(h:ME X a0 ex (bG E R ir))(h1:cf ir=true)(h2:iO ex=true)(h3:Ac ex=false):ME X a0 ex (bG E R ir)∧MT X a0 ex (stepT E R ir)∧(Ac ex=true→MW X a0 ex (stepT E R ir)) :=
 ⟨h,oC h1 ▸ fF h h2,fun z=>by rw[h3]at z; cases z⟩
theorem ig{b:BC}{args:List Expr}{as:List IX}:cf (iZ P b args as)=true∧∀ y,iZ P b args as≠ .star y:=by
 unfold iZ;repeat' split
 all_goals exact⟨rfl,nofun⟩
theorem ft{x:Jh}{args kws}{ir:IX}(e:cS P M C x args kws=some ir):cf ir=true:=by
 unfold cS at e;repeat' (split at e)
 all_goals first | (cases e; done) | (injection e with e; subst e; first | rfl | exact ig.1)
theorem bm_plain{m:Jh}{args kws}{a ir:IX}{as:List IX}(e:gQ m args kws a as=some ir):cf ir=true:=by
 unfold gQ at e;repeat' (split at e)
 all_goals (cases e<;>rfl)
theorem yX{m:Jh}{args kws}{a y:IX}{as:List IX}(e:gQ m args kws a as=some (.star y)):False:=by
 unfold gQ at e;repeat' (split at e)
 all_goals (cases e; done)
theorem kh{o:Expr}{m:Jh}{apos args kws pos}{ir:IX}(e:d5 P M C o m apos args kws pos=some ir):cf ir=true:=by
 unfold d5 at e;repeat' (split at e)
 all_goals first | exact bm_plain e | (cases e<;>rfl)
theorem kU{f:Jh}{a:Expr}{ir:IX}(e:d6 P M C f a=some ir):cf ir=true:=by
 unfold d6 at e;repeat' (split at e)
 all_goals first | (obtain⟨_,_,rfl⟩:=map_some e; rfl) | (cases e<;>rfl)
theorem ny{f:Jh}{a:Expr}{ir:IX}(e:iS P M C f a=some ir):cf ir=true:=by
 unfold iS at e;repeat' (split at e)
 all_goals first | (obtain⟨_,_,rfl⟩:=map_some e; rfl) | (cases e; done)
theorem gu{f:Jh}{args:List Expr}{kws:List Keyword}{ir:IX}(e:dr P M C f args kws=some ir):cf ir=true:=by
 unfold dr at e;repeat' (split at e)
 all_goals (cases e<;>rfl)
theorem lB{f:Jh}{args:List Expr}{kws:List Keyword}{ir:IX}(e:fP P M C f args kws=some ir):cf ir=true:=by
 unfold fP at e;repeat' (split at e)
 all_goals (cases e<;>rfl)
theorem nj{o:Expr}{m:Jh}{apos args kws pos}{ir:IX}(e:iT P C o m apos args kws pos=some ir):cf ir=true:=by
 unfold iT at e;repeat' (split at e)
 all_goals (cases e<;>rfl)
theorem jF{f:Jh}{args:List Expr}{kws:List Keyword}{ir:IX}(e:c6 P M C f args kws=some ir):cf ir=true:=by
 unfold c6 at e;split at e
 ·rcases aM e with e | e
  ·exact kU e
  ·rcases aM e with e | e
   ·exact ny e
   ·rcases aM e with e | e
    ·exact gu e
    ·exact ft e
 ·rcases aM e with e | e
  ·exact lB e
  ·rcases aM e with e | e
   ·exact gu e
   ·exact ft e
theorem A1(S:eU a0 P E k M R)(h:cj X a0 P E k C):∀{es:List Expr} {irs:List IX},fv (M.e C) es=some irs→MJ X a0 es (irs.map R.e)
 | [],irs,e=>by cases e; exact .nil
 | x::r,irs,e=>by
  unfold fv at e;split at e
  ·rename_i a b q1 q2;cases e;exact .cons (S.me h q1) (A1 S h q2)
  ·cases e
theorem ou (h:cj X a0 P E k C) {tb} (e:bQ P 2 [] (P.mth "__eq__")=some tb):r6 X a0 (k+1) P.dj (bz E [] tb)∧r6 X a0 k P.dj (methP E tb):=by
 constructor
 ·refine⟨?_,h.subs⟩;intro D i hi;unfold bz at hi;split at hi
  ·rename_i j n m d hl;cases hi;obtain⟨j',n',d',hz,hrow,hsh⟩:=cg e D _ hl;cases hz;obtain⟨c,f,hM,F⟩:=h.mth _ D j hrow;obtain⟨q1,q2,_⟩:=h.eqs D j hrow;exact⟨rfl,rfl,q1,q2,f,hM,F _ _ _ _ hsh⟩
  ·cases hi
 ·refine⟨?_,h.subs⟩;intro D i hi;unfold methP at hi;split at hi
  ·rename_i j n m d hl;cases hi;obtain⟨j',n',d',hz,hrow,hsh⟩:=cg e D _ hl;cases hz;obtain⟨q1,q2,f,hM,F⟩:=h.eqs D j hrow;exact⟨rfl,rfl,q1,q2,f,hM,F _ _ _ _ hsh⟩
  ·cases hi
theorem jV(S:eU a0 P E k M R)(h:cj X a0 P E k C){a b:Expr}{op:CmpOp}{x y:IX}{pos:Pos}(h1:M.e C a=some x)(h2:M.e C b=some y)(hm:behindInMarks op b=false):ME X a0 (.Compare a [op] [b] pos) (bG E R (fO P op a b x y))∧MT X a0 (.Compare a [op] [b] pos) (stepT E R (fO P op a b x y)):=by
 have plain:ME X a0 (.Compare a [op] [b] pos) (bG E R (.cmp op x y))∧MT X a0 (.Compare a [op] [b] pos) (stepT E R (.cmp op x y)):=⟨qe (fM h _) (S.me h h1) (S.me h h2) hm,qW (fM h _) (S.me h h1) (S.me h h2) hm⟩;unfold fO;split
 ·split
  ·rename_i r t hr;obtain⟨T,_⟩:=ou h hr;exact⟨qe (uu T h.room) (S.me h h1) (S.me h h2) hm,qW (uu T h.room) (S.me h h1) (S.me h h2) hm⟩
  ·rename_i r t hr;obtain⟨_,T⟩:=ou h hr;exact⟨qe (vh T h.room) (S.me h h1) (S.me h h2) hm,qW (vh T h.room) (S.me h h1) (S.me h h2) hm⟩
  ·exact plain
 ·exact plain
theorem ni{op:CmpOp}{a b:Expr}{x y z:IX}(e:fO P op a b x y = .star z):False:=by
 unfold fO at e;repeat' (split at e)
 all_goals cases e
theorem xK(S:eU a0 P E k M R)(ns:gN M)(h:cj X a0 P E k C){ex:Expr}{ir:IX}(e:kO P M C ex=some ir):ME X a0 ex (bG E R ir)∧MT X a0 ex (stepT E R ir)∧(Ac ex=true→MW X a0 ex (stepT E R ir)):=by
 cases ex with
 | Constant c j pos=>
  refine both (xc e) ?_ rfl rfl;have e':fN c=some ir:=e;cases c<;>first | (cases e'; rfl) | cases e'
 | Name x pos=>
  obtain⟨h1,h2⟩:=zg (R:=R) (pos:=pos) h e;exact⟨h1,h2,fun z=>nomatch z⟩
 | UnaryOp op a pos=>
  have e':kZ M C op a=some ir:=e;unfold kZ at e';split at e'
  ·cases e';exact⟨u5,fF u5 rfl,fun z=>nomatch z⟩
  ·obtain⟨x,hx,rfl⟩:=map_some e';exact⟨CB (S.me h hx),Cd (S.mt h hx),fun z=>nomatch z⟩
  ·cases e'
 | BinOp a op b pos=>
  have e':(match M.e C a,M.e C b with
   | some x,some y=>some (IX.bin op x y)
   | _,_=>none)=some ir:=e
  split at e'
  ·rename_i x y h1 h2;cases e';exact both (Bv (yO op) (S.me h h1) (S.me h h2)) rfl rfl rfl
  ·cases e'
 | Compare a ops bs pos=>
  have e':iB P M C a ops bs=some ir:=e;unfold iB at e';split at e'
  ·split at e'
   ·cases e'
   ·rename_i hm;split at e'
    ·rename_i x y h1 h2;cases e';have hm':=Ks.mpr hm;exact⟨(jV S h h1 h2 hm').1,(jV S h h1 h2 hm').2,fun z=>nomatch z⟩
    ·cases e'
  ·split at e'
   ·cases e'
   ·rename_i hm;split at e'
    ·rename_i x y z h1 h2 h3;cases e';have hm':=Ks.mpr hm;exact⟨wm (fM h _) (fM h _) (S.me h h1) (S.me h h2) (S.me h h3) hm',xx (fM h _) (fM h _) (S.me h h1) (S.me h h2) (S.me h h3) hm',fun z=>nomatch z⟩
    ·cases e'
  ·cases e'
 | BoolOp op as pos=>
  have e':j6 M C op pos as=some ir:=e;unfold j6 at e';split at e'
  ·rename_i a1;obtain⟨x,hx,rfl⟩:=map_some e';have w:MW X a0 (.BoolOp op [a1] pos) (R.t x):=by
    cases op
    ·exact yA (S.mt h hx)
    ·exact Bx (S.mt h hx)
   exact⟨Bp (S.me h hx),w.mt,fun _=>w⟩
  ·split at e'
   ·rename_i x y h1 h2;cases e';obtain⟨s1,s2,s3⟩:=S.e X C _ y h h2;cases op
    ·have w:=BL (S.mt h h1) (s3 rfl);exact⟨Bu (S.me h h1) s1,w.mt,fun _=>w⟩
    ·have w:=El (S.mt h h1) (s3 rfl);exact⟨FF (S.me h h1) s1,w.mt,fun _=>w⟩
   ·cases e'
  ·cases e'
 | IfExp c a b pos=>
  have e':(match M.e C c,M.e C a,M.e C b with
   | some x,some y,some z=>some (IX.ife x y z)
   | _,_,_=>none)=some ir:=e
  split at e'
  ·rename_i x y z h1 h2 h3;cases e';exact⟨Fx (S.mt h h1) (S.me h h2) (S.me h h3),DV (S.mt h h1) (S.mt h h2) (S.mt h h3),fun z=>nomatch z⟩
  ·cases e'
 | Tuple es j pos=>
  obtain⟨x,hx,rfl⟩:=map_some (show(bN (M.e C) es).map IX.tup=some ir from e)
  exact both (Cq (bS S ns h hx)) rfl rfl rfl
 | List es pos=>
  obtain⟨x,hx,rfl⟩:=map_some (show(bN (M.e C) es).map IX.lst=some ir from e)
  exact both (BD (bS S ns h hx)) rfl rfl rfl
 | Subscript a b pos=>
  have e':iA M C a b=some ir:=e;unfold iA at e';split at e'
  ·split at e'
   ·rename_i x y z h1 h2 h3;cases e';exact both (DL (S.me h h1) (lO S h h2) (lO S h h3)) rfl rfl rfl
   ·cases e'
  ·obtain⟨x,hx,rfl⟩:=map_some e';exact both (Ai (S.me h hx)) rfl rfl rfl
  ·split at e'
   ·rename_i hn;split at e'
    ·rename_i x y h1 h2;cases e';exact both (BH h.tab h.CV (S.me h h1) (S.me h h2) (pY hn)) rfl rfl rfl
    ·cases e'
   ·cases e'
 | Attribute a name pos=>
  have e':(if aC a=true then(match P.prp name with
   | []=>(M.e C a).map fun x=>IX.fld x name
   | row=>(match bQ P 1 [] row with
    | some tb=>(M.e C a).map fun x=>IX.prop x name tb
    | none=>none))else none)=some ir:=e
  split at e'
  ·rename_i hn;split at e'
   ·obtain⟨x,hx,rfl⟩:=map_some e';exact both (Du h.no (S.me h hx) hn) rfl rfl rfl
   ·split at e'
    ·rename_i tb ht;obtain⟨x,hx,rfl⟩:=map_some e';exact both (zk (qQ h ht) h.no h.room (S.me h hx) hn) rfl rfl rfl
    ·cases e'
  ·cases e'
 | Call f args kws pos=>
  have e':dW P M C args kws pos f=some ir:=e;unfold dW at e';split at e'
  ·exact both (vp S ns h e') (jF e') rfl rfl
  ·rcases aM e' with e' | e'
   ·exact both (DK h e') (nj e') rfl rfl
   ·exact both (meth_ok S ns h e') (kh e') rfl rfl
  ·cases e'
 | FormattedValue a j sp pos=>
  have e':kO P M C (.FormattedValue a j sp pos)=some ir:=e;unfold kO at e';split at e'<;>try cases e'
  all_goals first | (rename_i q; cases q; done) | skip
  rename_i q;cases q;obtain⟨x,hx,rfl⟩:=map_some e';exact both (Dt (S.me h hx)) rfl rfl rfl
 | JoinedStr es pos=>
  have e':ie (M.e C) es=some ir:=e;unfold ie at e';split at e'
  ·obtain⟨x,hx,rfl⟩:=map_some e';exact both (yF (A1 S h hx)) rfl rfl rfl
  ·cases e'
 | Dict ks vs pos=>
  have e':c8 M C vs ks=some ir:=e;refine both (AF S h e') ?_ rfl rfl;unfold c8 at e';repeat' (split at e')
  all_goals (cases e'<;>rfl)
 | ListComp elt gs scope pos=>
  have e':gO P M C elt scope gs=some ir:=e;refine both (Fq S h e') ?_ rfl rfl;unfold gO at e';repeat' (split at e')
  all_goals (cases e'<;>rfl)
 | DictComp kx vx gs scope pos=>
  have e':gE P M C kx vx scope gs=some ir:=e;refine both (Er S h e') ?_ rfl rfl;unfold gE at e';repeat' (split at e')
  all_goals (cases e'<;>rfl)
 | _=>cases e
theorem vP{e:Expr}:MW X a0 e (fun _ _=> .stuck):=⟨fun _ _ _ _ _ _ _ h=>by obtain⟨_,_,_,_,_,p⟩:=h; exact p.elim⟩
theorem w4{tg e:Expr}:MI X a0 tg e (fun _ _=> .stuck):=⟨fun _ _ _ _ _ _ h=>by obtain⟨_,_,_,_,_,p⟩:=h; exact p.elim⟩
theorem oE{C:Ct}{ex:Expr}{y:IX}(e:kO P M C ex=some (.star y)):False:=by
 cases ex with
 | Constant c j pos=>cases c<;>cases e
 | Name x pos=>
  have e':fu P C x=some (.star y):=e;unfold fu at e';repeat' (split at e')
  all_goals first | (obtain⟨_,_,z⟩:=map_some e'; cases z; done) | (cases e'; done)
 | UnaryOp op a pos=>
  have e':kZ M C op a=some (.star y):=e;unfold kZ at e';repeat' (split at e')
  all_goals first | (obtain⟨_,_,z⟩:=map_some e'; cases z; done) | (cases e'; done)
 | BinOp a op b pos=>
  have e':(match M.e C a,M.e C b with
   | some x,some y=>some (IX.bin op x y)
   | _,_=>none)=some (.star y):=e
  repeat' (split at e')
  all_goals (cases e'; done)
 | Compare a ops bs pos=>
  have e':iB P M C a ops bs=some (.star y):=e;unfold iB at e';repeat' (split at e')
  all_goals first | (cases e'; done) | (injection e' with e'; exact(ni e').elim)
 | BoolOp op as pos=>
  have e':j6 M C op pos as=some (.star y):=e;unfold j6 at e';repeat' (split at e')
  all_goals first | (obtain⟨_,_,z⟩:=map_some e'; cases z; done) | (cases op<;>cases e'; done) | (cases e'; done)
 | IfExp c a b pos=>
  have e':(match M.e C c,M.e C a,M.e C b with
   | some x,some y,some z=>some (IX.ife x y z)
   | _,_,_=>none)=some (.star y):=e
  repeat' (split at e')
  all_goals (cases e'; done)
 | Tuple es j pos=>
  obtain⟨_,_,z⟩:=map_some (show(bN (M.e C) es).map IX.tup=some (.star y)from e)
  cases z
 | List es pos=>
  obtain⟨_,_,z⟩:=map_some (show(bN (M.e C) es).map IX.lst=some (.star y)from e)
  cases z
 | Subscript a b pos=>
  have e':iA M C a b=some (.star y):=e;unfold iA at e';repeat' (split at e')
  all_goals first | (obtain⟨_,_,z⟩:=map_some e'; cases z; done) | (cases e'; done)
 | Attribute a name pos=>
  have e':(if aC a=true then(match P.prp name with
   | []=>(M.e C a).map fun x=>IX.fld x name
   | row=>(match bQ P 1 [] row with
    | some tb=>(M.e C a).map fun x=>IX.prop x name tb
    | none=>none))else none)=some (.star y):=e
  repeat' (split at e')
  all_goals first | (obtain⟨_,_,z⟩:=map_some e'; cases z; done) | (cases e'; done)
 | Call f args kws pos=>
  have e':dW P M C args kws pos f=some (.star y):=e;have vn:∀{x},dr P M C x args kws≠some (.star y):=fun{x} e=>by
   unfold dr at e;repeat' (split at e)
   all_goals (cases e; done)
  have key:∀{x},cS P M C x args kws≠some (.star y):=fun{x} e=>by
   unfold cS at e;repeat' (split at e)
   all_goals first | (cases e; done) | (injection e with e; exact ig.2 _ e)
  unfold dW at e';split at e'
  ·unfold c6 at e';split at e'
   ·rcases aM e' with e | e
    ·unfold d6 at e;repeat' (split at e)
     all_goals first | (obtain⟨_,_,z⟩:=map_some e; cases z; done) | (cases e; done)
    ·rcases aM e with e | e
     ·unfold iS at e;repeat' (split at e)
      all_goals first | (obtain⟨_,_,z⟩:=map_some e; cases z; done) | (cases e; done)
     ·rcases aM e with e | e
      ·exact vn e
      ·exact key e
   ·rcases aM e' with e | e
    ·unfold fP at e;repeat' (split at e)
     all_goals (cases e; done)
    ·rcases aM e with e | e
     ·exact vn e
     ·exact key e
  ·rcases aM e' with e' | e'
   ·unfold iT at e';repeat' (split at e')
    all_goals (cases e'; done)
   ·unfold d5 at e';repeat' (split at e')
    all_goals first | exact yX e' | (cases e'; done)
  ·cases e'
 | FormattedValue a j sp pos=>
  have e':kO P M C (.FormattedValue a j sp pos)=some (.star y):=e;unfold kO at e';split at e'<;>try cases e'
  all_goals first | (rename_i q; cases q; done) | skip
  obtain⟨_,_,z⟩:=map_some e';cases z
 | JoinedStr es pos=>
  have e':ie (M.e C) es=some (.star y):=e;unfold ie at e';split at e'
  ·obtain⟨_,_,z⟩:=map_some e';cases z
  ·cases e'
 | Dict ks vs pos=>
  have e':c8 M C vs ks=some (.star y):=e;unfold c8 at e';repeat' (split at e')
  all_goals (cases e'; done)
 | ListComp elt gs scope pos=>
  have e':gO P M C elt scope gs=some (.star y):=e;unfold gO at e';repeat' (split at e')
  all_goals (cases e'; done)
 | DictComp kx vx gs scope pos=>
  have e':gE P M C kx vx scope gs=some (.star y):=e;unfold gE at e';repeat' (split at e')
  all_goals (cases e'; done)
 | _=>cases e
theorem qc:gN (uN P M):=fun C ex y e=>(aM e).elim oE fun z=>nomatch z
theorem iE{tg:Expr}(h:isTup tg=true):∃ es j p,tg = .Tuple es j p:=by
 cases tg<;>first | exact⟨_,_,_,rfl⟩ | cases h
theorem xg(S:eU a0 P E k M R)(ns:gN M)(h:cj X a0 P E k C){tg ex:Expr}{ir:IX}(e:xV P M C tg ex=some ir):MI X a0 tg ex (stepI E R ir):=by
 have val:∀{ex:Expr} {ir},(M.e C ex).map IX.iVal=some ir→MI X a0 tg ex (stepI E R ir):=fun{ex ir} e=>by
  obtain⟨x,hx,rfl⟩:=map_some e;exact vC (S.me h hx)
 unfold xV at e;split at e
 ·rename_i f p args kws pos;split at e
  ·rename_i hgl;split at e
   ·rename_i hf;split at e
    ·rename_i hall;split at e
     ·rename_i as ha;have ml:=bS S ns h ha;by_cases hx:f=("range" : Jh)
      ·rw[if_pos hx]at e;subst hx;split at e
       ·cases e; exact y6 (h.dI hgl) (h.free _ hf) ml (fQ hall)
       ·cases e; exact Aj (h.dI hgl) (h.free _ hf) ml (eK hall).1 (eK hall).2
       ·cases e
      ·rw[if_neg hx]at e;by_cases hx:f=("enumerate" : Jh)
       ·rw[if_pos hx]at e;subst hx;split at e
        ·split at e
         ·rename_i ht;cases e;obtain⟨es,j,p,rfl⟩:=iE ht;exact yt (h.dI hgl) (h.free _ hf) ml (fQ hall)
         ·cases e
        ·cases e
       ·rw[if_neg hx]at e;by_cases hx:f=("zip" : Jh)
        ·rw[if_pos hx]at e;subst hx;split at e
         ·split at e
          ·rename_i ht;cases e;obtain⟨es,j,p,rfl⟩:=iE ht;exact B2 (h.dI hgl) (h.free _ hf) ml (eK hall).1 (eK hall).2
          ·cases e
         ·split at e
          ·rename_i ht;cases e;obtain⟨ht,rfl⟩:=ht;obtain⟨es,j,p,rfl⟩:=iE ht;exact za (h.dI hgl) (h.free _ hf) ml (eK hall).1 (eK hall).2
          ·cases e
         ·cases e
        ·rw[if_neg hx]at e;exact val e
     ·cases e
    ·cases e
   ·exact val e
  ·exact val e
 ·rename_i o m apos cpos;by_cases hx:m=("items" : Jh)
  ·rw[if_pos hx]at e;subst hx;split at e
   ·rename_i hc;obtain⟨ht,h1,h2⟩:=hc;obtain⟨x,hx,rfl⟩:=map_some e;obtain⟨es,j,p,rfl⟩:=iE ht;exact xB (S.me h hx) h1 h2
   ·cases e
  ·rw[if_neg hx]at e;by_cases hx:m=("values" : Jh)
   ·rw[if_pos hx]at e;subst hx;split at e
    ·rename_i hc;obtain⟨h1,h2⟩:=hc;obtain⟨x,hx,rfl⟩:=map_some e;exact zd (S.me h hx) h1 h2
    ·cases e
   ·rw[if_neg hx]at e;by_cases hx:m=("waiting" : Jh)
    ·rw[if_pos hx]at e;obtain⟨x,hx,rfl⟩:=map_some e;exact CS (S.me h hx)
    ·rw[if_neg hx]at e;exact val e
 ·split at e
  ·obtain⟨x,hx,rfl⟩:=map_some e;exact Bn (S.me h hx)
  ·exact val e
theorem l5:∀{es:List Expr} {i:Nat},iW es=some i→i<es.length
 | [],i,h=>by cases h
 | x::r,i,h=>by
  have gen:(iW r).map (· + 1)=some i→i<(x::r).length:=fun h=>by
   obtain⟨j,hj,rfl⟩:=map_some h;have:=l5 hj;simp; omega
  cases x<;>first | exact gen h | (cases h; simp)
theorem uO(S:eU a0 P E k M R)(h:cj X a0 P E k C){ex:Expr}{ir:IX}{is:List Nat}(e:vK P M C ex=some (ir,is)):MG X a0 ex is (AW E R ir):=by
 unfold vK at e;split at e
 ·rename_i x0 p0;split at e
  ·rename_i hk;obtain⟨i,hi,e2⟩:=map_some e;cases e2;have hk':X.env.scope.names.lookup x0=some .local:=by rw[h.sc]; exact hk
   exact rW h.nd (h.idx hi) (.inl hk') (.inr hk')
  ·rename_i hk;split at e
   ·rename_i hf;obtain⟨i,hi,e2⟩:=map_some e;cases e2;have hk':X.env.scope.names.lookup x0=some .cell:=by rw[h.sc]; exact hk
    exact rW h.nd (h.idx hi) (.inr hk') (.inl (by rw[h.fn]; exact hf))
   ·cases e
  ·cases e
 ·rename_i es j p;split at e
  ·rename_i ts is' h1;split at e
   ·split at e
    ·rename_i hn;cases e;exact Dn h.calm (fU S h h1) hn
    ·cases e
   ·rename_i i hi;split at e
    ·rename_i hc;cases e;have hlt:=l5 hi;exact zR h.calm (fU S h h1) hi (by omega)
    ·cases e
  ·cases e
 ·split at e
  ·rename_i hn;split at e
   ·rename_i x y h1 h2;cases e;exact CC h.CV (S.me h h1) (S.me h h2) hn
   ·cases e
  ·cases e
 ·obtain⟨x,hx,e2⟩:=map_some e;cases e2;exact Dr h.no (S.me h hx)
 ·cases e
theorem eU.step(S:eU a0 P E k M R)(ns:gN M):eU a0 P E k (uN P M) (step E R) where
 e:=fun X C ex ir h e=>(aM e).elim (xK S ns h) fun z=>by
  cases z;exact⟨vQ,xS,fun _=>vP⟩
 i:=fun X C tg ex ir h e=>(aM e).elim (xg S ns h) fun z=>by
  cases z;exact w4
 g:=fun X C ex ir is h e=>uO S h e
theorem nV:∀ n,eU a0 P E k (kf P n) (qM E n)∧gN (kf P n)
 | 0=>⟨⟨fun _ _ _ _ _ e=>(by cases e),fun _ _ _ _ _ _ e=>(by cases e),fun _ _ _ _ _ _ e=>(by cases e)⟩,fun _ _ _ e=>(by cases e)⟩
 | n+1=>⟨(nV n).1.step (nV n).2,qc⟩
variable {Sx:Stmt→Option IS}{Sr:IS→AS}
def tP(X:Cx)(a0:Addr)(Sx:Stmt→Option IS)(Sr:IS→AS):Prop:=∀ st ir,Sx st=some ir→MS X a0 st (Sr ir)
theorem cD(S:tP X a0 Sx Sr):∀{sts:List Stmt} {irs:List IS},dO Sx sts=some irs→zm X a0 sts (eP Sr irs)
 | [],irs,e=>by cases e; exact sI
 | x::r,irs,e=>by
  have e':(match Sx x,dO Sx r with
   | some a,some b=>some (a::b)
   | _,_=>none)=some irs:=e
  split at e'
  ·rename_i a b h1 h2;cases e';exact wx (S x a h1) (cD S h2)
  ·cases e'
theorem z6{e:Expr}{tg:Expr}{l:Nat}{env:Env}(h:(fX e || !mT tg)=true):swapsWith e (some tg) l env=pure false:=by
 rw[JC]at h;rcases h with h | h
 ·exact v9 h
 ·cases e<;>first | rfl | (cases tg<;>first | rfl | (cases h; done))
theorem yo{tg e:Expr}{is:List Nat}{f:AE}{g:AG}{pos:Pos}(he:ME X a0 e f)(hg:MG X a0 tg is g)(hc:(fX e || !mT tg)=true)(ha:mr tg e=true):MS X a0 (.Assign [tg] e pos) (bZ f g) :=
 PS.imp (ps_asg he hg (by show swapsWith e (some tg) pos.line X.env=pure false; exact z6 hc) (vX ha) (rH ha)) fun D σ H ⟨μ,s,ah,hs,hr,p⟩=>⟨μ,s,ah,hs,hr,(aQ.bind p).mono fun x H1 ⟨μ1,v,h1,e1,hr1,r1,p1⟩=>
  ⟨μ1,v,s,h1,hs.ext e1,hr1,r1,(jM p1).weak fun _ _ _ _ z=>z.1⟩⟩
theorem vU(S:eU a0 P E k M R)(h:cj X a0 P E k C)(hp:PassesOwn (model X.prog X.w) X.A X.env X.xe)(hk:X.env.scope.kind = .function)(T:tP X a0 Sx Sr):tP X a0 (rT P M C Sx) (oh E R Sr):=by
 intro st ir e;unfold rT at e;split at e
 ·split at e
  ·rename_i hn;obtain⟨x,hx,rfl⟩:=map_some e;exact Ar (S.me h hx) hn
  ·cases e; exact j5
 ·obtain⟨x,hx,rfl⟩:=map_some e;exact Dl (S.me h hx)
 ·cases e; exact Ag
 ·cases e; exact zr
 ·cases e; exact vo
 ·cases e; exact oj
 ·split at e
  ·rename_i x y z h1 h2 h3;cases e;exact FC (S.mt h h1) (cD T h2) (cD T h3)
  ·cases e
 ·split at e
  ·rename_i hn;split at e
   ·rename_i it g is b h1 h2 h3;cases e;exact zT (C6 hp h.calm (S.i X C _ _ it h h1) (S.g X C _ g is h h2) (cD T h3) hn)
   ·cases e
  ·cases e
 ·split at e
  ·rename_i x b h1 h2;cases e;exact x8 hp (S.mt h h1) (cD T h2)
  ·cases e
 ·split at e
  ·rename_i hsw;split at e
   ·rename_i i it g ts vs el h1 h2 h3;split at e
    ·cases e;obtain⟨hn,ok,rfl,hi,is,hv,hg,ht⟩:=jk S h h2;unfold zN at hsw;rw[Ji,Ji,JF]at hsw;obtain⟨⟨s1,s2⟩,s3⟩:=hsw;have hyl:=of_decide_eq_true s1;rw[←h.sc]at hyl;exact uI h.calm h.nd (h.idx h1) hyl s2 hk s3 hi ok hv hg ht (fun s H Cc cl fp=>S.me h.blk h3) hn
    ·cases e
   ·cases e
  ·cases e
 ·split at e
  ·rename_i hc;obtain⟨hsw,hn1⟩:=hc;split at e
   ·rename_i i it g ts vs it1 g1 is1 ts1 el h1 h2 h3 h4 h5 h6;split at e
    ·rename_i hs;cases e;obtain⟨hn,ok,rfl,hi,is,hv,hg,ht⟩:=jk S h h2;unfold zN at hsw;rw[Ji,Ji,JF]at hsw;obtain⟨⟨s1,s2⟩,s3⟩:=hsw;have hyl:=of_decide_eq_true s1;rw[←h.sc]at hyl;exact ug h.calm h.nd (h.idx h1) hyl s2 hk s3 hi ok hv (nN hs) hg ht (fun s H Cc cl fp=>S.i _ _ _ _ _ h.blk h3) (fun s H Cc cl fp=>S.g _ _ _ _ _ h.blk h4) (fun s H Cc cl fp=>jY S h.blk h5) (fun s H Cc cl fp=>S.me h.blk h6) hn hn1
    ·cases e
   ·cases e
  ·cases e
 ·split at e
  ·rename_i hw;split at e
   ·rename_i x g is h1 h2;cases e;exact zw (S.me h h1) (S.g X C _ g is h h2) (by rw[h.sc]; exact hw)
   ·cases e
  ·cases e
 ·split at e
  ·rename_i hc;split at e
   ·rename_i x g is h1 h2;cases e;exact yo (S.me h h1) (S.g X C _ g is h h2) hc.1 hc.2
   ·cases e
  ·cases e
 ·rename_i x0 p0 e0 p1;split at e
  ·rename_i hkk;split at e
   ·rename_i i a h1 h2;cases e;have hk':X.env.scope.names.lookup x0=some .local:=by rw[h.sc]; exact hkk
    exact mi h.nd (h.idx h1) (.inl hk') (.inr hk') (S.me h h2)
   ·cases e
  ·rename_i hkk;split at e
   ·rename_i hf;split at e
    ·rename_i i a h1 h2;cases e;have hk':X.env.scope.names.lookup x0=some .cell:=by rw[h.sc]; exact hkk
     exact mi h.nd (h.idx h1) (.inr hk') (.inl (by rw[h.fn]; exact hf)) (S.me h h2)
    ·cases e
   ·cases e
  ·cases e
 ·cases e; exact j5
 ·cases e
theorem Cu{env:Env}{tg e:Expr}{l:Nat}(h:FQ env.scope tg e=true):swapsWith e (some tg) l env=pure false:=by
 unfold FQ at h
 have key:∀(s:Scope) (t:Jh) (p q:Pos),(!(env.scope.names.lookup t == some .local && p.line == q.line && !(s.names.any fun(n,k)=>n == t && (k == .local || k == .cell))))=true→
   (env.blockKind == .function && env.kindOf t == some .local && p.line == q.line && !(s.names.any fun(n,k)=>n == t && (k == .local || k == .cell)))=false:=fun s t p q hh=>by
  rw[JF]at hh;have e1:env.kindOf t=env.scope.names.lookup t:=rfl;rw[e1];cases h1:(env.blockKind == ScopeKind.function)with
  | false=>rfl
  | true=>rw[Bool.true_and]; exact hh
 cases e<;>first | rfl | (cases tg<;>first | rfl | (exact congrArg pure (key _ _ _ _ h)))
theorem zJ{tg e:Expr}{is:List Nat}{f:AE}{g:AG}{pos:Pos}(he:ME X a0 e f)(hg:MG X a0 tg is g)(hc:FQ X.env.scope tg e=true)(ha:mr tg e=true):MS X a0 (.Assign [tg] e pos) (bZ f g) :=
 PS.imp (ps_asg he hg (by show swapsWith e (some tg) pos.line X.env=pure false; exact Cu hc) (vX ha) (rH ha)) fun D σ H ⟨μ,s,ah,hs,hr,p⟩=>⟨μ,s,ah,hs,hr,(aQ.bind p).mono fun x H1 ⟨μ1,v,h1,e1,hr1,r1,p1⟩=>
  ⟨μ1,v,s,h1,hs.ext e1,hr1,r1,(jM p1).weak fun _ _ _ _ z=>z.1⟩⟩
theorem Bg{env:Env}(hk:env.scope.kind = .function):env.blockKind = .function:=by
 unfold Env.blockKind;rw[hk];rfl
theorem pT(S:eU a0 P E k M R)(ns:gN M)(h:cj X a0 P E k C)(hk:X.env.scope.kind = .function){ts vs:List Expr}{k1 k2:Nat}{pt p2 pos:Pos}{ir:IS}(e:mX P M C vs ts=some ir):MS X a0 (.Assign [.Tuple ts k1 pt] (.Tuple vs k2 p2) pos) (oh E R Sr ir):=by
 unfold mX at e;split at e
 ·split at e
  ·rename_i x px y py ho;split at e
   ·rename_i i j l h1 h2 h3;cases e;rw[←h.sc]at ho;have ho2:=ho;unfold ji lW at ho2;simp only[Ji,beq_iff_eq]at ho2;obtain⟨⟨⟨⟨hl,_⟩,_⟩,_⟩,_⟩:=ho2
    match vs,hl with
    | [a,b],_=>exact AB (Bg hk) h.calm h.nd (h.idx h1) (h.idx h2) ho (bS S ns h h3)
   ·cases e
  ·cases e
 ·split at e
  ·rename_i x px y py z pz ho;split at e
   ·rename_i i j l q h1 h2 h3 h4;cases e;rw[←h.sc]at ho;have ho2:=ho;unfold jd lW at ho2;simp only[Ji,beq_iff_eq]at ho2;obtain⟨⟨⟨⟨hl,_⟩,_⟩,_⟩,_⟩:=ho2
    match vs,hl with
    | [a,b,c],_=>exact yY (Bg hk) h.calm h.nd (h.idx h1) (h.idx h2) (h.idx h3) ho (bS S ns h h4)
   ·cases e
  ·cases e
 ·cases e
theorem tK(S:eU a0 P E k M R)(ns:gN M)(h:cj X a0 P E k C)(hk:X.env.scope.kind = .function):tP X a0 (nL P M C) (oh E R Sr):=by
 intro st ir e;unfold nL at e;split at e
 ·exact pT S ns h hk e
 ·unfold rR at e;split at e
  ·rename_i hc;split at e
   ·rename_i x g is h1 h2;cases e;exact zJ (S.me h h1) (S.g X C _ g is h h2) (by rw[h.sc]; exact hc.1) hc.2
   ·cases e
  ·cases e
 ·split at e
  ·rename_i hkk;split at e
   ·rename_i i a h1 h2;cases e;rw[←h.sc]at hkk;exact tI h.nd (h.idx h1) (.inl hkk) (.inr hkk) (S.me h h2)
   ·cases e
  ·cases e
 ·split at e
  ·rename_i a b h1 h2;cases e;exact tW h.no (S.me h h1) (S.me h h2)
  ·cases e
 ·cases e
theorem iq(S:eU a0 P E k M R)(ns:gN M)(h:cj X a0 P E k C)(hp:PassesOwn (model X.prog X.w) X.A X.env X.xe)(hk:X.env.scope.kind = .function):∀ n,tP X a0 (oM P M C n) (uc E R n)
 | 0=>fun _ _ e=>(by cases e)
 | n+1=>fun st ir e=>by
  have e':(match rT P M C (oM P M C n) st with
   | some x=>some x
   | none=>(match nL P M C st with
    | some x=>some x
    | none=>some IS.no))=some ir:=e
  split at e'
  ·rename_i x hx;cases e';exact vU S h hp hk (iq S ns h hp hk n) st _ hx
  ·split at e'
   ·rename_i x hx;cases e';exact tK S ns h hk st _ hx
   ·cases e';exact j5
end
section
variable {X:Cx}{a0:Addr}{e o:Expr}{f:AE}{y:Str}{j k:Nat}{c0 c1 apos pos:Pos}
theorem zM{tg:Expr}{is:List Nat}{g:AG}(he:FT X a0 e f)(hg:MG X a0 tg is g)(hs:swapsWithSole [tg] e pos.line X.env=pure false)(hw:swappedStores [tg] e X.env=pure none)(h1:(assignEach [tg] X.env).map (·.2)=[assign tg X.env]):FY X a0 (.Assign [tg] e pos) (bZ f g):=by
 intro pins s σ H D l I q;have q':tAsg (d8 (Cx.wd X a0) f) (qd (Cx.wd X a0) is g) D σ H:=by
  obtain⟨μ,s,ah,hs,hr,p⟩:=q;exact⟨μ,s,ah,hs,hr,(aQ.bind p).mono fun x H1 ⟨μ1,v,h1,e1,hr1,r1,p1⟩=>⟨μ1,v,s,h1,hs.ext e1,hr1,r1,(jM p1).weak fun _ _ _ _ z=>z.1⟩⟩
 refine wpAny_Assign_stores (thn (he pins s σ H _ l I q') fun u s1 ⟨x,H1,I1,rx,q1⟩=> ?_) hs hw
 rw[h1];exact hg.run pins s1 σ H1 x u _ I1 rx q1
theorem yy{W:Wd}{f g:AS}{D:Ends}{σ:KJ}{H:Hp}(q:y5 W (ax f g) D σ H):tSeq (y5 W f) (y5 W g) D σ H:=by
 obtain⟨μ,s,ah,hs,hr,p⟩:=q;exact⟨μ,s,ah,hs,hr,kj p⟩
theorem tA{st:Stmt}{rest:List Stmt}{f1 g1:AS}(h1:FY X a0 st f1)(h2:yn X a0 rest g1):yn X a0 (st::rest) (ax f1 g1):=fun pins s σ H D l I q=>
 psst_cons h1 h2 pins s σ H D l I (yy q)
end
theorem yN{P:Program}{w:World}{K:Jj}{mg:Str→Option Value}{base:Heap}{CX:CXT}{k:Nat}{f:Addr}{fd:FuncData}{ps N:List Str}{sp:Sp}{name qual:Str}{params:Arguments}{body:List Stmt}{scope:Scope}{dvs:List V}{kws:List (Str×V)}
  (F:FunD K name qual params body scope dvs kws f fd) (S:FnScope N ps scope) (len:∀ vs H Q E,sp vs H Q E→vs.length=ps.length) (nc:∀ z∈scope.names,z.2≠ .cell) (p1:1≤ps.length)
  (hb0:∀(cdv:Value) (A:Around) (outer:List Env) (s:Shared) (H:Hp) (vs:List V) (Q:VK) (E:XK),Rm k (A.deeper (envOfC qual scope s.heap.objs.size f cdv))→sp vs H Q E→
   ∃ t,PSsT (cxOf CX P w K mg base N qual scope f cdv A outer s H E) body t∧t { nx:=fun _ H'=>Q .non H',rt:=Q } (start N vs) H):nW P w K mg base CX (k+1) f fd ps sp:=by
 obtain⟨oc,od,dV,kV,doc,pm,an,cdv,ct,osl,rfl,lk,hcd,_,_⟩:=F.ex;refine⟨len,fun A outer s H args us vs Q E room e0 bnd r sp0=> ?_⟩
 have l0:=len _ _ _ _ sp0;have l1:us.length=ps.length:=r.length.symm.trans l0;have pL:K.In s.heap:=e0.mod.kin.keeps fun b o e=>(e0.bs b o e).1
 have noLim:s.heap.NoLimit:=e0.mod.nolimit.keeps fun b o e=>(e0.bs b o e).1
 have loc:∀ z∈ps.zip us,scope.names.lookup z.1=some .local:=fun⟨n,v⟩ hz=>(S.par n (KY hz).1).elim id fun q=>absurd rfl (nc _ (K3 q))
 refine codeAny_call_function room.r.depth (pL _ _ lk) rfl S.co S.gen rfl (K6 pL hcd) (bnd _ _ _ _ ?_);refine wpAny_newFunctionEnv nc loc (fun h1 ns1 sb1=> ?_) S.kind
 have lz:(ps.zip us).length=ps.length:=by rw[List.length_zip,l1,Nat.min_self]
 have kept:∀ b o,s.heap.get? b=some o→h1.get? b=some o:=fun b o z=>sb1.extBut b o (Jx (Heap.lt_size z)) (Heap.get?_push_of_some _ z)
 have c0:cellsFrom (s.heap.objs.size+1) scope.names []=[]:=cells_none _ _ _ nc;have kl:∀ z∈ps.zip us,(envOfC qual scope s.heap.objs.size f cdv).kindOf z.1=some .local:=fun z hz=>by
  have q:=loc z hz;first
  | exact q
  | (unfold Env.kindOf; rw[if_pos S.kind]; exact q)
  | simpa [Env.kindOf,envOfC,newEnv,S.kind]using q
 have bm:(bindL (envOfC qual scope s.heap.objs.size f cdv).kindOf (ps.zip us) fun _=>none)=fun z=>(ps.zip us).reverse.lookup z:=funext fun z=>by
  rw[bindL_loc _ _ kl z];cases (ps.zip us).reverse.lookup z<;>rfl
 have x:InCallC s s.heap.objs.size (bindL (envOfC qual scope s.heap.objs.size f cdv).kindOf (ps.zip us) fun _=>none) (cellsFrom (s.heap.objs.size+1) scope.names [])
   (bindC (envOfC qual scope s.heap.objs.size f cdv).kindOf (ps.zip us) fun _=>none) (⟨h1,s.gens,s.drawn,s.toks+(ps.zip us).length,s.os⟩:Shared):=by
  rw[bm,c0];exact⟨⟨⟨_,_,rfl⟩,ns1,kept,Jw _⟩,fun n c hc=>absurd hc (by simp),.nil,fun n c hc=>absurd hc (by simp)⟩
 have env1:newEnv scope s.heap.objs.size mainGlobals [] (qual ++ ".<locals>.") (some f) cdv none builtinsNs=envOfC qual scope s.heap.objs.size f cdv:=by
  unfold envOfC;rw[c0]<;>rfl
 have tk:1≤(⟨h1,s.gens,s.drawn,s.toks+(ps.zip us).length,s.os⟩:Shared).toks:=by
  show 1≤s.toks+(ps.zip us).length;omega
 show(⟨h1,s.gens,s.drawn,s.toks+(ps.zip us).length,s.os⟩:Shared).heap.NoLimit∧codeAny (model P w) A (.func body (newEnv scope s.heap.objs.size mainGlobals [] (qual ++ ".<locals>.") (some f) cdv none builtinsNs)) _ (⟨h1,s.gens,s.drawn,s.toks+(ps.zip us).length,s.os⟩:Shared);rw[env1];generalize (⟨h1,s.gens,s.drawn,s.toks+(ps.zip us).length,s.os⟩:Shared)=s1 at x tk ⊢;refine⟨noLim.keeps x.toInCall.keep,codeAny_func ?_⟩;obtain⟨t,ht,tq⟩:=hb0 cdv A outer s H vs Q E (room.deeper _) sp0;have I0:Inv (cxOf CX P w K mg base N qual scope f cdv A outer s H E) [] (start N vs) H s1:=inv_start S room.r.hd e0 l0 r x;have close:∀{σ':KJ} {H':Hp} {v:V} {u:Value} {s':Shared},Inv (cxOf CX P w K mg base N qual scope f cdv A outer s H E) [] σ' H' s'→RelV v u→Q v H'→CE outer P w H s Q u s' :=
  fun{σ' H' v u s'} J rv q=>⟨v,H',J.os,J.bare,J.base,J.hok,rv,q⟩
 refine wpAny_mono (ht [] s1 (start N vs) H _ tk I0 tq) (fun fl s' q=> ?_) fun _ _ z=>z
 match fl,q with
 | .next,⟨_,_,J,q⟩=>exact close (v:=V.non) (u:=Value.none) J rfl q
 | .ret u,⟨_,_,_,J,rv,q⟩=>exact close J rv q
 | .brk,⟨_,_,_,q⟩=>exact q.elim
 | .cont,⟨_,_,_,q⟩=>exact q.elim
section
variable {X:Cx}{a0:Addr}{P:eV}{M:Cm}{E:WC.Env0}{k:Nat}{R:Rn}{C:Ct}{Sx St:Stmt→Option IS}{Sr:IS→AS}
theorem tx(S:eU a0 P E k M R)(h:cj X a0 P E k C){st:Stmt}{ir:IS}(e:qX M C st=some ir):FY X a0 st (oh E R Sr ir):=by
 unfold qX at e;split at e
 ·rename_i x px o m1 ap1 a j1 q1 z1 k1 q2 p1 m2 ap2 b j2 q3 z2 k2 q4 p2 pos;split at e
  ·rename_i ok;split at e
   ·rename_i r g is e1 e2;cases e;unfold xT at ok;simp only[Ji,decide_eq_true_eq,JF]at ok;obtain⟨⟨⟨⟨⟨⟨⟨⟨rfl,rfl⟩,rfl⟩,rfl⟩,ha⟩,hb⟩,hn⟩,hl1⟩,hl2⟩:=ok;exact zM (tT (wV (S.me h e1) ha hn hl1) hb rfl hl2) (S.g X C _ g is h e2) rfl rfl rfl
   ·cases e
  ·cases e
 ·cases e
theorem uL:yn X a0 [] (eP Sr []):=fun pins s σ H D l I q=>(sI (X:=X) (a0:=a0)).run pins s σ H D I q
theorem jx(S:tP X a0 Sx Sr)(T:∀ st ir,St st=some ir→FY X a0 st (Sr ir)):∀{sts:List Stmt} {irs:List IS},fY Sx St sts=some irs→yn X a0 sts (eP Sr irs)
 | [],irs,e=>by cases e; exact uL
 | x::r,irs,e=>by
  have e':(match (St x).or (Sx x),fY Sx St r with
   | some a,some b=>some (a::b)
   | _,_=>none)=some irs:=e
  split at e'
  ·rename_i a b h1 h2;cases e';refine tA ?_ (jx S T h2);cases q:St x with
   | some c=>
    rw[q]at h1;cases h1;exact T x a q
   | none=>
    rw[q]at h1;exact fun pins s σ H D l I q=>(S x a h1).run pins s σ H D I q
  ·cases e'
theorem ik:∀{sts:List Stmt},fY Sx (fun _=>none) sts=dO Sx sts
 | []=>rfl
 | x::r=>by
  show(match Sx x,fY Sx (fun _=>none) r with
   | some a,some b=>some (a::b)
   | _,_=>none)=(match Sx x,dO Sx r with
   | some a,some b=>some (a::b)
   | _,_=>none)
  rw[ik (sts:=r)]
end
structure dU(N P:List Jh)(sc:Scope):Prop where
 kind:sc.kind = .function
 co:sc.isCoroutine=false
 gen:sc.isGenerator=false
 nd:N.Nodup
 pre:N.take P.length=P
 par:∀ x∈P,sc.names.lookup x=some .local
 nc:∀ z∈sc.names,z.2≠ .cell
 fr:∀ z∈sc.names,z.2 = .free→z.1=("__class__" : Jh)
 ks:sc.names.lookup ("super" : Jh)=some .globalImplicit
 kc:sc.names.lookup ("__class__" : Jh)=some .free
def lI:Jh→Bool:=fun x=> !(x == ("__class__" : Jh))
def fw(CX:CXT)(P:Program)(w:World)(K:Jj)(mg:Jh→Option Value)(base:Heap)(N:List Jh)(qual:Jh)(scope:Scope)(f:Addr)(cd:Value)(cc:Addr)(A:Around)(outer:List Env)(s:Shared)(H:Hp)(E:XK):Cx where
 prog:=P
 w:=w
 K:=K
 mg:=mg
 base:=base
 A:=A.deeper (JM qual scope s.heap.objs.size f cd cc)
 N:=N
 s_0:=s
 H_0:=H
 env:=JM qual scope s.heap.objs.size f cd cc
 outer:=outer
 stack:=JM qual scope s.heap.objs.size f cd cc::outer
 ex:=[]
 calm:=true
 fn:=lI
 pn:=[]
 xe:=fun e s'=>wpAny (model P w) (A.deeper (JM qual scope s.heap.objs.size f cd cc)) (leaving (JM qual scope s.heap.objs.size f cd cc) e) (fun _ s''=>CX outer H s E e s'') (fun e' s''=>CX outer H s E e' s'') s'
theorem fE {cc:Addr} {x:Jh} {c:Addr} (h:Kp x [(("__class__" : Jh),cc)]=some c):x = "__class__" ∧ c=cc:=by
 rw[J7]at h;split at h
 ·rename_i q;cases h;exact⟨by simpa using q,rfl⟩
 ·cases h
theorem vG {cc:Addr}:Kp ("__class__" : Jh) [(("__class__" : Jh),cc)]=some cc:=by
 rw[J7,beq_self_eq_true]
theorem qZ{CX:CXT}{P:Program}{w:World}{K:Jj}{mg:Jh→Option Value}{base:Heap}{N ps:List Jh}{qual:Jh}{scope:Scope}{f cc:Addr}{cd:Value}{A:Around}{outer:List Env}{s:Shared}{h1:Heap}{tk:Nat}{H:Hp}{E:XK}{us:List Value}{vs:List V}
  (S:dU N ps scope) (hd:A.handled=none) (e0:L2.Env0 P w K mg base A outer s H) (hl:vs.length=ps.length) (r:Vals vs us)
  (hc:∃ v,s.heap.IsCell cc v) (hcn:H cc=none)
  (ns:h1.Ns s.heap.objs.size fun z=>(ps.zip us).reverse.lookup z) (hk:∀ b u,s.heap.get? b=some u→h1.get? b=some u) :
  Inv (fw CX P w K mg base N qual scope f cd cc A outer s H E) [] (KH N vs) H ⟨h1,s.gens,s.drawn,tk,s.os⟩:=by
 have l1:us.length=ps.length:=r.length.symm.trans hl;have hpl:ps.length≤N.length:=by have:=congrArg List.length S.pre; rw[J0]at this; omega
 have noA:∀ b:Addr,b∉(fw CX P w K mg base N qual scope f cd cc A outer s H E).ex:=fun b z=>absurd (show b∈([]:List Addr)from z) (by simp)
 have kl:∀ z∈ps.zip us,(JM qual scope s.heap.objs.size f cd cc).kindOf z.1=some .local:=fun⟨n,v⟩ hz=>S.par n (KY hz).1
 have bm:(fun z=>(ps.zip us).reverse.lookup z)=bindL (JM qual scope s.heap.objs.size f cd cc).kindOf (ps.zip us) fun _=>none:=funext fun z=>by
  rw[bindL_loc _ _ kl z];cases (ps.zip us).reverse.lookup z<;>rfl
 rw[bm]at ns
 refine⟨⟨e0.mod,S.kind,rfl,rfl,Jw _,fun y z c h1 h2=> ?_,fun y hy=> ?_,fun y c hf h=> ?_,fun _=>hd,Around.frames_deeper e0.frames,.inr ⟨rfl,rfl⟩,fun b z=>absurd z (noA b),e0.bs,e0.bsz,fun b _ _=>noA b,fun b z=>absurd z (noA b),e0.funs,e0.frf⟩,
  rfl,e0.bare,Un.kept hk,⟨_,ns,fun i y v h1 h2 h3=> ?_⟩,fun y c h=> ?_,e0.hok.fresh (Jw _),fun y c h=> ?_,fun p hp=>absurd (show p∈([]:List (Addr×Obj))from hp) (by simp),e0.hok.kept hk, ?_⟩
 ·exact(fE h1).1.trans (fE h2).1.symm
 ·have hy:scope.names.lookup y=some .cell∨scope.names.lookup y=some .free:=hy;rcases hy with hy | hy
  ·exact absurd rfl (S.nc _ (K3 hy))
  ·have:=S.fr _ (K3 hy) rfl;have e:y = "__class__" := this;subst e;exact⟨cc,vG⟩
 ·have e:=(fE h).1;subst e;have hf':lI "__class__" = true:=hf;unfold lI at hf';rw[beq_self_eq_true]at hf';cases hf'
 ·have hi:i<vs.length:=by
   unfold KH at h2;by_cases hi:i<vs.length
   ·exact hi
   ·rw[List.getElem?_append_right (by simpa using hi)]at h2
    rw[List.getElem?_replicate]at h2;split at h2<;>cases h2
  have ha:vs[i]? = some v:=by
   unfold KH at h2;rw[Kc (by simpa using hi),JN]at h2
   cases e:vs[i]? with
   | none=>rw[e]at h2; cases h2
   | some a=>rw[e]at h2; cases h2; rfl
  obtain⟨u,hu,rv⟩:=r.get ha;have hp:ps[i]? = some y:=by
   rw[←S.pre,Le (by omega)]; exact h1
  have ndP:ps.Nodup:=by rw[←S.pre]; exact S.nd.sublist (List.take_sublist _ _)
  have k:=S.par y (JK hp);exact⟨u,rv,.inl ⟨k,bindL_get ndP hp hu k⟩⟩
 ·obtain⟨_,rfl⟩:=fE h;obtain⟨v,o,ho,hd⟩:=hc;exact⟨v,o,hk _ _ ho,hd⟩
 ·obtain⟨_,rfl⟩:=fE h;exact hcn
 ·unfold KH;show _=N.length;rw[JY,Jq,List.length_replicate];omega
theorem qI{K:Jj}{M:Model}{q f:Addr}{x:Value}(hf:K7 K f=true)(h:Heap)(X:K.In h∧h.get? q=some (JG (.ref f) x)):∃ k,(k=Keeper.frame∨k=Keeper.machine∨k=Keeper.boundFrame)∧MM M h (keeperOf (.ref q)) k:=by
 obtain⟨X,Y⟩:=X;unfold K7 at hf;split at hf
 ·rename_i c d fd sl hl;refine⟨.boundFrame,.inr (.inr rfl),fun A Q E s k z=> ?_⟩
  unfold keeperOf;refine wpAny_bind (wpAny_load (k _ _ Y) ?_);simp only[JG,show(Value.type "method" != Value.type "method")=false by decide,Jp,if_false]
  refine wpAny_bind (wpAny_load (k _ _ (X _ _ hl)) ?_);exact wpAny_pure z
 ·cases hf
section
variable {X:Cx}{CX:CXT}{k n:Nat}{f C:Addr}{fd:FuncData}{ps ks:List Jh}{sp:Sp}{E:XK}{g:List Value→List Value→List Value}{gV:List V→List V→List V}{pins:List (Addr×Obj)}{σ:KJ}{H:Hp}{s:Shared}{Q:VK}{us ws:List Value}{vs zs:List V}
theorem wk(F:nW X.prog X.w X.K X.mg X.base CX k f fd ps sp)(hr:Rm k X.A)(hb:KBn X.K fd ps n ks g gV)(hx:Passes CX X E)(I:Inv X pins σ H s)(r:Vals vs us)(rz:Vals zs ws)(l1:vs.length=n)(l2:zs.length=ks.length)(h:sp (gV vs zs) H Q E) :
  codeAny (model X.prog X.w) X.A (.call (.ref f) ⟨us,ks.zip ws⟩) (fun r s'=>match r with | .ok (.ret v)=>EP X pins σ Q v s' | .ok _=>False | .error e=>X.xe e s') s:=by
 have bound:=hb.to s us ws I.kIn (r.length.symm.trans l1) (rz.length.symm.trans l2);refine codeAny_mono (F.run X.A X.stack s H _ _ _ Q E hr I.env0 bound (hb.rel r rz) h) ?_;rintro(e | fl) s' hq
 ·exact hx pins σ H s e s' I hq
 ·cases fl<;>first | exact I.after hq | exact JQ hq
end
structure Ey(K:Jj)(prog:Program)(C f f2 cc:Addr)(cdv:Value)(ar:Jh):Prop where
 fn:∃ oc od fd osl,∃ a:Arg,K.lookup f=some ⟨oc,od,.func fd,osl⟩∧(fd.params.posonlyargs++fd.params.args).head? = some a∧a.arg=ar
 code:∃ cda ccl cdd ccs vs file tf,cdv = .ref cda∧K.lookup cda=some ⟨ccl,cdd,.fields vs,ccs⟩∧vs[2]? = some (.str file tf)∧((prog.main.file:Jh) == file)=true
 cell:∃ cl cld csl,K.lookup cc=some ⟨cl,cld,.cell (some (.ref C)),csl⟩
 cls:∃ cd,Lh K C=some cd
 sub:Ka K C (.ref C)=some true
 sup:JX K mainGlobals "super" = some none
 top:(prog.main.scope.names.lookup ("super" : Jh)).isSome=false
 base:K8 K C C "__init__" = some (some (.ref f2))
 ty:Mz K (.ref f2)=some (.type "function")
 fi:K7 K f2=true
 opq:JX K cStatics "thirdparty.any" = some none
theorem qA:bootBuiltins "super" = some (.type "super"):=by first | rfl | kernel_rfl
section
variable {X:Cx}{a0:Addr}{k n m:Nat}{f f2 cc C L:Addr}{cdv:Value}{qual ar:Jh}{scope:Scope}{body:List Stmt}{e:Expr}{es:List Expr}{p0 p1 ap cp pos:Pos}{t:TA}{g:AC}{gA:List AV→List AV→List AV}
theorem wU{o:Expr}{mth:Jh}{apos pos:Pos}{env:Env}{args:List Expr}(h2:args.all noStar=true)(h4:dS args []=true)(h5:aU apos pos=true) :
  eval (.Call (.Attribute o mth apos) args [] pos) env=(do
   let ov ← attributeBase o mth env (eval o env)
   standAt apos.atName
   let (f,first) ← holding [ov] (getMethod ov mth (plainOf o env))
   callWith pos f first (backTo pos (starEach args env)) []):=by
 have hf:methodCallForm (args.length+([]:List Keyword).length) (backTo pos (starEach args env)) (backToKw pos (keywordEach [] env))=true:=by
  unfold methodCallForm;rw[hW h2,(eO (pos:=pos) (env:=env) (kws:=[]) (ks:=[]) rfl).1,ij];exact h4
 have e1:eval (.Call (.Attribute o mth apos) args [] pos) env=(do
  let ov ← attributeBase o mth env (eval o env)
  standAt apos.atName
  methodCall o mth apos pos env ov (args.length+([]:List Keyword).length) (backTo pos (starEach args env)) (backToKw pos (keywordEach [] env))):=by
  first | rfl | (unfold eval; rfl)
 rw[e1];refine congrArg _ (funext fun ov=>congrArg _ (funext fun _=> ?_))
 exact mcall_line hf h5
theorem yd{pins:List (Addr×Obj)}{σ:KJ}{H:Hp}{s:Shared}{Q:VK}{x dx:Addr}{fs:List (Jh×V)}{fd2:FuncData}{ps2:List Jh}{sp:Sp}{E:XK}{gB:List Value→List Value→List Value}{gV:List V→List V→List V}
  (he:X.env=JM qual scope L f cdv cc) (S:Ey X.K X.prog C f f2 cc cdv ar) (ks:scope.names.lookup ("super" : Jh)=some .globalImplicit) (kc:scope.names.lookup ("__class__" : Jh)=some .free) (ka:scope.names.lookup ar=some .local)
  (i0:X.N[0]? = some ar) (I:Inv X pins σ H s) (h0:σ[0]? = some (some (.ref x))) (hx:H x=some (.ins C dx fs))
  (F:nW X.prog X.w X.K X.mg X.base CX0 k f2 fd2 ps2 sp) (hr:Rm k X.A) (hb:KBn X.K fd2 ps2 n [] gB gV) (hp:Passes CX0 X E)
  (ha:PA X (e::es) t) (h2:(e::es).all noStar=true) (h4:dS (e::es) []=true) (h5:aU ap cp=true) (q:t σ H fun vs H1=>vs.length+1=n∧sp (gV (.ref x::vs) []) H1 Q E) :
  PySem.wpAt (model X.prog X.w) X.A (.func body X.env) (eval (.Call (.Attribute (.Call (.Name "super" p0) [] [] p1) "__init__" ap) (e::es) [] cp) X.env) (EP X pins σ Q) X.xe s:=by
 obtain⟨oc,od,fd,osl,a,hf,hpa,rfl⟩:=S.fn;obtain⟨cda,ccl,cdd,ccs,vs,file,tf,rfl,hcode,hvs,hfile⟩:=S.code;obtain⟨cl,cld,csl,hcell⟩:=S.cell;obtain⟨cdD,hD⟩:=S.cls;have KX:=I.kIn;obtain⟨oD,hD1,hD2⟩:∃ oD,s.heap.get? C=some oD∧oD.data = .cls cdD:=by
  have hD':=hD;unfold Lh at hD';split at hD'
  ·rename_i c d cd' sl ho;cases hD';exact⟨_,KX _ _ ho,rfl⟩
  ·cases hD'
 obtain⟨mA,J,_⟩:=ins_get I.hok hx;obtain⟨odx,J,_⟩:=J.look;obtain⟨m0,hns,hl⟩:=id I.loc;have kind:=I.ok.kind;obtain⟨u,ru,lk⟩:=hl 0 a.arg (.ref x) i0 h0 (.inl (by rw[he]; exact ka))
 obtain rfl:u=Value.ref x:=ru;have hself:m0 a.arg=some (.ref x):=by
  rcases lk with ⟨_,z⟩ | ⟨z,_⟩
  ·exact z
  ·have:X.env.kindOf a.arg=some .local:=by rw[he]; exact ka
   rw[this]at z;rcases z with z | z<;>cases z
 obtain⟨mb,hmb,hbb⟩:=I.ok.mod.blt;refine ks_wpAt_MethodCall (pl:=plainOf (.Call (.Name "super" p0) [] [] p1) X.env) ?_ (wU h2 h4 h5);have kOf:∀ z,X.env.kindOf z=scope.names.lookup z:=fun z=>by rw[he]; rfl
 have kn:X.env.scope.kind = .function:=kind;refine ks_wpAt_super_base (env:=X.env) (by rw[kOf]; exact ks) (by rw[kOf]; exact kc) (by decide) (by rw[he]) (KX _ _ hf) rfl hpa (by rw[he]) (KX _ _ hcode) rfl hvs hfile S.top ?_
 obtain⟨hh,gg,dd,tt,os⟩:=s;refine PySem.W.ks_loadName_global kn (by rw[kOf]; exact ks) (Ml (env:=X.env) (mg:=X.mg) (mb:=mb) (by rw[I.ok.glob]; exact I.ok.mod.glob.keeps I.bk) (PySem.W.mg_none_of I.ok.mod.kin I.ok.mod.glob S.sup) (by rw[I.ok.blt]; exact hmb.keeps I.bk) ((hbb _ (by decide)).trans qA) ⟨rfl, ?_⟩)
 refine wpAny_loadName_free kn (by rw[kOf]; exact kc) (by rw[he]; exact vG) ⟨_,KX _ _ hcell,rfl⟩ ?_
 refine wpAny_loadName_local kn (by rw[kOf]; exact ka) hns hself ?_
 refine ks_wpAny_isType_cls hD1 hD2 ⟨rfl, ?_⟩;refine ks_wpAny_call_super hD1 hD2 J.at_ J.cls (fun c z=> ?_) (LV KX S.sub) (fun h' eso kk=> ?_)
 ·have:=J.no;unfold PySem.W.notCls at this;rw[z]at this;exact Bool.noConfusion this
 ·have I1:=I.kept (t':=tt) kk;have KX1:=I1.kIn;obtain⟨of,hof,hofc⟩:∃ of,h'.get? f2=some of∧of.cls = .type "function" := by
   have ht':(X.K.lookup f2).map (·.cls)=some (.type "function"):=S.ty
   cases z:X.K.lookup f2 with
   | none=>rw[z]at ht'; cases ht'
   | some of=>rw[z]at ht'; exact⟨of,KX1 _ _ z,Lx ht'⟩
  have hm:=S.base;unfold K8 at hm;rw[hD,Mq]at hm;have xC:x≠C:=PySem.W.ks_ne KX J hD;refine ks_wpAny_getMethod_super eso (PySem.W.looks_opaque KX1 S.opq) (l₀:=cdD.mro) (fun A Q E s k q=>wpAny_bind ((PySem.W.looks_clsIn KX1 hD) A _ E s k (wpAny_pure q))) rfl KX1 hm hof hofc xC (by decide) ?_
  have I2:=I1.kept (t':=tt+1) (h':=h'.push (JG (.ref f2) (.ref x))) (fun b o z=>Heap.get?_push_of_some _ z)
  have hq0:(h'.push (JG (.ref f2) (.ref x))).get? h'.objs.size=some (JG (.ref f2) (.ref x)):=Heap.get?_push_at rfl rfl;have I3:Inv X ((h'.objs.size,JG (.ref f2) (.ref x))::pins) σ H ⟨h'.push (JG (.ref f2) (.ref x)),gg,dd,tt+1,os⟩:=by
   refine⟨I2.ok,I2.os,I2.bare,I2.base,I2.loc,I2.cell,I2.free,I2.freeC,fun p hp=> ?_,I2.hok,I2.len⟩
   rcases KZ.mp hp with hp | hp
   ·exact I2.pin p (J2 _ hp)
   ·rcases Jv.mp hp with rfl | hp
    ·exact⟨hq0,I1.hok.fresh (Jw _),Kz I1.lt,I1.nofs (Jw _),fun v z=>by cases z⟩
    ·exact I2.pin p (JB _ hp)
  have h2':=h2;rw[Jt,Ji]at h2';have hst:=aH (env:=X.env) (es:=es) h2'.1;have hpl:(backTo cp (starEach es X.env)).any (·.1)=false:=bo h2'.2
  have run:=ha.run cp _ _ σ H _ I3 q;rw[hst]at run ⊢;refine PySem.W.callWith_of (P:=fun h=>X.K.In h∧h.get? h'.objs.size=some (JG (.ref f2) (.ref x))) (by show((false || (backTo cp (starEach es X.env)).any (·.1)) || false)=false; rw[hpl]; rfl) (fun h Z=>qI S.fi h Z) (Calls.evalArgs_plain ?_)
  refine thn run fun us s4 ⟨vs4,H4,I4,r4,l4,q4⟩=> ?_
  have hq4:=(I4.pin (h'.objs.size,JG (.ref f2) (.ref x)) (JB _ JO)).1;have I5:Inv X pins σ H4 s4:=⟨I4.ok,I4.os,I4.bare,I4.base,I4.loc,I4.cell,I4.free,I4.freeC,fun p hp=>I4.pin p (by
   rcases KZ.mp hp with hp | hp
   ·exact J2 _ hp
   ·exact JB _ (JI _ hp)),I4.hok,I4.len⟩
  refine⟨⟨I4.kIn,hq4⟩, ?_⟩;refine wpAny_call (LX hq4 ?_);have rr:=wk F hr hb hp I5 (us:=.ref x::us) (vs:=.ref x::vs4) (ws:=[]) (zs:=[]) (.cons rfl r4) .nil (by rw[Jn]; exact l4) rfl q4
  exact rr
end
structure zH(K:Jj)(prog:Program)(C f2:Addr)(ar x qual:Jh)(params:Arguments)(body:List Stmt)(scope:Scope)(f:Addr)(fd:FuncData):Prop where
 ex:∃(oc:Value) (od:Option Addr) (kV doc pm:Value) (an:Option Addr) (cdv ct:Value) (osl:Array (Option Value)) (cc:Addr),
  fd=M8 x qual params body scope .none kV doc pm an cdv ct cc∧K.lookup f=some ⟨oc,od,.func fd,osl⟩∧LP K cdv qual=true∧Ey K prog C f f2 cc cdv ar
 kp:Km K (.ref f)=true
theorem zE{P:Program}{w:World}{K:Jj}{mg:Jh→Option Value}{base:Heap}{k:Nat}{f f2 C:Addr}{fd:FuncData}{ps N:List Jh}{sp:Sp}{ar name qual:Jh}{params:Arguments}{rest:List Stmt}{scope:Scope}{e:Expr}{es:List Expr}{p0 p1 ap cp pos:Pos}
  (F:zH K P C f2 ar name qual params (.Expr (.Call (.Attribute (.Call (.Name "super" p0) [] [] p1) "__init__" ap) (e::es) [] cp) pos::rest) scope f fd) (S:dU N ps scope) (len:∀ vs H Q E,sp vs H Q E→vs.length=ps.length)
  (h0:ps.head? = some ar) (h2:(e::es).all noStar=true) (h4:dS (e::es) []=true) (h5:aU ap cp=true)
  (hb0:∀(cdv:Value) (cc:Addr) (A:Around) (outer:List Env) (s:Shared) (H:Hp) (vs:List V) (Q:VK) (E:XK),Rm k (A.deeper (JM qual scope s.heap.objs.size f cdv cc))→sp vs H Q E→
   ∃(x dx:Addr) (fs:List (Jh×V)) (vr:List V) (n:Nat) (fd2:FuncData) (ps2:List Jh) (sp2:Sp) (gB:List Value→List Value→List Value) (gV:List V→List V→List V) (ta:TA) (t:TS),
    vs = .ref x::vr∧H x=some (.ins C dx fs)∧nW P w K mg base CX0 k f2 fd2 ps2 sp2∧KBn K fd2 ps2 n [] gB gV∧PA (fw CX0 P w K mg base N qual scope f cdv cc A outer s H E) (e::es) ta∧
    PSs (fw CX0 P w K mg base N qual scope f cdv cc A outer s H E) rest t∧ta (KH N vs) H fun xs H1=>xs.length+1=n∧sp2 (gV (.ref x::xs) []) H1 (fun _ H2=>t { nx:=fun _ H'=>Q .non H',rt:=Q } (KH N vs) H2) (fun _ _ _=>False)) :
  nW P w K mg base CX0 (k+1) f fd ps sp:=by
 obtain⟨oc,od,kV,doc,pm,an,cdv,ct,osl,cc,rfl,lk,hcd,SF⟩:=F.ex;refine⟨len,fun A outer s H args us vs Q E room e0 bnd r sp0=> ?_⟩
 have l0:=len _ _ _ _ sp0;have l1:us.length=ps.length:=r.length.symm.trans l0;have pL:K.In s.heap:=e0.mod.kin.keeps fun b o e=>(e0.bs b o e).1
 have noLim:s.heap.NoLimit:=e0.mod.nolimit.keeps fun b o e=>(e0.bs b o e).1
 have loc:∀ z∈ps.zip us,scope.names.lookup z.1=some .local:=fun⟨n,v⟩ hz=>S.par n (KY hz).1
 refine codeAny_call_function room.r.depth (pL _ _ lk) rfl S.co S.gen rfl (K6 pL hcd) (bnd _ _ _ _ ?_);refine wpAny_newFunctionEnv S.nc loc (fun h1 ns1 sb1=> ?_) S.kind
 have kept:∀ b o,s.heap.get? b=some o→h1.get? b=some o:=fun b o z=>sb1.extBut b o (Jx (Heap.lt_size z)) (Heap.get?_push_of_some _ z)
 have keptN:h1.NoLimit:=noLim.keeps kept;obtain⟨cl,cld,csl,hcell⟩:=SF.cell;have hcb:∃ o,base.get? cc=some o:=⟨_,e0.mod.kin _ _ hcell⟩;obtain⟨oc0,hoc0⟩:=hcb;have hcn:H cc=none:=(e0.bs _ _ hoc0).2;obtain⟨x,dx,fs,vr,n,fd2,ps2,sp2,gB,gV,ta,t,rfl,hx,F2,hb2,hA,hR,q⟩:=hb0 cdv cc A outer s H vs Q E (room.deeper _) sp0;have I0:Inv (fw CX0 P w K mg base N qual scope f cdv cc A outer s H E) [] (KH N (.ref x::vr)) H ⟨h1,s.gens,s.drawn,s.toks+(ps.zip us).length,s.os⟩ :=
  qZ S room.r.hd e0 l0 r ⟨_,_,pL _ _ hcell,rfl⟩ hcn ns1 kept
 refine⟨keptN, ?_⟩;have hN0:N[0]? = some ar:=by
  have hp0:ps[0]? = some ar:=by
   cases ps with
   | nil=>cases h0
   | cons a b=>exact h0
  have hl0:0<ps.length:=by
   cases ps with
   | nil=>cases h0
   | cons a b=>exact Nat.succ_pos _
  rw[←S.pre,Le hl0]at hp0;exact hp0
 have hσ0:(KH N (.ref x::vr))[0]? = some (some (.ref x)):=rfl;have ka:scope.names.lookup ar=some .local:=S.par ar (by
  cases ps with
  | nil=>cases h0
  | cons a b=>cases h0; exact JO)
 refine ks_codeAny_funcAt (env:=JM qual scope s.heap.objs.size f cdv cc) ?_;refine ks_wpAt_execs_cons ?_;have close:∀{σ':KJ} {H':Hp} {v:V} {u:Value} {s':Shared},Inv (fw CX0 P w K mg base N qual scope f cdv cc A outer s H E) [] σ' H' s'→RelV v u→Q v H'→CE outer P w H s Q u s' :=
  fun{σ' H' v u s'} J rv q=>⟨v,H',J.os,J.bare,J.base,J.hok,rv,q⟩
 have hint:interactive (JM qual scope s.heap.objs.size f cdv cc)=false:=by simp [interactive,S.kind]
 refine ks_wpAt_Expr_any ?_ hint rfl;have run:=yd (X:=fw CX0 P w K mg base N qual scope f cdv cc A outer s H E) (k:=k) (n:=n) (cc:=cc) (L:=s.heap.objs.size) (body:=.Expr (.Call (.Attribute (.Call (.Name "super" p0) [] [] p1) "__init__" ap) (e::es) [] cp) pos::rest) (p0:=p0) (p1:=p1) (ap:=ap) (cp:=cp) rfl SF S.ks S.kc ka hN0 I0 hσ0 hx F2 (room.deeper _) hb2 (E:=fun _ _ _=>False) pass0 hA h2 h4 h5 q
 refine ks_wpAt_mono run (fun v s' hv=> ?_) fun _ _ z=>z
 obtain⟨v',H2,I2,rv,q2⟩:=hv;refine PySem.wpAt_of_wpAny (wpAny_mono (hR.run [] s' _ H2 _ I2 q2) (fun fl s'' z=> ?_) fun _ _ z=>z)
 match fl,z with
 | .next,⟨_,_,J,q⟩=>exact close (v:=V.non) (u:=Value.none) J rfl q
 | .ret u,⟨_,_,_,J,rv,q⟩=>exact close J rv q
 | .brk,⟨_,_,_,q⟩=>exact q.elim
 | .cont,⟨_,_,_,q⟩=>exact q.elim
theorem ve{P:Program}{w:World}{K:Jj}{mg:Jh→Option Value}{base:Heap}{k:Nat}{f f2:Addr}{C:Jh}{fd:FuncData}{ps N:List Jh}{ar name qual:Jh}{params:Arguments}{rest:List Stmt}{scope:Scope}{e:Expr}{es:List Expr}{p0 p1 ap cp pos:Pos}{a0:Addr}{n m:Nat}{gA:List AV→List AV→List AV}{g G:AC}{sz:Nat}{rs:AS}{fa:AL}
  (F:zH K P (Jo K C) f2 ar name qual params (.Expr (.Call (.Attribute (.Call (.Name "super" p0) [] [] p1) "__init__" ap) (e::es) [] cp) pos::rest) scope f fd) (S:dU N ps scope)
  (h0:ps.head? = some ar) (h2:(e::es).all noStar=true) (h4:dS (e::es) []=true) (h5:aU ap cp=true)
  (F2:∃ fd2 ps2,nW P w K mg base CX0 k f2 fd2 ps2 (tQ ⟨K,a0⟩ n g)∧AR K a0 fd2 ps2 m [] gA) (hz:N.length=sz)
  (hA:∀(cdv:Value) (cc:Addr) (A:Around) (outer:List Env) (s:Shared) (H:Hp) (E:XK),Rm k (A.deeper (JM qual scope s.heap.objs.size f cdv cc))→MA (fw CX0 P w K mg base N qual scope f cdv cc A outer s H E) a0 (e::es) fa∧zm (fw CX0 P w K mg base N qual scope f cdv cc A outer s H E) a0 rest rs)
  (hG:∀{μ:List Addr} {H:Hp} {as:List AV} {ah:AH} {Q:VK},as.length=ps.length→bh (⟨K,a0⟩:Wd) μ H (G as ah) Q→aQ (⟨K,a0⟩:Wd) μ H (ax (yw C n m gA g fa) rs (as.map some++Ju (sz - as.length) none) ah) { nx:=fun _ H'=>Q .non H',rt:=Q }) :
  nW P w K mg base CX0 (k+1) f fd ps (tQ ⟨K,a0⟩ ps.length G):=by
 obtain⟨fd2,ps2,F2,gB,gV,hb2,hrel⟩:=F2;refine zE F S (fun vs H Q E ⟨μ,as,ah,hl,hr,r,p⟩=>r.length ▸ hl) h0 h2 h4 h5 fun cdv cc A outer s H vs Q E hr ⟨μ,as,ah,hl,hR,r,p⟩=> ?_
 obtain⟨mA,mS⟩:=hA cdv cc A outer s H E hr;have p1:=hG hl p;have sr:SR (⟨K,a0⟩:Wd) μ H (as.map some++Ju (sz - as.length) none) (KH N vs):=by
  unfold KH;rw[←r.length,←hz];exact SR.start _ r
 have p3:aQ (⟨K,a0⟩:Wd) μ H (yw C n m gA g fa (as.map some++Ju (sz - as.length) none) ah) { nx:=y5 ⟨K,a0⟩ rs { nx:=fun _ H'=>Q .non H',rt:=Q },rt:=Q }:=kj p1
 unfold yw at p3;cases r with
 | nil=>
  cases ps with
  | nil=>cases h0
  | cons a b=>cases hl
 | @cons v x as' vs' r1 rt=>
  have e0:(MQ some (v::as')++Ju (sz - (v::as').length) none)[0]? = some (some v):=rfl;rw[e0]at p3;cases v with
  | ref q=>
   simp only at p3;cases hg:ah.get q with
   | none=>rw[hg]at p3; exact p3.elim
   | some ao=>
    rw[hg]at p3;cases ao with
    | ins D fs=>
     simp only at p3;split at p3
     ·rename_i hD;subst hD;obtain⟨xa,dx,ys,rfl,hn,hH,_⟩:=hR.ins hg r1;refine⟨xa,dx,ys,vs',m,fd2,ps2,_,gB,gV,_,_,rfl,hH,F2,hb2,mA,mS,⟨μ,_,ah,sr,hR,(aQ.bind (rel:=aV ⟨K,a0⟩) p3).mono fun xs H1 ⟨μ1,ys1,h1,e1,R1,rl1,q1⟩=> ?_⟩⟩
      unfold aL at q1;split at q1
      ·rename_i l1;split at q1
       ·split at q1
        ·rename_i l3;refine⟨by rw[←rl1.length]; simpa using l1,μ1,_,h1,l3,R1,hrel _ _ _ _ _ _ (.cons ((Rl.ref hn).ext e1) rl1) .nil,(aQ.bind (rel:=Rl ⟨K,a0⟩) q1).mono fun z H2 ⟨μ2,w2,h2,e2,R2,rw2,q2⟩=> ?_⟩
         exact q2 _ _ _ Ext.refl R2 ((sr.ext e1).ext e2)
        ·exact q1.elim
       ·exact q1.elim
      ·exact q1.elim
     ·exact p3.elim
    | _=>exact p3.elim
  | _=>exact p3.elim
structure aR where
 d:MR
 ps:List Jh
 N:List Jh
 pr:Bool:=false
 su:Option (Jh×Jh×Jh):=none
 cm:Bool:=false
def yg(K:Jj)(p:Jh×Option Jh):Addr:=match p.2 with
 | some f=>(match JA K (.ref (Jo K p.1)) f with
  | some (some (.ref a))=>(match KS K a "property" with
   | some (.ref g::_)=>g
   | _=>(match KS K a "classmethod" with
    | some (.ref g::_)=>g
    | _=>0))
  | _=>0)
 | none=>0
def aR.ad(K:Jj)(D:aR):Addr:=match D.pr with
 | true=>yg K D.d.at_
 | false=>LQ K D.d.at_
structure a3 where
 defs:List aR
 globs:List (Jh×AV)
 frees:List Jh
 fixs:List (Jh×Nat)
 cixs:List (Jh×Nat)
 mths:List (Jh×List (Jh×Nat))
 prps:List (Jh×List (Jh×Nat))
 shapes:List ((Nat×Nat×List Jh)×(Nat×List AV))
 nos:List (Jh×List Jh)
 tabs:List (Jh×List (Jh×AV))
 vals:List Jh
 under:List (Jh×List Jh):=[]
 inh:List (Jh×Jh×Jh):=[]
 inhp:List (Jh×Jh×Jh):=[]
 cms:List (Jh×List (Jh×Nat)):=[]
def a3.dj(L:a3):List (Jh×List Jh):=L.cixs.map fun p=>(p.1,(L.under.lookup p.1).getD [])
def a3.pi(L:a3)(N:List Jh):eV where
 N:=N
 glob:=fun x=>L.globs.lookup x
 free:=fun x=>L.frees.contains x
 fix:=fun x=>L.fixs.lookup x
 cix:=fun x=>L.cixs.lookup x
 mth:=fun m=>(L.mths.lookup m).getD []
 prp:=fun m=>(L.prps.lookup m).getD []
 shape:=fun i m ks=>L.shapes.lookup (i,m,ks)
 vals:=L.vals
 dj:=L.dj
 cm:=fun m=>(L.cms.lookup m).getD []
def a3.no(L:a3)(C f:Jh):Bool:=match L.nos.lookup C with
 | some fs=>fs.contains f
 | none=>false
def a3.tab(L:a3):eX:=fun x=>L.tabs.lookup x
def BJ(D:aR):Bool:=Ke 1 D.ps.length && D.d.scope.names.all fun z=> !(z.2 == .cell)
def a3.comp(L:a3)(D:aR):Option (List IS):=match D.su with
 | none=>fY (oM (L.pi D.N) (kf (L.pi D.N) DX) ⟨D.d.scope,fun _=>true⟩ DX) (if BJ D=true then qX (kf (L.pi D.N) DX) ⟨D.d.scope,fun _=>true⟩else fun _=>none) D.d.body
 | some (C,B,_)=>(match D.d.body with
  | st::rest=>(match sj (L.pi D.N) (kf (L.pi D.N) DX) ⟨D.d.scope,lI⟩ C B st,dO (oM (L.pi D.N) (kf (L.pi D.N) DX) ⟨D.d.scope,lI⟩ DX) rest with
   | some a,some b=>some (a::b)
   | _,_=>none)
  | []=>none)
def lA(D:aR):Prop:=match D.su with
 | none=>FnScope D.N D.ps D.d.scope
 | some _=>dU D.N D.ps D.d.scope
def cK(K:Jj)(prog:Program)(D:aR)(fd:FuncData):Prop:=match D.su with
 | none=>FunD K D.d.name D.d.qual D.d.params D.d.body D.d.scope (D.d.dvs K) (D.d.kws K) (D.ad K) fd
 | some (C,B,_)=>∃ ar,zH K prog (Jo K C) (LQ K (B,some "__init__")) ar D.d.name D.d.qual D.d.params D.d.body D.d.scope (D.ad K) fd∧D.ps.head? = some ar
theorem cK.fun{K:Jj}{prog:Program}{D:aR}{fd:FuncData}(h:D.su=none)(F:cK K prog D fd):FunD K D.d.name D.d.qual D.d.params D.d.body D.d.scope (D.d.dvs K) (D.d.kws K) (D.ad K) fd:=by
 unfold cK at F;rw[h]at F;exact F
theorem cK.of{K:Jj}{prog:Program}{D:aR}{fd:FuncData}(h:D.su=none)(F:FunD K D.d.name D.d.qual D.d.params D.d.body D.d.scope (D.d.dvs K) (D.d.kws K) (D.ad K) fd):cK K prog D fd:=by
 unfold cK;rw[h];exact F
theorem cK.sup {K:Jj} {prog:Program} {D:aR} {fd:FuncData} {C B fl:Jh} (h:D.su=some (C,B,fl)) (F:cK K prog D fd):∃ ar,zH K prog (Jo K C) (LQ K (B,some "__init__")) ar D.d.name D.d.qual D.d.params D.d.body D.d.scope (D.ad K) fd∧D.ps.head? = some ar:=by
 unfold cK at F;rw[h]at F;exact F
theorem cK.kp{K:Jj}{prog:Program}{D:aR}{fd:FuncData}(F:cK K prog D fd):Km K (.ref (D.ad K))=true:=by
 cases h:D.su with
 | none=>exact(F.fun h).kp
 | some q=>
  obtain⟨C,B,fl⟩:=q;obtain⟨ar,S,_⟩:=F.sup h;exact S.kp
def a3.qK(L:a3)(T:List WC.FI):Prop:=∀(i:Nat) (D:aR),L.defs[i]? = some D→∃ F:WC.FI,T[i]? = some F∧F.n=D.ps.length∧F.sz=D.N.length∧L.comp D=some F.body
structure j9(L:a3)(prog:Program)(w:World)(K:Jj)(mg:Jh→Option Value)(a0:Addr):Prop where
 gl:∀ x v,L.globs.lookup x=some v→∃(u:Value) (y:V),mg x=some u∧RelV y u∧∀ μ H,Rl ⟨K,a0⟩ μ H v y
 free:∀ x,L.frees.contains x=true→mg x=none
 fix:∀ x i,L.fixs.lookup x=some i→∃ D,L.defs[i]? = some D∧mg x=some (.ref (D.ad K))∧mg x=some (.ref (Jo K x))
 cix:∀ x i,L.cixs.lookup x=some i→∃ D,L.defs[i]? = some D∧mg x=some (.ref (Jo K x))∧Mk K (Jo K x) (D.ad K)
 mth:∀ m row x i,L.mths.lookup m=some row→(x,i)∈row→∃ D,L.defs[i]? = some D∧Cls K (Jo K x)∧Meth K (Jo K x) m (D.ad K)
 ins:B5 K L.dj
 unk:∀ C,(L.dj.lookup C).isSome=true→u6 K (Jo K C)
 subs:∀ C D,(L.dj.lookup C).isSome=true→(L.dj.lookup D).isSome=true→D≠C→Jo K D≠Jo K C∧Kr K (.ref (Jo K D)) (.ref (Jo K C))=some (jD L.dj D C)
 base:∀ D C B fl,D∈L.defs→D.su=some (C,B,fl)→∃ i D',L.cixs.lookup B=some i∧L.defs[i]? = some D'∧D'.ad K=LQ K (B,some "__init__")
 eq:∀ row x i,L.mths.lookup ("__eq__" : Jh)=some row→(x,i)∈row→JA K (.ref (Jo K x)) "__ne__" = some (some (.builtin "object.__ne__"))∧Ih K (Jo K x)
 prp:∀ m row x i,L.prps.lookup m=some row→(x,i)∈row→∃ D p,L.defs[i]? = some D∧Cls K (Jo K x)∧PropOf K (Jo K x) m p (D.ad K)
 cm:∀ m row x i,L.cms.lookup m=some row→row.lookup x=some i→∃ D mc p,L.defs[i]? = some D∧mg x=some (.ref (Jo K x))∧Mv K (Jo K x) mc∧MO K (Jo K x) mc m p (D.ad K)
 no:iR K L.no
 tab:∀ x kvs,L.tab x=some kvs→∃ es n,KDict K w (Jo K x) es n∧(∀ k v,kvs.lookup k=some v→∃ u y,JX K (Jo K x) k=some (some u)∧RelV y u∧∀ μ H,Rl ⟨K,a0⟩ μ H v y)∧∀ k,kvs.lookup k=none→JX K (Jo K x) k=some none
 defs:∀ i D,L.defs[i]? = some D→∃ fd,cK K prog D fd∧lA D∧
  ∀ m ks n d,L.shapes.lookup (i,m,ks)=some (n,d)→n=D.ps.length∧AR K a0 fd D.ps m ks (cR d)
def a3.prog(L:a3)(T:List WC.FI):Prog:=⟨T,L.no,L.tab⟩
section
variable {L:a3}{T:List WC.FI}{prog:Program}{w:World}{K:Jj}{mg:Jh→Option Value}{base:Heap}{a0:Addr}
def eN(L:a3)(prog:Program)(w:World)(K:Jj)(mg:Jh→Option Value)(base:Heap)(a0:Addr)(k:Nat)(g:Nat→AC):Prop :=
 ∀ i D fd,L.defs[i]? = some D→cK K prog D fd→lA D→nW prog w K mg base CX0 k (D.ad K) fd D.ps (tQ ⟨K,a0⟩ D.ps.length (g i))
theorem jw{k:Nat}:eN L prog w K mg base a0 k (fun _ _ _=> .stuck):=fun i D fd hD F S=>
 ⟨fun vs H Q E ⟨μ,as,ah,hl,hr,r,p⟩=>p.elim,fun A outer s H args us vs Q E hr e0 hb r ⟨μ,as,ah,hl,hr',r',p⟩=>p.elim⟩
theorem pH{W:Wd}{μ H}{r:Ex Fl}{Q:VK}(p:bh W μ H (ei r) Q):aQ W μ H r { nx:=fun _ H'=>Q .non H',rt:=Q }:=by
 cases r with
 | stuck=>exact p
 | ok fl h=>
  cases fl with
  | nx s=>exact fun μ' H' σ' e hr hs=>p μ' H' .non e hr .non
  | bk s=>exact p.elim
  | ct s=>exact p.elim
  | rt v=>exact p
theorem si{X:Cx}(O:j9 L X.prog X.w X.K X.mg a0){k:Nat}{gc gm:Nat→AC}(Gc:eN L X.prog X.w X.K X.mg X.base a0 (k+1) gc)(Gm:eN L X.prog X.w X.K X.mg X.base a0 k gm){N:List Jh}{C:Ct}
  (hsc:X.env.scope=C.sc) (hfn:X.fn=C.fn) (hN:X.N=N) (hnd:X.N.Nodup) (hcalm:X.calm=true) (hr:Rm (k+1) X.A) :
  cj X a0 (L.pi N) ⟨gc,gm,L.no,L.tab,aE⟩ k C where
 sc:=hsc
 fn:=hfn
 N:=hN
 nd:=hnd
 calm:=hcalm
 room:=hr
 gl:=O.gl
 free:=O.free
 fix:=fun x i hi=>by
  obtain⟨D',hD,hm,_⟩:=O.fix x i hi;obtain⟨fd,F,S',hs⟩:=O.defs i D' hD;refine⟨_,hm,F.kp,fun m ks n d hsh=> ?_⟩
  obtain⟨rfl,hk⟩:=hs m ks n d hsh;exact⟨fd,D'.ps,Gc i D' fd hD F S',hk⟩
 fixg:=fun x i hi=>by
  obtain⟨_,_,_,hg⟩:=O.fix x i hi;exact hg
 cix:=fun x i hi=>by
  obtain⟨D',hD,hm,M⟩:=O.cix x i hi;obtain⟨fd,F,S',hs⟩:=O.defs i D' hD;refine⟨hm,_,M,fun m ks n d hsh=> ?_⟩
  obtain⟨rfl,hk⟩:=hs m ks n d hsh;exact⟨fd,D'.ps,Gm i D' fd hD F S',hk⟩
 mth:=fun m x i hi=>by
  have hi':(x,i)∈(L.mths.lookup m).getD []:=hi;cases q:L.mths.lookup m with
  | none=>rw[q]at hi'; cases hi'
  | some row=>
   rw[q]at hi';obtain⟨D',hD,c,M⟩:=O.mth m row x i q hi';obtain⟨fd,F,S',hs⟩:=O.defs i D' hD;refine⟨c,_,M,fun mm ks n d hsh=> ?_⟩
   obtain⟨rfl,hk⟩:=hs mm ks n d hsh;exact⟨fd,D'.ps,Gc i D' fd hD F S',hk⟩
 mtm:=fun m x i hi=>by
  have hi':(x,i)∈(L.mths.lookup m).getD []:=hi;cases q:L.mths.lookup m with
  | none=>rw[q]at hi'; cases hi'
  | some row=>
   rw[q]at hi';obtain⟨D',hD,c,M⟩:=O.mth m row x i q hi';obtain⟨fd,F,S',hs⟩:=O.defs i D' hD;refine⟨_,M,fun mm ks n d hsh=> ?_⟩
   obtain⟨rfl,hk⟩:=hs mm ks n d hsh;exact⟨fd,D'.ps,Gm i D' fd hD F S',hk⟩
 prp:=fun m x i hi=>by
  have hi':(x,i)∈(L.prps.lookup m).getD []:=hi;cases q:L.prps.lookup m with
  | none=>rw[q]at hi'; cases hi'
  | some row=>
   rw[q]at hi';obtain⟨D',p,hD,c,M⟩:=O.prp m row x i q hi';obtain⟨fd,F,S',hs⟩:=O.defs i D' hD;refine⟨c,p,_,M,fun mm ks n d hsh=> ?_⟩
   obtain⟨rfl,hk⟩:=hs mm ks n d hsh;exact⟨fd,D'.ps,Gm i D' fd hD F S',hk⟩
 cm:=fun m x i hi=>by
  have hi':((L.cms.lookup m).getD []).lookup x=some i:=hi;cases q:L.cms.lookup m with
  | none=>rw[q]at hi'; cases hi'
  | some row=>
   rw[q]at hi';obtain⟨D',mc,p,hD,hm,r,c⟩:=O.cm m row x i q hi';obtain⟨fd,F,S',hs⟩:=O.defs i D' hD;refine⟨hm,mc,p,_,r,c,fun mm ks n d hsh=> ?_⟩
   obtain⟨rfl,hk⟩:=hs mm ks n d hsh;exact⟨fd,D'.ps,Gc i D' fd hD F S',hk⟩
 ins:=O.ins
 unk:=O.unk
 subs:=O.subs
 eqs:=fun x i hi=>by
  have hi':(x,i)∈(L.mths.lookup ("__eq__" : Jh)).getD []:=hi;cases q:L.mths.lookup ("__eq__" : Jh)with
  | none=>rw[q]at hi'; cases hi'
  | some row=>
   rw[q]at hi';obtain⟨D',hD,c,M⟩:=O.mth _ row x i q hi';obtain⟨q1,q2⟩:=O.eq row x i q hi';obtain⟨fd,F,S',hs⟩:=O.defs i D' hD;refine⟨q1,q2,_,M,fun mm ks n d hsh=> ?_⟩
   obtain⟨rfl,hk⟩:=hs mm ks n d hsh;exact⟨fd,D'.ps,Gm i D' fd hD F S',hk⟩
 no:=O.no
 tab:=O.tab
theorem uq(O:j9 L prog w K mg a0){k:Nat}{gc gm:Nat→AC}(Gc:eN L prog w K mg base a0 (k+1) gc)(Gm:eN L prog w K mg base a0 k gm){D:aR}{f:Addr}{cdv:Value}{A:Around}{outer:List Env}{s:Shared}{H:Hp}{E:XK}
  (S:FnScope D.N D.ps D.d.scope) (hr:Rm (k+1) (A.deeper (envOfC D.d.qual D.d.scope s.heap.objs.size f cdv))) :
  cj (cxOf CX0 prog w K mg base D.N D.d.qual D.d.scope f cdv A outer s H E) a0 (L.pi D.N) ⟨gc,gm,L.no,L.tab,aE⟩ k ⟨D.d.scope,fun _=>true⟩ :=
 si (X:=cxOf CX0 prog w K mg base D.N D.d.qual D.d.scope f cdv A outer s H E) O Gc Gm rfl rfl rfl S.nd rfl hr
theorem y8(O:j9 L prog w K mg a0){k:Nat}{gc gm:Nat→AC}(Gc:eN L prog w K mg base a0 (k+1) gc)(Gm:eN L prog w K mg base a0 k gm){D:aR}{f cc:Addr}{cdv:Value}{A:Around}{outer:List Env}{s:Shared}{H:Hp}{E:XK}
  (S:dU D.N D.ps D.d.scope) (hr:Rm (k+1) (A.deeper (JM D.d.qual D.d.scope s.heap.objs.size f cdv cc))) :
  cj (fw CX0 prog w K mg base D.N D.d.qual D.d.scope f cdv cc A outer s H E) a0 (L.pi D.N) ⟨gc,gm,L.no,L.tab,aE⟩ k ⟨D.d.scope,lI⟩ :=
 si (X:=fw CX0 prog w K mg base D.N D.d.qual D.d.scope f cdv cc A outer s H E) O Gc Gm rfl rfl rfl S.nd rfl hr
theorem oI{W:Wd}{μ:List Addr}{H:Hp}{N:List Jh}{as:List AV}{vs:List V}(r:aV W μ H as vs):SR W μ H (as.map some++Ju (N.length - as.length) none) (start N vs):=by
 unfold KH;rw[r.length];exact SR.start _ r
theorem pR(O:j9 L prog w K mg a0)(hT:L.qK T){k:Nat}{gc gm:Nat→AC}(Gc:eN L prog w K mg base a0 (k+1) gc)(Gm:eN L prog w K mg base a0 k gm) :
  eN L prog w K mg base a0 (k+2) ((L.prog T).body gc gm):=by
 intro i D fd hD F0 S0;obtain⟨Fi,hF,hn,hz,hc⟩:=hT i D hD;have fin:∀{μ:List Addr} {H:Hp} {as:List AV} {ah:AH} {Q:VK},bh (⟨K,a0⟩:Wd) μ H ((L.prog T).body gc gm i as ah) Q→aQ (⟨K,a0⟩:Wd) μ H (eP (uc ⟨gc,gm,L.no,L.tab,aE⟩ (qM ⟨gc,gm,L.no,L.tab,aE⟩ DX) DX) Fi.body (as.map some++Ju (D.N.length - as.length) none) ah) { nx:=fun _ H'=>Q .non H',rt:=Q }:=fun{μ H as ah Q} p=>by
  unfold Prog.body at p;have hF':(L.prog T).fns[i]? = some Fi:=hF;rw[hF']at p;rw[←hz];exact pH p
 have sa:=nV (a0:=a0) (P:=L.pi D.N) (E:=⟨gc,gm,L.no,L.tab,aE⟩) (k:=k) DX;cases hsu:D.su with
 | some q=>
  obtain⟨C,B,fl⟩:=q;obtain⟨ar,F,h0⟩:=F0.sup hsu;have S:dU D.N D.ps D.d.scope:=by
   unfold lA at S0;rw[hsu]at S0;exact S0
  obtain⟨ib,D',hB,hD',had⟩:=O.base D C B fl (JK hD) hsu;unfold a3.comp at hc;rw[hsu]at hc;simp only at hc;split at hc
  ·rename_i st rest hbody;split at hc
   ·rename_i a b c1 c2;rw[hbody]at F;injection hc with hc
    rw[←hc]at fin;unfold sj at c1;split at c1
    ·rename_i x p0 p1 mth ap e es cp pos;split at c1
     ·rename_i hcond;obtain⟨rfl,rfl,h2,h4,h5⟩:=hcond;split at c1
      ·rename_i ib' as hib has;have hib':L.cixs.lookup B=some ib':=hib;rw[hB]at hib';injection hib' with hib'
       subst hib';split at c1
       ·rename_i n d hsh;cases c1;obtain⟨fd2,F2,S2,hs2⟩:=O.defs ib D' hD';obtain⟨hn2,hk2⟩:=hs2 _ _ _ _ hsh;subst hn2;have G2:=Gc ib D' fd2 hD' F2 S2;rw[had]at G2;refine ve (g:=gc ib) (gA:=cR d) (fa:=bR (qM ⟨gc,gm,L.no,L.tab,aE⟩ DX).e as) (rs:=eP (uc ⟨gc,gm,L.no,L.tab,aE⟩ (qM ⟨gc,gm,L.no,L.tab,aE⟩ DX) DX) b) F S h0 h2 h4 h5 ⟨fd2,D'.ps,G2,hk2⟩ rfl (fun cdv cc A outer s H E hr=> ?_) (fun _ p=>fin p)
        have X:=y8 (E:=E) (f:=D.ad K) (cdv:=cdv) (cc:=cc) (outer:=outer) (s:=s) (H:=H) O Gc Gm S hr;exact⟨bS sa.1 sa.2 X has,cD (iq sa.1 sa.2 X (passes_of rfl) S.kind DX) c2⟩
       ·cases c1
      ·cases c1
     ·cases c1
    ·cases c1
   ·cases hc
  ·cases hc
 | none=>
 have F:=F0.fun hsu
 have S:FnScope D.N D.ps D.d.scope:=by
  unfold lA at S0;rw[hsu]at S0;exact S0
 unfold a3.comp at hc;rw[hsu]at hc;simp only at hc;by_cases ht:BJ D=true
 ·rw[if_pos ht]at hc;unfold BJ at ht;rw[Ji,Jm]at ht;refine yN F S (fun vs H Q E ⟨μ,as,ah,hl,hr,r,p⟩=>r.length ▸ hl) (fun z hz q=> ?_) (Jk ht.1) fun cdv A outer s H vs Q E hr ⟨μ,as,ah,hl,hR,r,p⟩=> ?_
  ·have:=ht.2 z hz;rw[q]at this;cases this
  ·have X:=uq (E:=E) (f:=D.ad K) (cdv:=cdv) (outer:=outer) (s:=s) (H:=H) O Gc Gm S hr;have M:=jx (iq sa.1 sa.2 X (passes_of rfl) S.kind DX) (fun st ir e=>tx sa.1 X e) hc
   exact⟨_,M,μ,as.map some++Ju (D.N.length - as.length) none,ah,oI r,hR,fin p⟩
 ·rw[if_neg ht,ik]at hc;refine Dg F S (fun vs H Q E ⟨μ,as,ah,hl,hr,r,p⟩=>r.length ▸ hl) fun cdv A outer s H vs Q E hr ⟨μ,as,ah,hl,hR,r,p⟩=> ?_
  have X:=uq (E:=E) (f:=D.ad K) (cdv:=cdv) (outer:=outer) (s:=s) (H:=H) O Gc Gm S hr;have M:=cD (iq sa.1 sa.2 X (passes_of rfl) S.kind DX) hc;exact⟨_,M,μ,as.map some++Ju (D.N.length - as.length) none,ah,oI r,hR,fin p⟩
theorem lZ(O:j9 L prog w K mg a0)(hT:L.qK T):∀ k,eN L prog w K mg base a0 (k+1) ((L.prog T).two k).1∧eN L prog w K mg base a0 k ((L.prog T).two k).2
 | 0=>⟨jw,jw⟩
 | k+1=>by
  obtain⟨h1,h2⟩:=lZ O hT k;exact⟨pR O hT h1 h2,h1⟩
end
section
variable {K:Jj}{x qual:Jh}{params:Arguments}{body:List Stmt}{scope:Scope}{kws:List (Jh×V)}{f:Addr}{fd:FuncData}{ps:List Jh}{a0:Addr}
theorem a8{n:Nat}{ks:List Jh}(F:FunD K x qual params body scope [] kws f fd)
  (h:∀(kV doc pm:Value) (an:Option Addr) (cdv ct:Value) (us ws:List Value),us.length=n→ws.length=ks.length→bindArgs (LG x qual params body scope .none kV doc pm an cdv ct) ⟨us,ks.zip ws⟩=pure (ps.zip (us++ws))):AR K a0 fd ps n ks (aA []):=by
 obtain⟨oc,od,dV,kV,doc,pm,an,cdv,ct,osl,rfl,lk,hcd,hD,hK⟩:=F.ex;rcases hD with ⟨_,rfl⟩ | ⟨e,_⟩
 ·refine⟨fun us ws=>us++ws,fun vs zs=>vs++zs,⟨fun s us ws X l1 l2=> .of_eq (h kV doc pm an cdv ct us ws l1 l2),fun r q=>Vals.app r q⟩,fun μ H vs xs zs ws r q=> ?_⟩
  show aV _ μ H (vs++zs++[]) (xs++ws);rw[Lv];exact r.append q
 ·exact absurd rfl e
theorem xG{n:Nat}{dA:List AV}(F:FunD K x qual params body scope [] kws f fd)(hk:kws≠[])(hn:n+kws.length=ps.length)
  (hd:∀ μ H,aV ⟨K,a0⟩ μ H dA (kws.map (·.2)))
  (h:∀(D:Addr) (doc pm:Value) (an:Option Addr) (cdv ct:Value) (us ks:List Value),us.length=n→ks.length=kws.length→
   KwChain D ((kws.map (·.1)).zip ks) (bindArgs (LG x qual params body scope .none (.ref D) doc pm an cdv ct) ⟨us,[]⟩) (ps.zip (us++ks))):AR K a0 fd ps n [] (aA dA):=by
 obtain⟨ds,rd,B⟩:=F.binds0 n hk hn h;refine⟨fun us ws=>us++ws++ds,fun vs zs=>vs++zs++kws.map (·.2),⟨fun s us ws X l1 l2=> ?_,fun r q=>Vals.app (Vals.app r q) rd⟩,fun μ H vs xs zs ws r q=>(r.append q).append (hd μ H)⟩
 have e:ws=[]:=List.length_eq_zero_iff.mp l2;subst e;rw[Lv];refine B s us X ?_;rw[JY,l1,←rd.length,Jq];exact hn
def gP(code:List (Nat ⊕ Nat)){α:Type}(us mv ws:List α):List α:=us++code.flatMap fun c=>match c with
 | .inl i=>(ws.drop i).take 1
 | .inr j=>(mv.drop j).take 1
theorem Vals.flat{α:Type}{f:α → List V}{g:α → List Value}(h:∀ c,Vals (f c) (g c)):∀ l:List α,Vals (l.flatMap f) (l.flatMap g)
 | []=> .nil
 | c::l=>by
  rw[Kj,Kj];exact MB (h c) (Vals.flat h l)
theorem vZ(code:List (Nat ⊕ Nat)){vs mz zs:List V}{us mv ws:List Value}(h1:Vals vs us)(h2:Vals mz mv)(h3:Vals zs ws):Vals (gP code vs mz zs) (gP code us mv ws) :=
 MB h1 (Vals.flat (fun c=>by
  cases c with
  | inl i=>exact(h3.drop i).take 1
  | inr j=>exact(h2.drop j).take 1) code)
inductive yZ(K:Jj)(a0:Addr)(ms:List V):List AV→List (Nat ⊕ Nat)→Prop where
 | nil:yZ K a0 ms [] []
 | key {i es c}:yZ K a0 ms es c→yZ K a0 ms (.ref i::es) (.inl i::c)
 | lit {v x j es c}:(∀ zs,wq zs v=[v])→(ms.drop j).take 1=[x]→(∀ μ H,Rl ⟨K,a0⟩ μ H v x)→yZ K a0 ms es c→yZ K a0 ms (v::es) (.inr j::c)
theorem yZ.rel{ms:List V}{es:List AV}{c:List (Nat ⊕ Nat)}(p:yZ K a0 ms es c){μ:List Addr}{H:Hp}{zs:List AV}{ws:List V}(r:aV ⟨K,a0⟩ μ H zs ws):aV ⟨K,a0⟩ μ H (es.flatMap (wq zs)) (c.flatMap fun c=>match c with
  | .inl i=>(ws.drop i).take 1
  | .inr j=>(ms.drop j).take 1):=by
 induction p with
 | nil=>exact .nil
 | key _ ih=>
  rw[Kj,Kj];exact((r.drop _).take 1).append ih
 | lit h1 h2 h3 _ ih=>
  rw[Kj,Kj,h1];exact aV.append (by show aV _ μ H _ (MY 1 _); rw[h2]; exact .cons (h3 μ H) .nil) ih
theorem sU{n:Nat}{ks:List Jh}{es:List AV}(code:List (Nat ⊕ Nat))(F:FunD K x qual params body scope [] kws f fd)(pm:yZ K a0 [] es code)
  (h:∀(kV doc pm:Value) (an:Option Addr) (cdv ct:Value) (us ws:List Value),us.length=n→ws.length=ks.length→bindArgs (LG x qual params body scope .none kV doc pm an cdv ct) ⟨us,ks.zip ws⟩=pure (ps.zip (gP code us [] ws))):AR K a0 fd ps n ks (fG es):=by
 obtain⟨oc,od,dV,kV,doc,pm',an,cdv,ct,osl,rfl,lk,hcd,hD,hK⟩:=F.ex;rcases hD with ⟨_,rfl⟩ | ⟨e,_⟩
 ·exact⟨fun us ws=>gP code us [] ws,fun vs zs=>gP code vs [] zs,⟨fun s us ws X l1 l2=> .of_eq (h kV doc pm' an cdv ct us ws l1 l2),fun r q=>vZ code r .nil q⟩,fun μ H vs xs zs ws r q=>r.append (pm.rel q)⟩
 ·exact absurd rfl e
theorem AZ{α β:Type}{D:Addr}{l:List (Jh×Value)}{k:β → Sem α}{b:β}{t:Sem α}{r:α}(e:t=pure b >>= k)(h:KwChain D l (k b) r):KwChain D l t r:=by
 rw[e,pure_bind];exact h
theorem j3{n:Nat}{ks:List Jh}{es:List AV}(code:List (Nat ⊕ Nat))(ms:List (Jh×V))(F:FunD K x qual params body scope [] kws f fd)(hk:kws≠[])(hms:∀ q∈ms,q∈kws)(pm:yZ K a0 (ms.map (·.2)) es code)
  (h:∀(D:Addr) (doc pm:Value) (an:Option Addr) (cdv ct:Value) (us mv ws:List Value),us.length=n→mv.length=ms.length→ws.length=ks.length→
   KwChain D ((ms.map (·.1)).zip mv) (bindArgs (LG x qual params body scope .none (.ref D) doc pm an cdv ct) ⟨us,ks.zip ws⟩) (ps.zip (gP code us mv ws))):AR K a0 fd ps n ks (fG es):=by
 obtain⟨mv,hb⟩:=F.kbinds0 n ks ms (fun us mv ws=>gP code us mv ws) hk hms (fun h1 h2 h3=>vZ code h1 h2 h3) h
 exact⟨_,_,hb,fun μ H vs xs zs ws r q=>r.append (pm.rel q)⟩
end
inductive eQ(L:a3):List aR→List WC.FI→Prop where
 | nil:eQ L [] []
 | cons {D F ds T}:L.comp D=some F.body→F.n=D.ps.length→F.sz=D.N.length→eQ L ds T→eQ L (D::ds) (F::T)
theorem eQ.at{L:a3}:∀{ds:List aR} {T:List WC.FI} {i:Nat} {D:aR},eQ L ds T→ds[i]? = some D→∃ F:WC.FI,T[i]? = some F∧F.n=D.ps.length∧F.sz=D.N.length∧L.comp D=some F.body
 | _,_,_,_,.nil,h=>by simp at h
 | _,_,0,_,.cons a b c _,h=>by simp at h; subst h; exact⟨_,rfl,b,c,a⟩
 | _,_,i+1,D,.cons _ _ _ t,h=>by
  obtain⟨F,h1,h2⟩:=eQ.at (i:=i) (D:=D) t (by simpa using h)
  exact⟨F,by simpa using h1,h2⟩
theorem eQ.ok{L:a3}{T:List WC.FI}(h:eQ L L.defs T):L.qK T:=fun i D hD=>h.at hD
def xN:AV→Option Nj
 | .non=>some .non
 | .bl b=>some (.bl b)
 | .int i=>some (.int i)
 | .str x=>some (.str x)
 | _=>none
def lR:List AV→Option (List Nj)
 | []=>some []
 | v::r=>(match xN v,lR r with
  | some a,some b=>some (a::b)
  | _,_=>none)
def jX(p:Jh×AV):List Nk:=match p.2 with
 | .int i=>[.int p.1 i]
 | .str z=>[.str p.1 z]
 | _=>[.glo p.1]
def a3.facts(L:a3):List Nk :=
 L.fixs.map (fun p=> .glo p.1)++L.cixs.flatMap (fun p=>[.glo p.1,.mkr p.1,.cls p.1])++L.mths.flatMap (fun m=>m.2.flatMap fun p=>[.cls p.1,.meth p.1 m.1])++L.nos.flatMap (fun p=> .cls p.1::p.2.map fun f=> .noat p.1 f)++L.frees.map .free++L.globs.flatMap jX++L.prps.flatMap (fun m=>m.2.map fun p=> .cls p.1)
def EA(K:Jj)(p:Jh×AV):Bool:=match p.2 with
 | .tup vs=>(match lR vs with
  | some ds=>He.tupB K p.1 ds
  | none=>false)
 | _=>true
def GR(K:Jj)(p:Jh×List (Jh×AV)):Bool:=p.2.all fun q=>match xN q.2,JX K (Jo K p.1) q.1 with
 | some d,some (some u)=>He.relB (d.v K) u
 | _,_=>false
def uC(K:Jj)(p:Jh×List (Jh×AV)):Bool:=match K.lookup (Jo K p.1)with
 | some ⟨_,_,.dict es _,_⟩=>es.toList.all fun e=>match e.key with
  | .str z _=>(p.2.lookup z).isSome
  | _=>false
 | _=>false
theorem uz{K:Jj}{p:Jh×List (Jh×AV)}(h:uC K p=true){k:Jh}(hk:p.2.lookup k=none):JX K (Jo K p.1) k=some none:=by
 unfold uC at h;split at h
 ·rename_i c d es n sl e;unfold JX;rw[e];have h1:es.toList.find? (·.key.isStr k)=none:=List.find?_eq_none.mpr fun x hx hs=>by
   have q:=Jm.mp h x hx;split at q
   ·rename_i z t ez;rw[ez]at hs;have ek:z=k:=by simpa [Value.isStr,Value.isStrOf]using hs
    rw[ek,hk]at q;cases q
   ·cases q
  have h2:es.toList.any (·.refKey)=false:=List.any_eq_false.mpr fun x hx hs=>by
   have q:=Jm.mp h x hx;split at q
   ·rename_i z t ez;unfold DictEntry.refKey at hs;rw[ez]at hs;cases hs
   ·cases q
  simp only[h1,h2];rfl
 ·cases h
def eqB(K:Jj)(p:Jh×Nat):Bool:=Mw (JA K (.ref (Jo K p.1)) "__ne__") (some (some (.builtin "object.__ne__"))) && (decide (Ka K (Jo K p.1) (.type "object")=some true) && (JD K (Jo K p.1) (.type "NoneType") && (JD K (Jo K p.1) (.type "tuple") && JD K (Jo K p.1) (.type "str"))))
def a3.HA(L:a3)(K:Jj):Bool:=match L.mths.lookup ("__eq__" : Jh)with
 | some row=>row.all (eqB K)
 | none=>true
def Eb(K:Jj)(D:Jh):Bool:=Mw (JA K (.ref (Jo K D)) "__class__") (some (some (.builtin "object.__class__"))) && (Mw (KE K (.builtin "object.__class__") "__get__") (some (some (.builtin "getset_descriptor.__get__"))) &&
 (decide (LC K (.builtin "object.__class__")=some true) && decide (Ka K (Jo K D) (.type "object")=some true)))
def IC(K:Jj)(D:Jh):Bool:=decide (J3 K (.type "NoneType") (.ref (Jo K D))=some false) && (decide (J3 K (.type "tuple") (.ref (Jo K D))=some false) && decide (J3 K (.type "str") (.ref (Jo K D))=some false))
def a3.qu(L:a3)(K:Jj):Bool:=L.cixs.all fun p=>(Eb K p.1 && IC K p.1) && L.cixs.all fun q=>decide (J3 K (.ref (Jo K p.1)) (.ref (Jo K q.1))=some (jD L.dj p.1 q.1)) &&
 (decide (p.1=q.1) || (!(Jo K p.1 == Jo K q.1) && decide (Kr K (.ref (Jo K p.1)) (.ref (Jo K q.1))=some (jD L.dj p.1 q.1))))
def sG(K:Jj)(p:Jh×Option Jh):Bool:=match p.2 with
 | some f=>(match JA K (.ref (Jo K p.1)) f with
  | some (some (.ref a))=>Mw (KE K (.ref a) "__get__") (some (some (.builtin "property.__get__"))) && (decide (LC K (.ref a)=some true) && (match KS K a "property" with
   | some (.ref _::_)=>true
   | _=>false))
  | _=>false)
 | none=>false
def Hk(x:Option MC)(a c:Addr):Bool:=match x with
 | some (.get (.builtin z) (.ref a') .none (.ref c'))=>decide (z = "classmethod.__get__") && (a' == a && c' == c)
 | _=>false
theorem B0 {x:Option MC} {a c:Addr} (h:Hk x a c=true):x=some (.get (.builtin "classmethod.__get__") (.ref a) .none (.ref c)):=by
 unfold Hk at h;split at h
 ·rw[Ji,Ji,decide_eq_true_eq,beq_iff_eq,beq_iff_eq]at h;obtain⟨rfl,rfl,rfl⟩:=h;rfl
 ·cases h
def Io(K:Jj)(p:Jh×Option Jh):Bool:=match p.2 with
 | some f=>PySem.W.readsIn K (Jo K p.1) (.type "type") && (Mw (KE K (.ref (Jo K p.1)) "__getattribute__") (some (some (.builtin "type.__getattribute__"))) && (match JA K (.ref (Jo K p.1)) f with
  | some (some (.ref a))=>decide (KS K a "property" = none) && (Hk (PySem.W.findCls K (.ref (Jo K p.1)) (.type "type") f) a (Jo K p.1) && (match KS K a "classmethod" with
   | some (.ref g::_)=>K7 K g
   | _=>false))
  | _=>false))
 | none=>false
def xp(L:a3)(m:Jh)(q:Jh×Nat):Bool:=match L.defs[q.2]? with
 | some D=>decide (D.pr=true) && (decide (D.cm=true) && (decide (D.su=none) && (decide (D.d.at_=(q.1,some m)) && (L.cixs.lookup q.1).isSome)))
 | none=>false
def EL(K:Jj)(p:Jh×Jh×Jh):Bool:=LQ K (p.1,some p.2.1) == LQ K (p.2.2,some p.2.1)
def Ck(K:Jj)(p:Jh×Jh×Jh):Bool:=sG K (p.1,some p.2.1) && (yg K (p.1,some p.2.1) == yg K (p.2.2,some p.2.1))
def a3.Gh(L:a3)(K:Jj):Bool:=(L.inh.all (EL K) && L.inhp.all (Ck K)) && L.cms.all fun m=>m.2.all (xp L m.1)
def a3.ex(L:a3)(K:Jj):Bool:=L.globs.all (EA K) && L.tabs.all (fun p=>GR K p && uC K p) && L.HA K && L.qu K && L.Gh K
def a3.ts(L:a3):List Nn:=L.tabs.map fun p=>(fun K=>Jo K p.1,p.2.map (·.1))
def a3.fn(L:a3):List MR:=(L.defs.filter fun D=> !D.pr && D.su.isNone).map (·.d)
def a3.cx(L:a3):List aR:=L.defs.filter fun D=>D.pr || D.su.isSome
def Ed(K:Jj)(D:aR):Np:=match K.lookup (D.ad K)with
 | some o=>(match o.data with
  | .func f=>some (f.name,f.qualname,f.params,f.body,f.scope,f.globals,(match D.su with
   | some _=>[]
   | none=>f.closure),f.builtins)
  | _=>none)
 | none=>none
def EO(K:Jj)(C B fl:Jh)(f:FuncData):Bool:=match f.closure,f.code,f.defaults with
 | [(x,cc)],.ref cda,.none=>decide (x=("__class__" : Jh)) && (match K.lookup cc with
   | some ⟨_,_,.cell (some (.ref a)),_⟩=>a == Jo K C
   | _=>false) && (match K.lookup cda with
   | some ⟨_,_,.fields vs,_⟩=>(match (vs[2]?:Option Value)with
    | some (.str z _)=>decide (z=fl)
    | _=>false)
   | _=>false) && (Lh K (Jo K C)).isSome && decide (Ka K (Jo K C) (.ref (Jo K C))=some true) && Mw (JX K mainGlobals "super") (some none) &&
   Mw (K8 K (Jo K C) (Jo K C) "__init__") (some (some (.ref (LQ K (B,some "__init__"))))) && decide (Mz K (.ref (LQ K (B,some "__init__")))=some (.type "function")) && K7 K (LQ K (B,some "__init__")) && Mw (JX K cStatics "thirdparty.any") (some none)
 | _,_,_=>false
def BX(K:Jj)(D:aR):Bool:=Km K (.ref (D.ad K)) && ((match D.su with
  | some _=>true
  | none=>if D.cm=true then Io K D.d.at_ else sG K D.d.at_) && (match K.lookup (D.ad K)with
 | some o=>(match o.data with
  | .func f=>LP K f.code D.d.qual && (match D.su with
   | some (C,B,fl)=>EO K C B fl f
   | none=>He.dflB K f.defaults (D.d.dvs K) && He.kwdB K f.kwdefaults (D.d.kws K))
  | _=>false)
 | none=>false))
def dC(ds:List aR)(K:Jj):Prop:=(ds.map (Ed K),ds.all (BX K))=(ds.map fun D=>D.d.val,true)
theorem oB{K:Jj}{x f:Jh}(h:sG K (x,some f)=true):∃ p,PropOf K (Jo K x) f p (yg K (x,some f)):=by
 unfold sG at h;simp only at h;split at h
 ·rename_i a ha;rw[Ji,Ji]at h;obtain⟨h1,h2,h3⟩:=h;split at h3
  ·rename_i g rest hr;refine⟨a,ha,K4 h1,of_decide_eq_true h2,rest, ?_⟩;unfold yg;simp only[ha,hr]
  ·cases h3
 ·cases h
theorem dC.at_{ds:List aR}{K:Jj}(h:dC ds K){D:aR}(hD:D∈ds):Ed K D=D.d.val∧BX K D=true:=by
 injection h with h1 h2
 refine⟨?_,Jm.mp h2 D hD⟩;exact Mg.mp h1 D hD
theorem dC.prop{ds:List aR}{K:Jj}(h:dC ds K){D:aR}(hD:D∈ds)(hp:D.pr=true)(hc:D.cm=false)(hs:D.su=none){x f:Jh}(e:D.d.at_=(x,some f)):∃ p,PropOf K (Jo K x) f p (yg K D.d.at_):=by
 have:=(h.at_ hD).2;unfold BX at this;rw[Ji,Ji,hs]at this;have h2:=this.2.1;simp only[hc,Jp,if_false]at h2;rw[e]at h2 ⊢;exact oB h2
theorem dC.cmet {ds:List aR} {K:Jj} (h:dC ds K) {D:aR} (hD:D∈ds) (hc:D.cm=true) (hs:D.su=none) {x f:Jh} (e:D.d.at_=(x,some f)):∃ p,Mv K (Jo K x) (.type "type")∧MO K (Jo K x) (.type "type") f p (yg K D.d.at_):=by
 have:=(h.at_ hD).2;unfold BX at this;rw[Ji,Ji,hs]at this;have h2:=this.2.1;simp only[hc,if_true]at h2;rw[e]at h2 ⊢;unfold Io at h2;simp only[Ji]at h2;obtain⟨h3,h4,h5⟩:=h2;split at h5
 ·rename_i a ha;simp only[Ji,decide_eq_true_eq]at h5;obtain⟨h6,h7,h8⟩:=h5;split at h8
  ·rename_i g rest hr;refine⟨a,⟨h3,K4 h4⟩,⟨B0 h7, ?_, ?_⟩⟩
   ·unfold yg;simp only[ha,h6,hr];exact⟨rest,rfl⟩
   ·unfold yg;simp only[ha,h6,hr];exact h8
  ·cases h8
 ·cases h5
theorem dC.GS{ds:List aR}{K:Jj}(h:dC ds K){D:aR}(hD:D∈ds)(hs:D.su=none):∃ fd,FunD K D.d.name D.d.qual D.d.params D.d.body D.d.scope (D.d.dvs K) (D.d.kws K) (D.ad K) fd:=by
 obtain⟨e,b⟩:=h.at_ hD;unfold BX at b;rw[Ji,Ji]at b;obtain⟨kp,_,b⟩:=b;unfold Ed at e;cases q:K.lookup (D.ad K)with
 | none=>rw[q]at b; cases b
 | some o=>
  obtain⟨oc,od,dt,osl⟩:=o;rw[q]at b e;cases dt with
  | func f=>
   obtain⟨m1,m2,m3,m4,m5,m6,m7,m8,m9,m10,m11,m12,m13,m14,m15⟩:=f;rw[hs]at e b;have e2:(some (m1,m2,m3,m4,m5,m6,m7,m15):Np)=some (D.d.name,D.d.qual,D.d.params,.stmts D.d.body,D.d.scope,mainGlobals,[],builtinsNs):=e;simp only[Mh,L4]at e2;obtain⟨h1,h2,h3,h4,h5,h6,h7,h8⟩:=e2;subst h1 h2 h3 h4 h5 h6 h7 h8;have b2:(LP K m13 D.d.qual && (He.dflB K m8 (D.d.dvs K) && He.kwdB K m9 (D.d.kws K)))=true:=b;rw[Ji,Ji]at b2;exact⟨_,⟨oc,od,m8,m9,m10,m11,m12,m13,m14,osl,rfl,q,b2.1,He.dflB_ok b2.2.1,He.kwdB_ok b2.2.2⟩,kp⟩
  | _=>cases b
theorem dC.sup {ds:List aR} {K:Jj} (h:dC ds K) {D:aR} (hD:D∈ds) {C B fl ar:Jh} (hs:D.su=some (C,B,fl)) {prog:Program} (hf:(prog.main.file == fl)=true) (ht:(prog.main.scope.names.lookup ("super" : Jh)).isSome=false)
  (ha:(D.d.params.posonlyargs++D.d.params.args).head?.map (·.arg)=some ar) (hp:D.ps.head? = some ar):∃ fd,cK K prog D fd:=by
 obtain⟨e,b⟩:=h.at_ hD;unfold BX at b;rw[Ji,Ji]at b;obtain⟨kp,_,b⟩:=b;unfold Ed at e;cases q:K.lookup (D.ad K)with
 | none=>rw[q]at b; cases b
 | some o=>
  obtain⟨oc,od,dt,osl⟩:=o;rw[q]at b e;cases dt with
  | func f=>
   obtain⟨m1,m2,m3,m4,m5,m6,m7,m8,m9,m10,m11,m12,m13,m14,m15⟩:=f;rw[hs]at e b;have e2:(some (m1,m2,m3,m4,m5,m6,([]:List (Jh×Addr)),m15):Np)=some (D.d.name,D.d.qual,D.d.params,.stmts D.d.body,D.d.scope,mainGlobals,[],builtinsNs):=e;simp only[Mh,L4]at e2;obtain⟨h1,h2,h3,h4,h5,h6,_,h8⟩:=e2;subst h1 h2 h3 h4 h5 h6 h8;have b2:=b;simp only[Ji]at b2;obtain⟨hcode,b3⟩:=b2;unfold EO at b3;simp only at b3;split at b3
   ·rename_i x cc cda;simp only[Ji]at b3;obtain⟨⟨⟨⟨⟨⟨⟨⟨⟨g1,g2⟩,g3⟩,g4⟩,g5⟩,g6⟩,g7⟩,g8⟩,g9⟩,g10⟩:=b3;have g1:=of_decide_eq_true g1;subst g1;split at g2
    ·rename_i cl cld a csl hcell;have g2:a=Jo K C:=beq_iff_eq.mp g2;subst g2;split at g3
     ·rename_i ccl cdd vs ccs hcd;split at g3
      ·rename_i z tf hz;have g3:=of_decide_eq_true g3;subst g3;obtain⟨a,ha1,ha2⟩:∃ a,(D.d.params.posonlyargs++D.d.params.args).head? = some a∧a.arg=ar:=by
        cases w:(D.d.params.posonlyargs++D.d.params.args).head? with
        | none=>rw[w]at ha; cases ha
        | some a=>rw[w]at ha; injection ha with ha; exact⟨a,rfl,ha⟩
       obtain⟨cd,hcls⟩:=JE.mp g4;refine⟨M8 D.d.name D.d.qual D.d.params D.d.body D.d.scope .none m9 m10 m11 m12 (.ref cda) m14 cc, ?_⟩;unfold cK;rw[hs];exact⟨ar,⟨⟨oc,od,m9,m10,m11,m12,.ref cda,m14,osl,cc,rfl,q,hcode,⟨⟨oc,od,_,osl,a,q,ha1,ha2⟩,⟨cda,ccl,cdd,ccs,vs,z,tf,rfl,hcd,hz,hf⟩,⟨cl,cld,csl,hcell⟩,⟨cd,hcls⟩,of_decide_eq_true g5,K4 g6,ht,K4 g7,of_decide_eq_true g8,g9,K4 g10⟩⟩,kp⟩,hp⟩
      ·cases g3
     ·cases g3
    ·cases g2
   ·cases b3
  | _=>cases b
def DC(L:a3)(inh:List (Jh×Jh×Jh))(pr:Bool)(m:Jh)(p:Jh×Nat):Bool:=match L.defs[p.2]? with
 | some D=>decide (D.pr=pr∧D.cm=false) && decide (D.su=none) && decide (D.d.at_.2=some m) && (decide (D.d.at_.1=p.1) || inh.contains (p.1,m,D.d.at_.1))
 | none=>false
def HD(L:a3)(D:aR):Bool:=match D.su with
 | none=>true
 | some (C,B,_)=>decide (D.pr=false) && decide (D.d.at_=(C,some ("__init__" : Jh))) && (L.cixs.lookup B).isSome && decide ((D.d.params.posonlyargs++D.d.params.args).head?.map (·.arg)=D.ps.head?) && D.ps.head?.isSome
def a3.stat(L:a3):Bool :=
 (L.fixs.all fun p=>decide ((L.defs[p.2]?).map (fun D=>(D.pr,D.d.at_))=some (false,p.1,none))) && (L.cixs.all fun p=>decide ((L.defs[p.2]?).map (fun D=>(D.pr,D.d.at_))=some (false,p.1,some ("__init__" : Jh)))) &&
  (L.mths.all fun m=>m.2.all (DC L L.inh false m.1)) && (L.prps.all fun m=>m.2.all (DC L L.inhp true m.1)) && (L.globs.all fun p=>match p.2 with
   | .int _=>true
   | .str _=>true
   | .tup vs=>(lR vs).isSome
   | .glo x=>decide (x=p.1)
   | _=>false) && L.defs.all (HD L)
def a3.sup(L:a3)(P:Program):Bool:=L.defs.all fun D=>match D.su with
 | none=>true
 | some (_,_,fl)=>(P.main.file == fl) && !(P.main.scope.names.lookup ("super" : Jh)).isSome
theorem rj{K:Jj}{a0:Addr}{v:AV}{d:Nj}(h:xN v=some d)(μ:List Addr)(H:Hp):Rl ⟨K,a0⟩ μ H v (d.v K):=by
 cases v<;>simp [xN]at h<;>subst h
 ·exact .non
 ·exact .bl
 ·exact .int
 ·exact .str
theorem oT{K:Jj}{a0:Addr}:∀{vs:List AV} {ds:List Nj},lR vs=some ds→∀(μ:List Addr) (H:Hp),aV ⟨K,a0⟩ μ H vs (ds.map (Nb K))
 | [],ds,h,μ,H=>by cases h; exact .nil
 | v::r,ds,h,μ,H=>by
  unfold lR at h;split at h
  ·rename_i a b h1 h2;cases h;exact .cons (rj h1 μ H) (oT h2 μ H)
  ·cases h
theorem lookup_mem{β:Type}{x:Jh}{v:β}:∀{l:List (Jh× β)},l.lookup x=some v→(x,v)∈l
 | [],h=>by cases h
 | (y,u)::r,h=>by
  rw[J7]at h;split at h
  ·rename_i q;cases h;have:x=y:=by simpa using q
   subst this;exact JO
  ·exact JI _ (lookup_mem h)
theorem qm{α β:Type}[DecidableEq β]{o:Option α}{g:α → β}{b:β}(h:decide (o.map g=some b)=true):∃ a,o=some a∧g a=b:=by
 have:=of_decide_eq_true h;cases o with
 | none=>cases this
 | some a=>exact⟨a,rfl,by simpa using this⟩
def cF(L:a3)(K:Jj)(a0:Addr)(p:(Nat×Nat×List Jh)×(Nat×List AV)):Prop :=
 ∃ D:aR,L.defs[p.1.1]? = some D∧p.2.1=D.ps.length∧∀ prog fd,cK K prog D fd→AR K a0 fd D.ps p.1.2.1 p.1.2.2 (cR p.2.2)
inductive qF{α:Type}(Q:α → Prop):List α → Prop where
 | nil:qF Q []
 | cons {x l}:Q x→qF Q l→qF Q (x::l)
theorem qF.qk{α:Type}{Q:α → Prop}{x:α}:∀{l:List α},qF Q l→x∈l→Q x
 | _,.nil,h=>by cases h
 | _,.cons a t,h=>(Jv.mp h).elim (fun e=>e ▸ a) fun h=>qF.qk t h
theorem jn{α β:Type}[BEq α][LawfulBEq α]{x:α}{v:β}:∀{l:List (α × β)},l.lookup x=some v→(x,v)∈l
 | [],h=>by cases h
 | (y,u)::r,h=>by
  rw[J7]at h;split at h
  ·rename_i q;cases h;have:x=y:=by simpa using q
   subst this;exact JO
  ·exact JI _ (jn h)
theorem vc{L:a3}{prog:Program}{w:World}{K:Jj}{h:Heap}{mg:Jh→Option Value}{a0:Addr}(X:K.In h)(G:h.Ns mainGlobals mg)(c:MU L.facts L.fn L.ts [] L.ex w h K)(cp:dC L.cx K)(st:L.stat=true)(hP:L.sup prog=true)
  (sc:qF lA L.defs) (sh:qF (cF L K a0) L.shapes):j9 L prog w K mg a0:=by
 have cd:=c.t.d;have fact:∀{f:Nk},f∈L.facts→f.ok K=true:=fun hf=>cd.facts hf
 obtain⟨exgti,exh⟩:=Nq c.more;obtain⟨exh0,exc⟩:=Nq (show((L.inh.all (EL K) && L.inhp.all (Ck K)) && L.cms.all fun m=>m.2.all (xp L m.1))=true from exh)
 obtain⟨exh1,exh2⟩:=Nq exh0;obtain⟨exgtq,exi⟩:=Nq exgti;obtain⟨exgt,exq⟩:=Nq exgtq;obtain⟨exg,ext⟩:=Nq exgt;unfold a3.stat at st;rw[Ji,Ji,Ji,Ji,Ji]at st;obtain⟨⟨⟨⟨⟨st1,st2⟩,st3⟩,st5⟩,st4⟩,st6⟩:=st;have adF:∀{D:aR},D.pr=false→D.ad K=LQ K D.d.at_:=fun{D} z=>by unfold aR.ad; rw[z]
 have adT:∀{D:aR},D.pr=true→D.ad K=yg K D.d.at_:=fun{D} z=>by unfold aR.ad; rw[z]
 have inF:∀{f:Nk},(f∈L.fixs.map (fun p=>Nr p.1)∨f∈L.cixs.flatMap (fun p=>[Nr p.1,.mkr p.1,.cls p.1])∨f∈L.mths.flatMap (fun m=>m.2.flatMap fun p=>[L5 p.1,.meth p.1 m.1])∨f∈L.nos.flatMap (fun p=>L5 p.1::p.2.map fun f=> .noat p.1 f)∨f∈L.frees.map He.Fa.free∨f∈L.globs.flatMap jX∨f∈L.prps.flatMap (fun m=>m.2.map fun p=>L5 p.1))→f∈L.facts:=fun{f} hf=>by
  unfold a3.facts;simp only[KZ];rcases hf with h | h | h | h | h | h | h
  ·exact .inl (.inl (.inl (.inl (.inl (.inl h)))))
  ·exact .inl (.inl (.inl (.inl (.inl (.inr h)))))
  ·exact .inl (.inl (.inl (.inl (.inr h))))
  ·exact .inl (.inl (.inl (.inr h)))
  ·exact .inl (.inl (.inr h))
  ·exact .inl (.inr h)
  ·exact .inr h
 refine⟨fun x v hx=> ?_,fun x hx=> ?_,fun x i hx=> ?_,fun x i hx=> ?_,fun m row x i hm hi=> ?_, ?_,fun C hC=> ?_,fun C D hC hD ne=> ?_,fun D C B fl hD hs=> ?_,fun row x i hm hi=> ?_,fun m row x i hm hi=> ?_,fun m row x i hm hi=> ?_,fun C f hf=> ?_,fun x kvs hx=> ?_,fun i D hD=> ?_⟩
 ·have hm:=lookup_mem hx;have hs:=Jm.mp st4 _ hm;have hb:=Jm.mp exg _ hm;have hg:∀ f∈jX (x,v),f.ok K=true:=fun f hf=>fact (inF (.inr (.inr (.inr (.inr (.inr (.inl (JR.mpr ⟨_,hm,hf⟩))))))))
  cases v with
  | int i=>
   obtain⟨t,ht⟩:=He.int_ok X G (hg (.int x i) (by simp [jX]))
   exact⟨_,.int i,ht,⟨t,rfl⟩,fun _ _=> .int⟩
  | str z=>
   obtain⟨t,ht⟩:=He.str_ok X G (hg (.str x z) (by simp [jX]))
   exact⟨_,.str z,ht,⟨t,rfl⟩,fun _ _=> .str⟩
  | tup vs=>
   have ht:=L6 X G (hg (.glo x) (by simp [jX]))
   have hb':(match lR vs with
    | some ds=>He.tupB K x ds
    | none=>false)=true:=hb
   split at hb'
   ·rename_i ds hd;exact⟨_,.ref (Jo K x),ht,rfl,fun μ H=> .tup (He.tupB_ok hb' H) (oT hd μ H)⟩
   ·cases hb'
  | glo y=>
   have e:y=x:=of_decide_eq_true hs;subst e;exact⟨_,.ref (Jo K y),L6 X G (hg (.glo y) (by simp [jX])),rfl,fun _ _=> .glo⟩
  | _=>cases hs
 ·refine He.free_ok X G (fact (inF (.inr (.inr (.inr (.inr (.inl (JS.mpr ⟨x, ?_,rfl⟩))))))));simpa using hx
 ·have hm:=lookup_mem hx;obtain⟨D,hD,e⟩:=qm (Jm.mp st1 _ hm);have hg:=L6 X G (fact (inF (.inl (JS.mpr ⟨_,hm,rfl⟩))));injection e with e0 e
  refine⟨D,hD, ?_,hg⟩;rw[adF e0,e];exact hg
 ·have hm:=lookup_mem hx;obtain⟨D,hD,e⟩:=qm (Jm.mp st2 _ hm);refine⟨D,hD,L6 X G (fact (inF (.inr (.inl (JR.mpr ⟨_,hm,by simp⟩))))), ?_⟩
  injection e with e0 e
  rw[adF e0,e];exact He.mkr_ok (fact (inF (.inr (.inl (JR.mpr ⟨_,hm,by simp⟩)))))
 ·have hm':=lookup_mem hm;have at0:DC L L.inh false m (x,i)=true:=Jm.mp (Jm.mp st3 _ hm') _ hi;have inM:∀ f∈[L5 x,.meth x m],f.ok K=true:=fun f hf=>fact (inF (.inr (.inr (.inl (JR.mpr ⟨_,hm',JR.mpr ⟨_,hi,hf⟩⟩)))))
  unfold DC at at0;split at at0
  ·rename_i D hD;simp only[Ji,decide_eq_true_eq,JC]at at0;obtain⟨⟨⟨e0,e3⟩,e1⟩,e2⟩:=at0;have ead:D.ad K=LQ K (x,some m):=by
    rw[adF e0.1,show D.d.at_=(D.d.at_.1,some m)from by rw[←e1]]
    rcases e2 with e2 | e2
    ·rw[e2]
    ·have hx:=Jm.mp exh1 _ (LH.mp e2);exact(beq_iff_eq.mp hx).symm
   refine⟨D,hD,Mx (inM _ (by simp)), ?_⟩
   rw[ead];exact He.meth_ok (inM _ (by simp))
  ·cases at0
 ·have exi:L.qu K=true:=exi;unfold a3.qu at exi;have mem:∀ D,(L.dj.lookup D).isSome=true→∃ p∈L.cixs,p.1=D:=fun D hD=>by
   obtain⟨v,hv⟩:=JE.mp hD;obtain⟨p,hp,e⟩:=JS.mp (lookup_mem hv);injection e with e1 e2
   exact⟨p,hp,e1⟩
  refine⟨fun D hD=> ?_,fun D C hD hC=> ?_⟩
  ·obtain⟨p,hp,rfl⟩:=mem D hD;have h1:=Jm.mp exi p hp;rw[Ji]at h1;have h2:=(LL.mp h1.1).1;unfold Eb at h2;rw[Ji,Ji,Ji]at h2;exact⟨Mx (fact (inF (.inr (.inl (JR.mpr ⟨_,hp,by simp⟩))))),K4 h2.1,K4 h2.2.1,of_decide_eq_true h2.2.2.1,of_decide_eq_true h2.2.2.2⟩
  ·obtain⟨p,hp,rfl⟩:=mem D hD;obtain⟨q,hq,rfl⟩:=mem C hC;have h1:=Jm.mp exi p hp;rw[Ji]at h1;have h3:=Jm.mp h1.2 q hq;rw[Ji]at h3;exact of_decide_eq_true h3.1
 ·have exi:L.qu K=true:=exi;unfold a3.qu at exi;obtain⟨v,hv⟩:=JE.mp hC;obtain⟨p,hp,e⟩:=JS.mp (lookup_mem hv);injection e with e1 e2
  subst e1;have h1:=Jm.mp exi p hp;rw[Ji]at h1;have h2:=(LL.mp h1.1).2;unfold IC at h2;rw[Ji,Ji]at h2;exact⟨of_decide_eq_true h2.1,of_decide_eq_true h2.2.1,of_decide_eq_true h2.2.2⟩
 ·have exi:L.qu K=true:=exi;unfold a3.qu at exi;have mem:∀ D,(L.dj.lookup D).isSome=true→∃ p∈L.cixs,p.1=D:=fun D hD=>by
   obtain⟨v,hv⟩:=JE.mp hD;obtain⟨p,hp,e⟩:=JS.mp (lookup_mem hv);injection e with e1 e2
   exact⟨p,hp,e1⟩
  obtain⟨q,hq,rfl⟩:=mem C hC;obtain⟨p,hp,rfl⟩:=mem D hD;have h1:=Jm.mp exi p hp;rw[Ji]at h1;have h3:=Jm.mp h1.2 q hq;rw[Ji,JC]at h3;rcases h3.2 with z | z
  ·exact absurd (of_decide_eq_true z) ne
  ·rw[Ji]at z;refine⟨fun w=> ?_,of_decide_eq_true z.2⟩
   rw[w]at z;simp at z
 ·have h6:=Jm.mp st6 D hD;unfold HD at h6;rw[hs]at h6;simp only[Ji]at h6;obtain⟨i,hi⟩:=JE.mp h6.1.1.2;obtain⟨D',hD',e⟩:=qm (Jm.mp st2 _ (lookup_mem hi));injection e with e0 e
  exact⟨i,D',hi,hD',by rw[adF e0,e]⟩
 ·have exq:L.HA K=true:=exq;unfold a3.HA at exq;rw[hm]at exq;have:=Jm.mp exq _ hi;unfold eqB at this;rw[Ji,Ji,Ji,Ji]at this;exact⟨K4 this.1,of_decide_eq_true this.2.1,this.2.2.1,this.2.2.2.1,this.2.2.2.2⟩
 ·have hm':=lookup_mem hm;have at0:DC L L.inhp true m (x,i)=true:=Jm.mp (Jm.mp st5 _ hm') _ hi;unfold DC at at0;split at at0
  ·rename_i D hD;simp only[Ji,decide_eq_true_eq,JC]at at0;obtain⟨⟨⟨e0,e3⟩,e1⟩,e2⟩:=at0;have hmem:D∈L.cx:=KD.mpr ⟨JK hD,by rw[e0.1]; rfl⟩
   have eat:D.d.at_=(D.d.at_.1,some m):=by rw[←e1]
   obtain⟨p,P⟩:=cp.prop hmem e0.1 e0.2 e3 eat;have hcls:=Mx (fact (inF (.inr (.inr (.inr (.inr (.inr (.inr (JR.mpr ⟨_,hm',JS.mpr ⟨_,hi,rfl⟩⟩)))))))));rcases e2 with e2 | e2
   ·refine⟨D,p,hD,hcls, ?_⟩;rw[adT e0.1,←e2];exact P
   ·have hx:=Jm.mp exh2 _ (LH.mp e2);unfold Ck at hx;rw[Ji]at hx;obtain⟨p',P'⟩:=oB hx.1;refine⟨D,p',hD,hcls, ?_⟩;have:=beq_iff_eq.mp hx.2;simp only at this;rw[adT e0.1,eat,←this];exact P'
  ·cases at0
 ·have hr:=Jm.mp (Jm.mp exc _ (lookup_mem hm)) _ (lookup_mem hi);unfold xp at hr;simp only at hr;split at hr
  ·rename_i D hD;simp only[Ji,decide_eq_true_eq]at hr;obtain⟨c1,c2,c3,c4,c5⟩:=hr;have hmem:D∈L.cx:=KD.mpr ⟨JK hD,by rw[c1]; rfl⟩
   obtain⟨p,r,c⟩:=cp.cmet hmem c2 c3 c4;obtain⟨j,hj⟩:=JE.mp c5;have hg:mg x=some (.ref (Jo K x)):=L6 X G (fact (f:=.glo x) (inF (.inr (.inl (JR.mpr ⟨(x,j),lookup_mem hj,by simp⟩)))))
   exact⟨D,_,p,hD,hg,r,by rw[adT c1]; exact c⟩
  ·cases hr
 ·unfold a3.no at hf;split at hf
  ·rename_i fs hl;have hm:=lookup_mem hl;have inN:∀ g∈L5 C::fs.map (fun f=>He.Fa.noat C f),g.ok K=true:=fun g hg=>fact (inF (.inr (.inr (.inr (.inl (JR.mpr ⟨_,hm,hg⟩))))))
   refine⟨Mx (inN _ JO),He.noat_ok (inN _ (JI _ (JS.mpr ⟨f,by simpa using hf,rfl⟩)))⟩
  ·cases hf
 ·have hm:=lookup_mem (show L.tabs.lookup x=some kvs from hx)
  obtain⟨j,hj,ej⟩:=List.mem_iff_getElem.mp hm;have hts:L.ts[j]? = some (fun K=>Jo K x,kvs.map (·.1)):=by
   unfold a3.ts;rw[JN,Jz hj,ej];rfl
  obtain⟨es,n,D⟩:=c.t.tab j hts;have both:=Jm.mp ext _ hm;rw[Ji]at both;refine⟨es,n,D,fun k v hk=> ?_,fun k hk=>uz both.2 hk⟩
  have hq:=Jm.mp both.1 _ (lookup_mem hk);have hq':(match xN v,JX K (Jo K x) k with
   | some d,some (some u)=>He.relB (d.v K) u
   | _,_=>false)=true:=hq
  split at hq'
  ·rename_i d u hd hu;exact⟨u,d.v K,hu,He.relB_ok hq',rj hd⟩
  ·cases hq'
 ·have hmem:D∈L.defs:=JK hD;have ⟨fd,F⟩:∃ fd,cK K prog D fd:=by
   cases hs:D.su with
   | some q=>
    obtain⟨C,B,fl⟩:=q;have h6:=Jm.mp st6 D hmem;unfold HD at h6;rw[hs]at h6;simp only[Ji]at h6;obtain⟨ar,har⟩:=JE.mp h6.2;have hpar:=of_decide_eq_true h6.1.2;rw[har]at hpar;have h7:=Jm.mp hP D hmem;rw[hs]at h7;simp only[Ji,JF]at h7;exact cp.sup (KD.mpr ⟨hmem,by rw[hs]; simp⟩) hs h7.1 h7.2 hpar har
   | none=>
    cases q:D.pr with
    | true=>
     obtain⟨fd,F⟩:=cp.GS (KD.mpr ⟨hmem,by rw[q]; rfl⟩) hs
     exact⟨fd,.of hs F⟩
    | false=>
     obtain⟨fd,F⟩:=cd.defs (d:=D.d) (JS.mpr ⟨D,KD.mpr ⟨hmem,by rw[q,hs]; rfl⟩,rfl⟩)
     rw[←adF q]at F;exact⟨fd,.of hs F⟩
  refine⟨fd,F,sc.qk hmem,fun m ks n d hsh=> ?_⟩
  obtain⟨D',hD',hn,hk⟩:=sh.qk (jn hsh);have hD'':L.defs[i]? = some D':=hD';rw[hD]at hD'';cases hD'';exact⟨hn,hk prog fd F⟩
def resT(r:Ex AV):Bool:=match r with
 | .ok (.bl b) _=>b
 | _=>false
theorem tX{W:Wd}{μ H}{r:Ex AV}(h:resT r=true):bh W μ H r (fun v _=>v = .bl true):=by
 unfold resT at h;split at h
 ·subst h;intro μ' H' x e R r;cases r;rfl
 ·cases h
theorem uD{K:Jj}{H:Hp}{a:Addr}{ns:List Int}(hO:Only H)(hS:SqL K H a (ns.map V.int)):A9 ⟨K,a⟩ H ns:=by
 rcases hS with h | ⟨o,its,n,h1,h2,h3,h4,h5,h6⟩
 ·rcases h with h | ⟨o,h⟩
  ·rcases hO a with z | ⟨o,xs,z⟩
   ·rw[h]at z; cases z
   ·rw[h]at z; cases z
  ·exact .inl ⟨o,h⟩
 ·exact .inr ⟨o,its,n,h1,h2,h3,h4,h5,h6⟩
theorem wG{K:Jj}{H:Hp}{a:Addr}{ns:List Int}(h:A9 ⟨K,a⟩ H ns):HR ⟨K,a⟩ [] ⟨0,.nil,ns⟩ H :=
 ⟨rfl,fun n hn=>absurd hn (KA n),List.nodup_nil,fun n ao e=>(by cases e),h⟩
theorem EK{P:Program}{L:a3}{T:List WC.FI}{k i:Nat}{D:aR}{x name:Jh}{nsz:Nat}{w:World}{mg:Jh→Option Value}{fa:Addr}{h:Heap}(hT:eQ L L.defs T)(st:L.stat=true)(sc:qF lA L.defs)
  (sh:∀ K a0,qF (cF L K a0) L.shapes) (hD:L.defs[i]? = some D) (FL:D.ps=[x]) (hat:D.d.at_=(name,none)) (hfix:L.fixs.lookup name=some i)
  (hb:∀ K fd,FunD K D.d.name D.d.qual D.d.params D.d.body D.d.scope (D.d.dvs K) (D.d.kws K) (D.ad K) fd→∀(s:Shared) (u:Value),BindsTo s fd ⟨[u],[]⟩ [(x,u)])
  (run:∀ ns:List Int,ns.length≤nsz→resT (((L.prog T).two k).1 i [.scr] ⟨0,.nil,ns⟩)=true)
  (Y:∃ K:Jj,K.In h∧MU L.facts L.fn L.ts [] L.ex w h K∧dC L.cx K) (G:h.Ns mainGlobals mg) (hmg:mg name=some (.ref fa)) (hP:L.sup P=true) (hsu:D.su=none) :
  ∃(K:Jj) (fd:FuncData) (sp:Sp),K.In h∧(∀(s:Shared) (u:Value),BindsTo s fd ⟨[u],[]⟩ [(x,u)])∧
    (∀(H:Hp) (a:Addr) (ns:List Int),ns.length≤nsz→Only H→SqL K H a (ns.map V.int)→sp [.ref a] H (fun v _=>v = .bl true) fun _ _ _=>False)∧
    ∀ base:Heap,K.In base→base.Ns mainGlobals mg→nW P w K mg base CX0 (k+1) fa fd [x] sp:=by
 obtain⟨K,KX,c,cp⟩:=Y;have O:∀ a0,j9 L P w K mg a0:=fun a0=>vc KX G c cp st hP sc (sh K a0)
 obtain⟨fd,F,S,hs⟩:=(O 0).defs i D hD;obtain⟨D',hD',hm,_⟩:=(O 0).fix name i hfix;rw[hD]at hD';cases hD';have e:D.ad K=fa:=by
  rw[hmg]at hm;cases hm; rfl
 subst e;refine⟨K,fd,fun vs H Q E=>∃ a0,tQ ⟨K,a0⟩ 1 (((L.prog T).two k).1 i) vs H Q E,KX,hb K fd (F.fun hsu),fun H a ns hl hO hS=> ?_,fun base hK hB=> ?_⟩
 ·exact⟨a,[],[.scr],⟨0,.nil,ns⟩,rfl,wG (uD hO hS),.cons .scr .nil,tX (run ns hl)⟩
 ·have A:∀ a0,nW P w K mg base CX0 (k+1) (D.ad K) fd D.ps (tQ ⟨K,a0⟩ D.ps.length (((L.prog T).two k).1 i)):=fun a0=>(lZ (O a0) hT.ok k).1 i D fd hD F S
  rw[FL]at A;exact⟨fun vs H Q E ⟨a0,h⟩=>(A a0).len vs H Q E h,fun AA outer s H args us vs Q E hr e0 hbd r ⟨a0,h⟩=>(A a0).run AA outer s H args us vs Q E hr e0 hbd r h⟩
def kC(v:AV):AE:=fun _ h=> .ok v h
def kT(l:AL):AE:=fun s h=>(l s h).bind gn
def kL(l:AL):AE:=fun s h=>(l s h).bind df
def kF(no:Str→Str→Bool)(f:AE)(name:Str):AE:=fun s h=>(f s h).bind (bT name no)
def kz(b:AC)(l:AL):AE:=fun s h=>(l s h).bind b
def kB(f:AE):AT:=fun s h=>qz (f s h)
def FD(f:AE):AT:=fun s h=>yj (f s h)
def rS(g:List AV→AH→Ex AI)(l:AL):az→AH→Ex AI:=fun s h=>(l s h).bind g
def kE(f:AE):AS:=fun s h=>(f s h).bind fun _ h1=> .ok (.nx s) h1
def kR(f:AE):AS:=fun s h=>(f s h).bind fun v h1=> .ok (.rt v) h1
def Jc:AS:=fun _ h=> .ok (.rt .non) h
def kP:AS:=fun s h=> .ok (.nx s) h
def IU:AS:=fun s h=> .ok (.bk s) h
def IK:AS:=fun s h=> .ok (.ct s) h
def ai:AL:=fun _ h=> .ok [] h
def d7:AT:=fun _ h=> .ok true h
def DO:AP:=fun _ h=> .ok none h
def ye:az→AH→Option Nat:=fun _ _=>none
def gh(sz:Nat)(as:List AV):az:=as.map some++Ju (sz - as.length) none
def a9(f:AS)(sz:Nat)(as:List AV)(h:AH):Ex AV:=ei (f (gh sz as) h)
abbrev FB:Type:=(Nat→AC)→(Nat→AC)→Nat→AC
def FZ(n:Nat)(g:FB):FB:=fun gc gm i as h=>match Nt i n with
 | true=>g gc gm i as h
 | false=> .stuck
def mZ(G:FB):Nat→(Nat→AC)×(Nat→AC)
 | 0=>(fun _ _ _=> .stuck,fun _ _ _=> .stuck)
 | k+1=>(G (mZ G k).1 (mZ G k).2,(mZ G k).1)
theorem xQ{P:Prog}{G:FB}(h:∀ gc gm i as ah,P.body gc gm i as ah=G gc gm i as ah):∀ k,P.two k=mZ G k
 | 0=>rfl
 | k+1=>by
  show(P.body (P.two k).1 (P.two k).2,(P.two k).1)=(G (mZ G k).1 (mZ G k).2,(mZ G k).1);rw[xQ h k];exact Nf (funext fun i=>funext fun as=>funext fun ah=>h _ _ i as ah) rfl
abbrev RX(P:Prog)(gc gm:Nat→AC):Rn:=qM ⟨gc,gm,P.no,P.tab,aE⟩ DX
abbrev Iq(P:Prog)(gc gm:Nat→AC)(b:List IS):AS:=eP (uc ⟨gc,gm,P.no,P.tab,aE⟩ (RX P gc gm) DX) b
theorem FW{P:Prog}{gc gm:Nat→AC}{i:Nat}{as:List AV}{h:AH}{F:FI}{f:AS}(h1:P.fns[i]? = some F)(h2:Iq P gc gm F.body=f):P.body gc gm i as h=a9 f F.sz as h:=by
 unfold Prog.body;rw[h1];show ei (Iq P gc gm F.body (as.map some++Ju (F.sz - as.length) none) h)=_;rw[h2];rfl
structure CH(P:Prog)(g:FB)(i:Nat):Prop where
 eq:∀ gc gm as h,P.body gc gm i as h=g gc gm i as h
theorem Gj{Q:Nat→Prop}:∀ i,i<0→Q i:=fun i h=>absurd h (KA i)
theorem Gg{Q:Nat→Prop}{n:Nat}(a:∀ i,i<n→Q i)(b:Q n):∀ i,i<n+1→Q i:=fun i h=>(Nat.lt_or_eq_of_le (Nat.le_of_lt_succ h)).elim (a i) fun e=>e ▸ b
theorem vB{P:Prog}{g:FB}{n:Nat}(hn:P.fns.length=n)(h:∀ i,i<n→CH P g i)(gc gm:Nat→AC)(i:Nat)(as:List AV)(ah:AH):P.body gc gm i as ah=FZ n g gc gm i as ah:=by
 unfold FZ;cases q:Nt i n with
 | true=>exact(h i (Jk q)).eq gc gm as ah
 | false=>
  have hi:¬ i<n:=fun z=>by
   have:=Kq z;rw[show Nt i n=Ke (i+1) n from rfl,this]at q
   cases q
  unfold Prog.body;rw[LI (by omega)]
theorem FJ{P:Program}{L:a3}{T:List WC.FI}{G:FB}{k i:Nat}{D:aR}{x name:Jh}{nsz:Nat}{w:World}{mg:Jh→Option Value}{fa:Addr}{h:Heap}(hT:eQ L L.defs T)(st:L.stat=true)(sc:qF lA L.defs)
  (sh:∀ K a0,qF (cF L K a0) L.shapes) (hD:L.defs[i]? = some D) (FL:D.ps=[x]) (hat:D.d.at_=(name,none)) (hfix:L.fixs.lookup name=some i)
  (hb:∀ K fd,FunD K D.d.name D.d.qual D.d.params D.d.body D.d.scope (D.d.dvs K) (D.d.kws K) (D.ad K) fd→∀(s:Shared) (u:Value),BindsTo s fd ⟨[u],[]⟩ [(x,u)])
  (hG:∀ gc gm i as ah,(L.prog T).body gc gm i as ah=G gc gm i as ah)
  (run:∀ ns:List Int,ns.length≤nsz→resT ((mZ G k).1 i [.scr] ⟨0,.nil,ns⟩)=true)
  (Y:∃ K:Jj,K.In h∧MU L.facts L.fn L.ts [] L.ex w h K∧dC L.cx K) (Gn:h.Ns mainGlobals mg) (hmg:mg name=some (.ref fa)) (hP:L.sup P=true:=by kernel_rfl) (hsu:D.su=none:=by rfl) :
  ∃(K:Jj) (fd:FuncData) (sp:Sp),K.In h∧(∀(s:Shared) (u:Value),BindsTo s fd ⟨[u],[]⟩ [(x,u)])∧
    (∀(H:Hp) (a:Addr) (ns:List Int),ns.length≤nsz→Only H→SqL K H a (ns.map V.int)→sp [.ref a] H (fun v _=>v = .bl true) fun _ _ _=>False)∧
    ∀ base:Heap,K.In base→base.Ns mainGlobals mg→nW P w K mg base CX0 (k+1) fa fd [x] sp :=
 EK hT st sc sh hD FL hat hfix hb (fun ns hn=>by rw[xQ hG]; exact run ns hn) Y Gn hmg hP hsu
end WC
namespace WC
open PySem PySem.W PySem.Calls PyProof.Rows HandSHeadRun
section
variable (st:SharedT→Thread→Option (SharedT×Thread))(n0:Nat)(ann:Option Value)
def An:Nat→SharedT→Thread→Option (Flow×SharedT×Code×Pos)
 | 0,_,_=>none
 | m+1,s,t=>match endAt 1 t with
  | some f=>some (f,s,t.code,t.pos)
  | none=>match stepOk n0 ann t,st s t with
   | true,some (s',t')=>frS s' fun z=>An m z t'
   | _,_=>none
def EW:Nat→SharedT→Thread→Option (SharedT×Thread)
 | 0,s,t=>some (s,t)
 | m+1,s,t=>match through t,stepOk n0 ann t,st s t with
  | false,true,some (s',t')=>frS s' fun z=>EW m z t'
  | _,_,_=>none
end
theorem qR{tb:String→Option Builtin}{p:Program}{w:World}{n0:Nat}{ann:Option Value}:∀{m:Nat} {s s':SharedT} {t:Thread} {f:Flow} {c:Code} {q:Pos},
  An (L7 (denote tb) p w) n0 ann m s t=some (f,s',c,q)→segRun tb p w n0 ann 1 m s.abs t=some (f,s'.abs,c,q)
 | 0,_,_,_,_,_,_,h=>by cases h
 | m+1,s,s',t,f,c,q,h=>by
  unfold An at h;unfold segRun;cases he:endAt 1 t with
  | some x=>
   rw[he]at h;cases h;rfl
  | none=>
   rw[he]at h;simp only at h ⊢;split at h
   ·rename_i z t' hk hs;rw[frS_eq]at h;rw[hk,stepT_spec hs];exact qR h
   ·cases h
theorem xA{tb:String→Option Builtin}{p:Program}{w:World}{n0:Nat}{ann:Option Value}:∀{m:Nat} {s s':SharedT} {t t':Thread},
  EW (L7 (denote tb) p w) n0 ann m s t=some (s',t')→topGo tb p w n0 ann m s.abs t=some (s'.abs,t')
 | 0,_,_,_,_,h=>by cases h; rfl
 | m+1,s,s',t,t',h=>by
  unfold EW at h;unfold topGo;split at h
  ·rename_i z u ht hk hs;rw[frS_eq]at h;rw[ht,hk,stepT_spec hs];exact xA h
  ·cases h
noncomputable abbrev t8(p:Program)(w:World):SharedT→Thread→Option (SharedT×Thread):=stepQ (denQ tabQ) p w
theorem qn(p:Program)(w:World):L7 (denote treeTable) p w=t8 p w:=by
 unfold t8;rw[stepQ_eq,denQ_eq,tabQ_eq]
def ky(p:Program)(w:World)(n0:Nat)(ann:Option Value)(env:Env)(q:Pos)(r:Shared)(i N:Nat)(s:SharedT)(pos:Pos):Prop :=
 topRun treeTable p w n0 ann N s.abs (restOf ((behindTheImports p).drop i) env (.body (behindTheImports p) env) pos [topFrame q])=some r
section
variable {p:Program}{w:World}{n0:Nat}{ann:Option Value}{env:Env}{q:Pos}{r:Shared}
def sl(p:Program)(i k:Nat):List Stmt:=((behindTheImports p).drop i).take k
theorem lG{i k n N:Nat}{s s':SharedT}{pos pos':Pos}
  (h:An (t8 p w) n0 ann n s (piecesOf (sl p i k) env (.body (behindTheImports p) env) pos [topFrame q])=some (.next,s',.body (behindTheImports p) env,pos'))
  (K:ky p w n0 ann env q r (i+k) N s' pos'):ky p w n0 ann env q r i (n+N) s pos:=by
 rw[←qn]at h;have e:(behindTheImports p).drop i=sl p i k++(behindTheImports p).drop (i+k):=by
  unfold sl;rw[←LN];exact(List.take_append_drop k _).symm
 unfold ky at K ⊢;rw[e];exact piece_app (qR h) K
theorem wJ{i n:Nat}{s s':SharedT}{pos:Pos}(hi:(behindTheImports p).drop i=[])(h:goF (t8 p w) n0 ann n s ⟨doneF .next,.body (behindTheImports p) env,pos,[topFrame q]⟩=some s')(hr:s'.abs=r):ky p w n0 ann env q r i n s pos:=by
 rw[←qn]at h;unfold ky;rw[hi];subst hr;exact piece_nil (goF_ok h)
theorem vE{γ:Type}{i k n m:Nat}{s:SharedT}{pos pos':Pos}{X:SharedT→ γ}{v:γ}(hi:(behindTheImports p).drop (i+k)=[])
  (h:((An (t8 p w) n0 ann n s (piecesOf (sl p i k) env (.body (behindTheImports p) env) pos [topFrame q])).bind fun r=>(goF (t8 p w) n0 ann m r.2.1 ⟨doneF .next,.body (behindTheImports p) env,pos',[topFrame q]⟩).map fun s=>((r.1,r.2.2),X s))=some ((.next,(.body (behindTheImports p) env,pos')),v)) :
  ∃ s':SharedT,ky p w n0 ann env q s'.abs i (n+m) s pos∧X s'=v:=by
 obtain⟨u,h1,h⟩:=Option.bind_eq_some_iff.mp h;obtain⟨s',h2,h⟩:=Lr.mp h;obtain⟨a,s1,c,p1⟩:=u;injection h with ha hv
 injection ha with ha hc
 injection hc with hc hp
 simp only at ha hc hp h2;subst ha hc hp;exact⟨s',lG h1 (wJ hi h2 rfl),hv⟩
theorem pX{n N:Nat}{t:MF}{s:SharedT}{os:OsState}{pos pos1:Pos}(ht:putAll (boot_heap w.params).objs.toList .nil 0=some (t,n0))
  (h:EW (t8 p w) n0 ann n ⟨t,n0,(boot_heap w.params).life,JV [],boot_drawn,boot_toks,os⟩ (topStub p)=some (s,⟨denQ tabQ (.body (behindTheImports p) env),.body (behindTheImports p) env,pos,[topFrame q]⟩))
  (hb:An (t8 p w) n0 ann 1 s (blockOf (behindTheImports p) env (.body (behindTheImports p) env) pos [topFrame q])=some (.next,s,.body (behindTheImports p) env,pos1))
  (K:ky p w n0 ann env q r 0 N s pos1):topRun treeTable p w n0 ann (n+(1+N)) ⟨boot_heap w.params,JV [],boot_drawn,boot_toks,os⟩ (topStub p)=some r:=by
 rw[←qn]at h hb;rw[←denQ_eq,←tabQ_eq]at h;have g:=xA h;have eh:=putAll_heap ht;have e0:(⟨t,n0,(boot_heap w.params).life,JV [],boot_drawn,boot_toks,os⟩:SharedT).abs=⟨boot_heap w.params,JV [],boot_drawn,boot_toks,os⟩:=by
  show(⟨absHeap t n0 (boot_heap w.params).life,JV [],boot_drawn,boot_toks,os⟩:Shared)=_;rw[eh]
 rw[e0]at g;refine go_top g (piece_block (qR hb) ?_);exact K
end
theorem FX{p q:Program}{loose:List Str}{Xt:Shared→Bool}{α:Type}{Yf:Shared→ α}{Ya:World→ α}{M n0 n1 k1:Nat}{ann:Option Value}{T1:Params→MF}{life:Life}{d1:Drawn}
  (e:opening p=plainProg p.main.scope.names) (f:∀ s,fenceModules? p s=some s)
  (size:∀ w:World,((boot_heap w.params).isNs mainGlobals && (JV []:Array GenState).size == 0,(boot_heap w.params).objs.size,(boot_heap w.params).nsMap mainGlobals "__annotations__")=(true,n0,ann))
  (run:∀(w:World) (os:OsState),topRun treeTable p w n0 ann M ⟨boot_heap w.params,JV [],boot_drawn,boot_toks,os⟩ (topStub p)=some (SharedT.mk (T1 w.params) n1 life (JV []) d1 k1 os).abs)
  (l1:∀(w:World) (os:OsState),looksF p (boot_heap w.params) (SharedT.mk (T1 w.params) n1 life (JV []) d1 k1 os).abs=true)
  (l2:∀(w:World) (os:OsState),openSeen q loose (importedModules p.main.body) Xt true (SharedT.mk (T1 w.params) n1 life (JV []) d1 k1 os).abs=openGood q loose)
  (l3:∀(w:World) (os:OsState),Yf (SharedT.mk (T1 w.params) n1 life (JV []) d1 k1 os).abs=Ya w) :
  LeftO p q loose Xt Yf Ya (M+600) true :=
 LeftO.of_pieces (H₀:=boot_heap) (H₁:=fun P=>absHeap (T1 P) n1 life) (gs₀:=JV []) (gs₁:=JV []) (d₀:=boot_drawn) (d₁:=d1) (k₀:=boot_toks) (k₁:=k1)
  (boot_open e (Kq (by omega)) f) size run (Kq (by omega)) fun w=>funext fun os=>Nf (l1 w os) (Nf (l2 w os) (l3 w os))
theorem w9{p q:Program}{loose:List Str}{Xt:Shared→Bool}{α:Type}{Yf:Shared→ α}{Ya:World→ α}{M n0:Nat}{ann:Option Value}
  (e:opening p=plainProg p.main.scope.names) (f:∀ s,fenceModules? p s=some s)
  (size:∀ w:World,((boot_heap w.params).isNs mainGlobals && (JV []:Array GenState).size == 0,(boot_heap w.params).objs.size,(boot_heap w.params).nsMap mainGlobals "__annotations__")=(true,n0,ann))
  (all:∀(w:World) (os:OsState),∃ s:Shared,topRun treeTable p w n0 ann M ⟨boot_heap w.params,JV [],boot_drawn,boot_toks,os⟩ (topStub p)=some s∧looksF p (boot_heap w.params) s=true∧openSeen q loose (importedModules p.main.body) Xt true s=openGood q loose∧Yf s=Ya w) :
  LeftO p q loose Xt Yf Ya (M+600) true:=fun w=>by
 obtain⟨⟨h0,g0,d0,k0,os⟩,a1,a2⟩:=Lr.mp (boot_open (N:=M+600) e (Kq (by omega)) f w)
 have b1:h0=boot_heap w.params:=congrArg (fun z=>z.1) a2
 have b2:g0=JV []:=congrArg (fun z=>z.2.1) a2
 have b3:d0=boot_drawn:=congrArg (fun z=>z.2.2.1) a2
 have b4:k0=boot_toks:=congrArg (fun z=>z.2.2.2) a2
 subst b1 b2 b3 b4;have z1:=congrArg (fun z=>z.1) (size w)
 have z2:=congrArg (fun z=>z.2.1) (size w)
 have z3:=congrArg (fun z=>z.2.2) (size w)
 dsimp only at z1 z2 z3;obtain⟨s,hr,l1,l2,l3⟩:=all w os;have r:=topRun_mono 600 _ _ _ _ hr;have t:topFrom treeTable p w (M+600) ⟨boot_heap w.params,JV [],boot_drawn,boot_toks,os⟩=some s:=by
  unfold topFrom;dsimp only;rw[z1,z2,z3,r];unfold looksF at l1;show(match staticsOk _ _ _ && _ && _ && _ with | true=>_ | false=>_)=_
  rw[l1]
 unfold openEnds;rw[a1,Mq,t,K2,l2,l3]
abbrev DH:Type:=He.AlX×(List Np×Bool)
def C9(as:List Addr)(fa:List Nk)(fn:List MR)(ts:List Nn)(ex:Frag→Bool)(pd:List aR)(g:Addr→Option Obj):DH:=((He.obsT fa fn ts (Ng g as),ex (Ng g as)),(pd.map (Ed (Ng g as)),pd.all (BX (Ng g as))))
def Iv(as:List Addr)(fa:List Nk)(fn:List MR)(ts:List Nn)(ex:Frag→Bool)(pd:List aR):Hook where
 α:=DH
 obs:=fun s=>C9 as fa fn ts ex pd s.heap.get?
 val:=fun w=>(((He.valT fn ts w,true),((pd.map fun D:aR=>D.d.val),true)):DH)
 says:=fun w h=>∃ K:Frag,K.In h∧MU fa fn ts [] ex w h K∧dC pd K
 of:=fun w s e=>⟨Ng s.heap.get? as,He.frT_in,⟨congrArg (fun z:DH=>z.1.1) e,congrArg (fun z:DH=>z.1.2) e,fun p hp=>(by cases hp),fun p hp=>(by cases hp),fun p hp=>(by cases hp)⟩,congrArg (fun z:DH=>z.2) e⟩
 keeps:=fun w h h' ⟨K,hK,c,cp⟩ k=>⟨K,Frag.In.keeps hK k,⟨c.t,c.more,c.hd,c.out,fun p hp=>k _ _ (c.empty p hp)⟩,cp⟩
theorem Aw{as:List Addr}{fa:List Nk}{fn:List MR}{ts:List Nn}{ex:Frag→Bool}{pd:List aR}{s:SharedT}:C9 as fa fn ts ex pd (getT s)=(Iv as fa fn ts ex pd).obs s.abs:=by
 have e:getT s=s.abs.heap.get?:=funext fun a=>getT_eq s a
 rw[e];rfl
end WC
namespace WC
open PySem PySem.Spec PyProof.Rows L2
theorem nr{α:Sort _}{a b:α}(h:a=b):a=b:=h
def jO{α:Type}(r:Ex α)(Q:α → AH→Prop):Prop:=∃ a h,r = .ok a h∧Q a h
section
variable {α β γ:Type}
theorem dn{a:α}{h:AH}{Q:α → AH→Prop}:jO (.ok a h) Q↔Q a h:=⟨fun⟨_,_,e,q⟩=>by cases e; exact q,fun q=>⟨_,_,rfl,q⟩⟩
theorem lh{r:Ex α}{k:α → AH→Ex β}{Q:β → AH→Prop}:jO (r.bind k) Q↔jO r fun a h=>jO (k a h) Q:=by
 cases r with
 | ok a h=>exact⟨fun h=>⟨_,_,rfl,h⟩,fun⟨_,_,e,q⟩=>by cases e; exact q⟩
 | stuck=>exact⟨fun⟨_,_,e,_⟩=>(by cases e),fun⟨_,_,e,_⟩=>(by cases e)⟩
theorem jO.mono{r:Ex α}{Q Q':α → AH→Prop}(p:jO r Q)(h:∀ a h,Q a h→Q' a h):jO r Q':=let ⟨a,b,e,q⟩:=p; ⟨a,b,e,h _ _ q⟩
theorem jO.call{r:Ex α}{k:α → AH→Ex β}{P:α → AH→Prop}{Q:β → AH→Prop}(p:jO r P)(h:∀ a h,P a h→jO (k a h) Q):jO (r.bind k) Q:=lh.mpr (p.mono h)
theorem aw(a:α)(h:AH)(k:α → AH→Ex β):(Ex.ok a h).bind k=k a h:=nr rfl
theorem cu(r:Ex α)(k:α → AH→Ex β)(l:β → AH→Ex γ):(r.bind k).bind l=r.bind fun a h=>(k a h).bind l:=by cases r<;>rfl
end
structure Gro(h h':AH):Prop where
 le:h.n≤h'.n
 scr:h'.scr=h.scr
 get:∀ i,i<h.n→h'.get i=h.get i
theorem Gro.refl(h:AH):Gro h h:=⟨Jw _,rfl,fun _ _=>rfl⟩
theorem Gro.trans{a b c:AH}(x:Gro a b)(y:Gro b c):Gro a c:=⟨Js x.le y.le,y.scr.trans x.scr,fun i hi=>(y.get i (JL hi x.le)).trans (x.get i hi)⟩
theorem Gro.push(h:AH)(o:AO):Gro h (h.push o):=⟨Lf _,rfl,fun i hi=>by rw[AH.cM,if_neg (Jx hi)]⟩
theorem Gro.set{h h':AH}(g:Gro h h'){d:Nat}(hd:h.n≤d)(o:AO):Gro h (h'.set d o):=⟨g.le,g.scr,fun i hi=>by rw[AH.get_set,if_neg (by omega)]; exact g.get i hi⟩
theorem bb(h:AH)(o:AO):(h.push o).get h.n=some o:=by rw[AH.cM,if_pos rfl]
theorem bI(h:AH)(d:Nat)(o:AO):(h.set d o).get d=some o:=by rw[AH.get_set,if_pos rfl]
theorem EZ(h:AH)(d:Nat)(o:AO):(h.set d o).n=h.n:=nr rfl
theorem BI(h:AH)(o:AO):(h.push o).n=h.n+1:=nr rfl
section
variable {s:az}{h:AH}
theorem fD(f g:AS):ax f g s h=(f s h).bind fun fl h1=>match fl with
 | .nx s1=>g s1 h1
 | .bk s1=> .ok (.bk s1) h1
 | .ct s1=> .ok (.ct s1) h1
 | .rt v=> .ok (.rt v) h1:=nr rfl
theorem xZ:kP s h = .ok (.nx s) h:=nr rfl
theorem DT(f:AE):kE f s h=(f s h).bind fun _ h1=> .ok (.nx s) h1:=nr rfl
theorem B9(f:AE):kR f s h=(f s h).bind fun v h1=> .ok (.rt v) h1:=nr rfl
theorem Bf:Jc s h = .ok (.rt .non) h:=nr rfl
theorem A3:IU s h = .ok (.bk s) h:=nr rfl
theorem A4:IK s h = .ok (.ct s) h:=nr rfl
theorem nG(c:AT)(f g:AS):cO c f g s h=(c s h).bind fun b h1=>if b=true then f s h1 else g s h1:=nr rfl
theorem nP(f:AE)(g:AG):bZ f g s h=(f s h).bind fun v h1=>(g v s h1).bind fun s1 h2=> .ok (.nx s1) h2:=nr rfl
theorem b8(i:Nat)(v:AV):aD i v s h = .ok (s.set i (some v)) h:=nr rfl
theorem gY(i:Nat)(v:AV)(e:s[i]? = some (some v)):af i s h = .ok v h:=by unfold af; rw[e]
theorem eE(v:AV):kC v s h = .ok v h:=nr rfl
theorem cn:ai s h = .ok [] h:=nr rfl
theorem bP(f:AE)(g:AL):ae f g s h=(f s h).bind fun a h1=>(g s h1).bind fun as h2=> .ok (a::as) h2:=nr rfl
theorem Dj(l:AL):kT l s h=(l s h).bind gn:=nr rfl
theorem u9(l:AL):kL l s h=(l s h).bind df:=nr rfl
theorem nY(b:AC)(l:AL):kz b l s h=(l s h).bind b:=nr rfl
theorem qh(no:Str→Str→Bool)(f:AE)(n:Str):kF no f n s h=(f s h).bind (bT n no):=nr rfl
theorem AQ(f:AE):FD f s h=yj (f s h):=nr rfl
theorem xW(f:AE):kB f s h=qz (f s h):=nr rfl
theorem jJ:d7 s h = .ok true h:=nr rfl
theorem eA(f f':AE)(g:dF):aq f f' g s h=(f s h).bind fun a h1=>(f' s h1).bind fun b h2=>g a b h2:=nr rfl
theorem rK(f g:AE):uK f g s h=(f s h).bind fun v h1=>match v with
 | .bl true=>g s h1
 | .bl false=> .ok (.bl false) h1
 | _=> .stuck:=nr rfl
theorem um(f g:AE):Dc f g s h=(f s h).bind fun v h1=>match v with
 | .bl true=> .ok (.bl true) h1
 | .bl false=>g s h1
 | _=> .stuck:=nr rfl
theorem rN(f:AE):uZ f s h=(qz (f s h)).bind fun b h1=> .ok (.bl (!b)) h1:=nr rfl
theorem q7(f g:AT):xO f g s h=(f s h).bind fun b h1=>if b=true then g s h1 else .ok false h1:=nr rfl
theorem xu(f g:AT):fH f g s h=(f s h).bind fun b h1=>if b=true then .ok true h1 else g s h1:=nr rfl
theorem rZ(f:AT):k6 f s h=(f s h).bind fun b h1=> .ok (!b) h1:=nr rfl
theorem qU(c:AT)(f g:AE):gj c f g s h=(c s h).bind fun b h1=>if b=true then f s h1 else g s h1:=nr rfl
theorem wZ(c f g:AT):Bz c f g s h=(c s h).bind fun b h1=>if b=true then f s h1 else g s h1:=nr rfl
theorem pF(f1 f2 f3:AE)(g g':dF):kS f1 f2 f3 g g' s h=(f1 s h).bind fun a h1=>(f2 s h1).bind fun b h2=>(qz (g a b h2)).bind fun k h3=>if k=true then(f3 s h3).bind fun c h4=>g' b c h4 else .ok (.bl false) h3:=nr rfl
theorem gI(f:AE):eG ye f s h=f s h:=nr rfl
theorem gz(f:AS):fI ye f s h=f s h:=nr rfl
theorem kH(n m:Nat)(ks:List Str)(gA:List AV→List AV→List AV)(g:AC)(fa fk:AL):aF n m ks gA g fa fk s h=(fa s h).bind fun as h1=>(fk s h1).bind fun zs h2=>aL n m ks gA g as zs h2:=nr rfl
theorem qP(b:Bool):yj (.ok (.bl b) h) = .ok b h:=nr rfl
theorem eJ(b:Bool):qz (.ok (.bl b) h) = .ok b h:=nr rfl
theorem oH{α:Type}(r:Ex α)(k:α → AH→Ex AV):yj (r.bind k)=r.bind fun a h=>yj (k a h):=by cases r<;>rfl
theorem fB{α:Type}(r:Ex α)(k:α → AH→Ex AV):qz (r.bind k)=r.bind fun a h=>qz (k a h):=by cases r<;>rfl
theorem ju{α:Type}(r:Ex α)(k:α → AH→Ex Fl):ei (r.bind k)=r.bind fun a h=>ei (k a h):=by cases r<;>rfl
theorem fS(v:AV):ei (.ok (.rt v) h) = .ok v h:=nr rfl
theorem l7:ei (.ok (.nx s) h) = .ok .non h:=nr rfl
theorem zQ(xs:List AV)(hl:xs.length≤1000):gn xs h = .ok (.tup xs) h:=if_pos (Js hl (by rw[sizeLine_eq]; omega))
theorem lj(xs:List AV)(hl:Ke xs.length 1000=true):gn xs h = .ok (.tup xs) h:=zQ xs (Jk hl)
theorem dY(xs:List AV)(hl:Ke xs.length 1000=true):df xs h = .ok (.ref h.n) (h.push (.lst xs)):=if_pos (Js (Jk hl) (by rw[sizeLine_eq]; omega))
end
theorem jU{J:AI}{xs:List AV}{g:AG}{body:AS}{Inv:Nat→az→AH→Prop}{Q:Fl→AH→Prop}(next:∀ i s h,Inv i s h→bf J i h=some xs[i]?)
  (step:∀ i x s h,xs[i]? = some x→Inv i s h→jO (g x s h) fun s1 h1=>jO (body s1 h1) fun fl h2=>match fl with
   | .nx s2=>Inv (i+1) s2 h2
   | .ct s2=>Inv (i+1) s2 h2
   | .bk s2=>Q (.nx s2) h2
   | .rt v=>Q (.rt v) h2)
  (fin:∀ s h,Inv xs.length s h→Q (.nx s) h):∀(f i:Nat) (s:az) (h:AH),i≤xs.length→xs.length - i<f→Inv i s h→jO (forL J g body f i s h) Q
 | 0,i,s,h,_,hf,_=>absurd hf (KA _)
 | f+1,i,s,h,hi,hf,I=>by
  unfold forL;rw[next i s h I];cases q:xs[i]? with
  | none=>
   have:i=xs.length:=by
    have:=Kd.mp q;omega
   subst this;exact dn.mpr (fin s h I)
  | some x=>
   have hlt:=(Jl.mp q).1;refine lh.mpr ((step i x s h q I).mono fun s1 h1 p1=>lh.mpr (p1.mono fun fl h2 p2=> ?_))
   cases fl with
   | nx s2=>exact jU next step fin f (i+1) s2 h2 hlt (by omega) p2
   | ct s2=>exact jU next step fin f (i+1) s2 h2 hlt (by omega) p2
   | bk s2=>exact dn.mpr p2
   | rt v=>exact dn.mpr p2
theorem jL{fi:az→AH→Ex AI}{g:AG}{body:AS}{s:az}{h h1:AH}{J:AI}{xs:List AV}{Inv:Nat→az→AH→Prop}{Q:Fl→AH→Prop}(hi:fi s h = .ok J h1)(hl:xs.length<100000)(start:Inv 0 s h1)
  (next:∀ i s h,Inv i s h→bf J i h=some xs[i]?)
  (step:∀ i x s h,xs[i]? = some x→Inv i s h→jO (g x s h) fun s1 h1=>jO (body s1 h1) fun fl h2=>match fl with
   | .nx s2=>Inv (i+1) s2 h2
   | .ct s2=>Inv (i+1) s2 h2
   | .bk s2=>Q (.nx s2) h2
   | .rt v=>Q (.rt v) h2)
  (fin:∀ s h,Inv xs.length s h→Q (.nx s) h):jO (lF aE fi g body s h) Q:=by
 unfold lF;rw[hi];exact jU next step fin aE 0 s h1 (K1 _) (by unfold aE; omega) start
section
variable {s:az}{h:AH}
theorem bK(v:AV):af 0 (some v::s) h = .ok v h:=nr rfl
theorem bY(i:Nat)(x:Option AV):af (i+1) (x::s) h=af i s h:=nr rfl
theorem vN(i j:Int):zh (.int i) (.int j) h = .ok (.bl (decide (j<i))) h:=nr rfl
theorem Eh(i j:Int):F4 (.int i) (.int j) h = .ok (.bl (decide (j≤i))) h:=nr rfl
theorem w_lt(i j:Int):zC (.int i) (.int j) h = .ok (.bl (decide (i<j))) h:=nr rfl
theorem FG(i j:Int):F3 (.int i) (.int j) h = .ok (.bl (decide (i≤j))) h:=nr rfl
theorem kQ(i j:Int):dh (.int i) (.int j) h = .ok (.int (i+j)) h:=nr rfl
theorem xh(i j:Int):Bl (.int i) (.int j) h = .ok (.int (i - j)) h:=nr rfl
theorem lg(i j:Int)(hc:(-(2 ^ 64)<i∧i<2 ^ 64)∨(-(2 ^ 64)<j∧j<2 ^ 64)):jC (.int i) (.int j) h = .ok (.int (i * j)) h:=by
 show(if ((decide (-(2 ^ 64)<i) && decide (i<2 ^ 64)) || (decide (-(2 ^ 64)<j) && decide (j<2 ^ 64)))=true then Ex.ok (AV.int (i * j)) h else Ex.stuck)=_
 rw[if_pos];simpa using hc
theorem j4(i j:Int)(hj:j≠0):jG (.int i) (.int j) h = .ok (.int (i.fmod j)) h:=by
 unfold jG fZ Iu;simp [hj]
theorem mM(i j:Int)(hj:j≠0)(hb:j.natAbs<1073741824):jW (.int i) (.int j) h = .ok (.int (i.fdiv j)) h:=by
 unfold jW fZ uA;simp [hj,hb]
theorem nz(i j:Int)(h1:0≤j)(h2:j≤1000)(h3:i.natAbs<2 ^ 512):ki (.int i) (.int j) h = .ok (.int (i ^ j.toNat)) h:=by
 unfold ki fZ sO;simp only[h1,h2,h3,decide_true,L1,if_true]
theorem jT(v:AV):F1 v .non h = .ok (.bl (DA v)) h:=nr rfl
theorem oR(v:AV):mR v .non h = .ok (.bl (!DA v)) h:=nr rfl
theorem xj(i:Int):qo [.int i] h = .ok (.int (if i<0 then -i else i)) h:=nr rfl
theorem vO(i j:Int):xU [.int i,.int j] h = .ok (.int (if j > i then j else i)) h:=nr rfl
theorem wM(i j:Int):uH [.int i,.int j] h = .ok (.int (if j<i then j else i)) h:=nr rfl
theorem uQ(xs:List AV):jA [.tup xs] h = .ok (.int xs.length) h:=nr rfl
theorem pf:jA [.scr] h = .ok (.int h.scr.length) h:=nr rfl
theorem Dh(n:Nat)(xs:List AV)(e:h.get n=some (.lst xs)):jA [.ref n] h = .ok (.int xs.length) h:=by
 unfold jA;simp only[e]
theorem cv(t:eX)(n:Nat)(xs:List AV)(i:Int)(v:AV)(g:h.get n=some (.lst xs))(e:atI xs i=some v):c7 t di (.ref n) (.int i) h = .ok v h:=by
 unfold c7 di;simp only[g,e]
theorem zW(t:eX)(i:Int)(v:Int)(e:atI h.scr i=some v):c7 t di .scr (.int i) h = .ok (.int v) h:=by
 unfold c7 di;simp only[e]
theorem rn(f g:AE)(v:AV):pB f g v s h=(f s h).bind fun o h1=>(g s h1).bind fun i h2=>(dE o i v h2).bind fun _ h3=> .ok s h3:=nr rfl
theorem vS(n:Nat)(xs:List AV)(k:Int)(j:Nat)(v:AV)(g:h.get n=some (.lst xs))(e:ixN xs.length k=some j):dE (.ref n) (.int k) v h = .ok .non (h.set n (.lst (xs.set j v))):=by
 unfold dE;simp only[g,e]
theorem uv(f:AE)(t:AV→AH→Bool)(g:AL)(m:AM):mJ f t g m s h=(f s h).bind fun v h1=>if t v h1=true then(g s h1).bind fun as h2=>m v as h2 else .stuck:=nr rfl
theorem zj(n:Nat)(xs:List AV)(g:h.get n=some (.lst xs)):cJ (.ref n) h=true:=by
 unfold cJ;simp only[g]
theorem AJ(n:Nat)(g:r9)(xs:List AV)(hl:xs.length=n):lP n g (.tup xs) s h=g xs s h:=if_pos hl
theorem ia(f:AG)(g:r9)(v:AV)(r:List AV):dM f g (v::r) s h=(f v s h).bind fun s1 h1=>g r s1 h1:=nr rfl
theorem nK:mf [] s h = .ok s h:=nr rfl
theorem jN(f:AE):iD f s h=(f s h).bind fun v h1=>match kN v h1 with
 | some J=> .ok J h1
 | none=> .stuck:=nr rfl
theorem oe(g:List AV→AH→Ex AI)(l:AL):rS g l s h=(l s h).bind g:=nr rfl
end
theorem rB(x y:Str)(h:AH):d4 (.str x) (.str y) h = .ok (.bl (decide (x=y))) h:=by
 show Ex.ok (AV.bl (sEq x y)) h=_;rw[qB]
theorem iI(x y:Str)(h:AH):cC (.str x) (.str y) h = .ok (.bl (!decide (x=y))) h:=by
 show Ex.ok (AV.bl (!sEq x y)) h=_;rw[qB]
theorem mY(i j:Int)(h:AH):d4 (.int i) (.int j) h = .ok (.bl (decide (i=j))) h:=nr rfl
theorem sy(i j:Int)(h:AH):cC (.int i) (.int j) h = .ok (.bl (!decide (i=j))) h:=nr rfl
theorem uw(i j:Bool)(h:AH):d4 (.bl i) (.bl j) h = .ok (.bl (decide (i=j))) h:=nr rfl
theorem qT(i j:Bool)(h:AH):cC (.bl i) (.bl j) h = .ok (.bl (!decide (i=j))) h:=nr rfl
theorem vD{α:Type}(x:α)(r:List α):atI (x::r) 0=some x:=by
 unfold atI ixN;rw[if_pos (Int.le_refl 0),if_pos (by simp)]
 rfl
theorem atI_nat{α:Type}(xs:List α)(i:Nat):atI xs (i:Int)=xs[i]?:=by
 unfold atI ixN;by_cases h:i<xs.length
 ·rw[if_pos (by omega),if_pos (by omega)]
  simp
 ·rw[if_pos (by omega),if_neg (by omega)]
  simp [h]
section
variable {h:AH}
theorem sE(g:AC):aL 0 0 [] (aA []) g [] [] h=g [] h:=nr rfl
theorem jR(g:AC)(a:AV):aL 1 1 [] (aA []) g [a] [] h=g [a] h:=nr rfl
theorem jS(g:AC)(a b:AV):aL 2 2 [] (aA []) g [a,b] [] h=g [a,b] h:=nr rfl
theorem rC(g:AC)(a b c:AV):aL 3 3 [] (aA []) g [a,b,c] [] h=g [a,b,c] h:=nr rfl
theorem rL(g:AC)(a b c d:AV):aL 4 4 [] (aA []) g [a,b,c,d] [] h=g [a,b,c,d] h:=nr rfl
theorem sv(g:AC)(a b c d e:AV):aL 5 5 [] (aA []) g [a,b,c,d,e] [] h=g [a,b,c,d,e] h:=nr rfl
theorem AY(xs:List AV):kN (.tup xs) h=some (.tup xs):=nr rfl
theorem Bd(n:Nat)(xs:List AV)(g:h.get n=some (.lst xs)):kN (.ref n) h=some (.lst n):=by
 unfold kN;simp only[g]
end
structure Mod(M:List Nat)(h h':AH):Prop where
 le:h.n≤h'.n
 scr:h'.scr=h.scr
 get:∀ i,i<h.n→i∉M→h'.get i=h.get i
theorem Mod.trans{M:List Nat}{a b c:AH}(x:Mod M a b)(y:Mod M b c):Mod M a c :=
 ⟨Js x.le y.le,y.scr.trans x.scr,fun i hi hm=>(y.get i (JL hi x.le) hm).trans (x.get i hi hm)⟩
theorem Gro.mod{a b:AH}(x:Gro a b)(M:List Nat):Mod M a b:=⟨x.le,x.scr,fun i hi _=>x.get i hi⟩
theorem Mod.gro{a b:AH}(x:Mod [] a b):Gro a b:=⟨x.le,x.scr,fun i hi=>x.get i hi (by simp)⟩
theorem Mod.set{M:List Nat}{h:AH}{i:Nat}(hi:i∈M)(o:AO):Mod M h (h.set i o):=⟨Jw _,rfl,fun j hj hm=>by
 rw[AH.get_set,if_neg];rintro rfl;exact hm hi⟩
theorem Mod.Cf{M:List Nat}{a h:AH}{i:Nat}(x:Mod M a h)(hi:a.n≤i)(o:AO):Mod M a (h.set i o) :=
 ⟨x.le,x.scr,fun j hj hm=>by rw[AH.get_set,if_neg (by omega)]; exact x.get j hj hm⟩
def Src(h:AH)(r m:Nat):Prop:=∃ a b c:Int,h.get r=some (.lst [.int a,.int b,.int c])∧0≤b∧b<2 ^ 80∧0≤c∧c≤m
theorem Src.lt{h:AH}{r m:Nat}(s:Src h r m):∃ o,h.get r=some o:=by
 obtain⟨a,b,c,g,_⟩:=s;exact⟨_,g⟩
theorem Src.keep{h h':AH}{r m:Nat}(s:Src h r m)(e:h'.get r=h.get r):Src h' r m:=by
 obtain⟨a,b,c,g,x⟩:=s;exact⟨a,b,c,e.trans g,x⟩
theorem Src.le{h:AH}{r m m':Nat}(s:Src h r m)(e:m≤m'):Src h r m':=by
 obtain⟨a,b,c,g,x1,x2,x3,x4⟩:=s;exact⟨a,b,c,g,x1,x2,x3,by omega⟩
theorem Src.BY{h:AH}{r m:Nat}(s:Src h r m)(hr:r<h.n)(o:AO):Src (h.push o) r m:=s.keep (by rw[AH.cM,if_neg (by omega)])
abbrev mP:Str:=⟨#[114,111,111,109]⟩
abbrev iz:Str:=⟨#[98,108,111,99,107,115]⟩
abbrev jQ:Str:=⟨#[116,97,115,107,115]⟩
structure Gen(r q bl tk:Nat)(h:AH)(m room:Nat)(bs ts:List Str):Prop where
 src:Src h r m
 nr:r<h.n
 nq:q<h.n
 nb:bl<h.n
 nt:tk<h.n
 rq:r≠q
 rb:r≠bl
 rt:r≠tk
 qb:q≠bl
 qt:q≠tk
 bt:bl≠tk
 gq:h.get q=some (.bA [(.inr mP,.int room),(.inr iz,.ref bl),(.inr jQ,.ref tk)])
 gb:h.get bl=some (.lst (bs.map .str))
 gt:h.get tk=some (.lst (ts.map .str))
 lb:bs.length≤150
 lt:ts.length≤150
 ob:∀ x∈bs,PyData.strOk x=true
 ot:∀ x∈ts,PyData.strOk x=true
abbrev Fz(r q bl tk:Nat):List Nat:=[r,q,bl,tk]
theorem Gen.drawn{r q bl tk:Nat}{h h':AH}{m m' room:Nat}{bs ts:List Str}(g:Gen r q bl tk h m room bs ts)(s:Src h' r m')(x:Mod [r] h h'):Gen r q bl tk h' m' room bs ts :=
 { g with
  src:=s
  nr:=JL g.nr x.le
  nq:=JL g.nq x.le
  nb:=JL g.nb x.le
  nt:=JL g.nt x.le
  gq:=(x.get q g.nq (by simp [La g.rq])).trans g.gq
  gb:=(x.get bl g.nb (by simp [La g.rb])).trans g.gb
  gt:=(x.get tk g.nt (by simp [La g.rt])).trans g.gt }
theorem Gen.room{r q bl tk:Nat}{h:AH}{m room:Nat}{bs ts:List Str}(g:Gen r q bl tk h m room bs ts)(room':Nat) :
  Gen r q bl tk (h.set q (.bA [(.inr mP,.int room'),(.inr iz,.ref bl),(.inr jQ,.ref tk)])) m room' bs ts :=
 { g with
  src:=g.src.keep (by rw[AH.get_set,if_neg g.rq])
  gq:=bI _ _ _
  gb:=by rw[AH.get_set,if_neg (La g.qb)]; exact g.gb
  gt:=by rw[AH.get_set,if_neg (La g.qt)]; exact g.gt }
structure Hz(r q bl tk:Nat)(h h':AH)(m room:Nat)(bs ts:List Str)(m' room':Nat)(bs' ts' B T:List Str)(n c:Nat):Prop where
 g:Gen r q bl tk h' m' room' bs' ts'
 M:Mod (Fz r q bl tk) h h'
 eb:bs=B++bs'
 et:ts=T++ts'
 en:n+room'=room
 ec:m'+6 * room'≤m+6 * room+c
theorem Hz.room{r q bl tk:Nat}{h:AH}{m room:Nat}{bs ts:List Str}(g:Gen r q bl tk h m (room+1) bs ts) :
  Gen r q bl tk (h.set q (.bA [(.inr mP,.int room),(.inr iz,.ref bl),(.inr jQ,.ref tk)])) m room bs ts∧Mod (Fz r q bl tk) h (h.set q (.bA [(.inr mP,.int room),(.inr iz,.ref bl),(.inr jQ,.ref tk)])) :=
 ⟨g.room room,Mod.set (by simp) _⟩
theorem C5(i j:Nat)(f:AL){s:az}{h:AH}:l6 i j f s h=(f s h).bind fun vs h1=>match vs with
 | [v,w]=> .ok (.nx ((s.set i (some v)).set j (some w))) h1
 | _=> .stuck:=nr rfl
theorem mO(j:Int){h:AH}(h1:0≤j)(h2:j<1000000):eT [.int j] h = .ok (.rng 0 j.toNat) h:=by
 unfold eT;simp only[];rw[if_pos];unfold uf;rw[Ji];exact⟨decide_eq_true (by omega),decide_eq_true (by omega)⟩
theorem iG(n i:Nat)(h:AH):bf (.rng 0 n) i h=some (((Kt n).map fun(k:Nat)=>AV.int k)[i]?):=by
 unfold bf;simp only[];rw[JN];by_cases q:i<n
 ·rw[if_pos q,K5 q];simp
 ·rw[if_neg q,LI (by rw[J4]; omega)]
  rfl
section
variable {h:AH}
theorem EJ(t:eX)(n:Nat)(b:AV):c7 t di (.ref n) b h=(match h.get n with
  | some (.lst xs)=>(match b with
   | .int i=>(match atI xs i with
    | some v=> .ok v h
    | none=> .stuck)
   | _=> .stuck)
  | some (.bA kvs)=>(match cA b with
   | some k=>(match gJ kvs k with
    | some v=> .ok v h
    | none=> .stuck)
   | none=> .stuck)
  | some (.iY kvs)=>(match cA b with
   | some k=>(match gJ kvs k with
    | some v=> .ok v h
    | none=> .stuck)
   | none=> .stuck)
  | _=> .stuck):=by
 cases b<;>exact nr rfl
theorem Ea(t:eX)(xs:List AV)(i:Int):c7 t di (.tup xs) (.int i) h=(match atI xs i with
  | some v=> .ok v h
  | none=> .stuck):=nr rfl
theorem EM(t:eX)(x k:Str):c7 t di (.glo x) (.str k) h=(match t x with
    | some kvs=>(match kvs.lookup k with
      | some v=> .ok v h
      | none=> .stuck)
    | none=> .stuck):=by
  unfold c7;first
    | (dsimp only; done)
    | (dsimp only
       cases t x<;>rfl)
theorem BB(n:Nat)(b v:AV):dE (.ref n) b v h=(match h.get n with
    | some (.lst xs)=>(match b with
      | .int k=>(match ixN xs.length k with
        | some j=> .ok .non (h.set n (.lst (xs.set j v)))
        | none=> .stuck)
      | _=> .stuck)
    | some (.bA kvs)=>(match cA b with
      | some k=>if kvs.length<sizeLine then .ok .non (h.set n (.bA (ql kvs k v)))else .stuck
      | none=> .stuck)
    | _=> .stuck):=by
  unfold dE;first
    | (dsimp only; done)
    | (dsimp only
       generalize h.get n=q;cases q with
       | none=>rfl
       | some o=>cases o<;>first | rfl | (cases b<;>rfl))
theorem Fb(n:Nat)(w:AV):iJ (.ref n) [w] h=(match h.get n with
  | some (.lst xs)=>if xs.length<sizeLine then .ok .non (h.set n (.lst (xs++[w])))else .stuck
  | _=> .stuck):=nr rfl
theorem Di(n m:Nat):eZ (.ref n) [.ref m] h=(match h.get n,h.get m with
    | some (.lst xs),some (.lst ys)=>if xs.length+ys.length≤sizeLine then .ok .non (h.set n (.lst (xs++ys)))else .stuck
    | _,_=> .stuck):=by
  unfold eZ;first
    | (dsimp only; done)
    | (dsimp only
       generalize h.get n=q;generalize h.get m=q2;cases q with
       | none=>rfl
       | some o=>
         cases o with
         | lst xs=>
           cases q2 with
           | none=>rfl
           | some p=>cases p<;>rfl
         | _=>rfl)
theorem Cv(n:Nat):jA [.ref n] h=(match h.get n with
  | some (.lst xs)=> .ok (.int xs.length) h
  | some (.bA kvs)=> .ok (.int kvs.length) h
  | _=> .stuck):=nr rfl
theorem B6(x:Str):jA [.str x] h=(if x.length≤sizeLine then .ok (.int x.length) h else .stuck):=nr rfl
theorem BZ(n:Nat):k8 [.ref n] h=(match h.get n with
  | some (.lst xs)=> .ok (.tup xs) h
  | _=> .stuck):=nr rfl
theorem CL(xs:List AV):k8 [.tup xs] h = .ok (.tup xs) h:=nr rfl
theorem yI(n:Nat):sM [.ref n] h=(match h.get n with
  | some (.lst xs)=> .ok (.ref h.n) (h.push (.lst xs))
  | some (.bA kvs)=> .ok (.ref h.n) (h.push (.lst (kvs.map fun kv=>kA kv.1)))
  | _=> .stuck):=nr rfl
theorem Ft(n:Nat):kN (.ref n) h=(match h.get n with
    | some (.lst _)=>some (.lst n)
    | _=>none):=by
  unfold kN;first
    | (dsimp only; done)
    | (dsimp only
       generalize h.get n=q;cases q with
       | none=>rfl
       | some o=>cases o<;>rfl)
theorem yW(n:Nat):cJ (.ref n) h=(match h.get n with
    | some (.lst _)=>true
    | _=>false):=by
  unfold cJ;first
    | (dsimp only; done)
    | (dsimp only
       generalize h.get n=q;cases q with
       | none=>rfl
       | some o=>cases o<;>rfl)
theorem rV(x:Str):isStr (.str x) h=true:=nr rfl
theorem u7(m n:Nat):dh (.ref m) (.ref n) h=(match h.get m,h.get n with
    | some (.lst xs),some (.lst ys)=>if xs.length+ys.length≤sizeLine then .ok (.ref h.n) (h.push (.lst (xs++ys)))else .stuck
    | _,_=> .stuck):=by
  unfold dh;first
    | (dsimp only; done)
    | (dsimp only
       generalize h.get m=q;generalize h.get n=q2;cases q with
       | none=>rfl
       | some o=>
         cases o with
         | lst xs=>
           cases q2 with
           | none=>rfl
           | some p=>cases p<;>rfl
         | _=>rfl)
theorem wN(x y:Str):dh (.str x) (.str y) h=(if x.length+y.length≤sizeLine then .ok (.str (x++y)) h else .stuck):=nr rfl
theorem CI(x y:List AV):dh (.tup x) (.tup y) h=(if x.length+y.length≤sizeLine then .ok (.tup (x++y)) h else .stuck):=nr rfl
theorem GG(f:AE)(fl fh:AP)(s:az):GD f fl fh s h=(f s h).bind fun v h1=>(fl s h1).bind fun l h2=>(fh s h2).bind fun u h3=>qy v l u h3:=nr rfl
theorem Bt(f:AE)(s:az):uX f s h=(f s h).bind fun v h1=>match v with
 | .int i=> .ok (some i) h1
 | _=> .stuck:=nr rfl
theorem ym(s:az):DO s h = .ok none h:=nr rfl
theorem Ep(n:Nat)(lo hi:Option Int):qy (.ref n) lo hi h=(match h.get n with
    | some (.lst xs)=> .ok (.ref h.n) (h.push (.lst (nR xs lo hi)))
    | _=> .stuck):=by
  unfold qy;first
    | (dsimp only; done)
    | (dsimp only
       generalize h.get n=q;cases q with
       | none=>rfl
       | some o=>cases o<;>rfl)
theorem Fn(xs:List AV)(lo hi:Option Int):qy (.tup xs) lo hi h = .ok (.tup (nR xs lo hi)) h:=nr rfl
theorem z8(f:AE)(g:AL)(s:az):wj f g s h=(f s h).bind fun v h1=>match v with
 | .tup xs=>(g s h1).bind fun ys h2=> .ok (xs++ys) h2
 | .ref n=>(match h1.get n with
  | some (.lst xs)=>(g s h1).bind fun ys h2=> .ok (xs++ys) h2
  | _=> .stuck)
 | _=> .stuck:=nr rfl
end
def turn(g:AG)(t:AT)(el:AE)(s:az)(x:AV)(h:AH):Ex (Option AV):=(g x s h).bind fun s1 h1=>(t s1 h1).bind fun b h2=>if b=true then(el s1 h2).bind fun v h3=> .ok (some v) h3 else .ok none h2
theorem xY(J:AI)(g:AG)(t:AT)(el:AE)(s:az)(d f i:Nat)(h:AH)(x:AV)(e:bf J i h=some (some x)):tR J g t el s d (f+1) i h=(turn g t el s x h).bind fun o h3=>match o with
  | some y=>(match h3.get d with
    | some (.lst acc)=>if acc.length<sizeLine then tR J g t el s d f (i+1) (h3.set d (.lst (acc++[y])))else .stuck
    | _=> .stuck)
  | none=>tR J g t el s d f (i+1) h3:=by
 show(match bf J i h with
  | none=>(Ex.stuck:Ex AV)
  | some none=> .ok (.ref d) h
  | some (some v)=>(g v s h).bind fun s1 h1=>(t s1 h1).bind fun b h2=>if b=true then(el s1 h2).bind fun y h3=>(match h3.get d with
    | some (.lst acc)=>if acc.length<sizeLine then tR J g t el s d f (i+1) (h3.set d (.lst (acc++[y])))else .stuck
    | _=> .stuck)else tR J g t el s d f (i+1) h2)=_
 rw[e];unfold turn;simp only[cu];cases g x s h with
 | stuck=>rfl
 | ok s1 h1=>
  simp only[aw];cases t s1 h1 with
  | stuck=>rfl
  | ok b h2=>
   simp only[aw];cases b with
   | false=>rfl
   | true=>
    simp only[if_true,cu];cases el s1 h2 with
    | stuck=>rfl
    | ok v h3=>rfl
theorem mI{J:AI}{xs:List AV}{g:AG}{t:AT}{el:AE}{s:az}{d:Nat}{P:Nat→AH→List AV→Prop}(hl:xs.length≤100000)(next:∀ i h acc,P i h acc→bf J i h=some xs[i]?)(bd:∀ i h acc,P i h acc→acc.length≤i)
  (step:∀ i x h acc,xs[i]? = some x→P i h acc→h.get d=some (.lst acc)→∃ o h',turn g t el s x h = .ok o h'∧h'.get d=some (.lst acc)∧match o with
   | some v=>P (i+1) (h'.set d (.lst (acc++[v]))) (acc++[v])
   | none=>P (i+1) h' acc):∀(f i:Nat) (h:AH) (acc:List AV),i≤xs.length→xs.length - i<f→P i h acc→h.get d=some (.lst acc)→
   ∃ h' acc',tR J g t el s d f i h = .ok (.ref d) h'∧P xs.length h' acc'∧h'.get d=some (.lst acc')
 | 0,i,h,acc,_,hf,_,_=>absurd hf (KA _)
 | f+1,i,h,acc,hi,hf,I,hg=>by
  cases q:xs[i]? with
  | none=>
   have:i=xs.length:=by
    have:=Kd.mp q;omega
   subst this;refine⟨h,acc, ?_,I,hg⟩;unfold tR;rw[next _ h acc I,q]
  | some x=>
   have hlt:=(Jl.mp q).1;obtain⟨o,h',e,g',p⟩:=step i x h acc q I hg;rw[xY J g t el s d f i h x (by rw[next i h acc I,q]),e,aw]
   cases o with
   | none=>exact mI hl next bd step f (i+1) h' acc hlt (by omega) p g'
   | some v=>
    have:=bd _ _ _ I;simp only[g'];rw[if_pos (by rw[sizeLine_eq]; omega)]
    exact mI hl next bd step f (i+1) _ _ hlt (by omega) p (bI _ _ _)
theorem wD{fi:az→AH→Ex AI}{J:AI}{xs:List AV}{g:AG}{t:AT}{el:AE}{vs:List Nat}{s:az}{h h1:AH}(P:Nat→AH→List AV→Prop)(hi:fi s h = .ok J h1)(hl:xs.length<100000)(next:∀ i h acc,P i h acc→bf J i h=some xs[i]?)(bd:∀ i h acc,P i h acc→acc.length≤i)
  (start:P 0 (h1.push (.lst [])) []) (step:∀ i x h acc,xs[i]? = some x→P i h acc→h.get h1.n=some (.lst acc)→∃ o h',turn g t el (a5 s vs) x h = .ok o h'∧h'.get h1.n=some (.lst acc)∧match o with
   | some v=>P (i+1) (h'.set h1.n (.lst (acc++[v]))) (acc++[v])
   | none=>P (i+1) h' acc):∃ h' acc,pM aE fi g t el vs s h = .ok (.ref h1.n) h'∧P xs.length h' acc∧h'.get h1.n=some (.lst acc):=by
 unfold pM;rw[hi];exact mI (Nat.le_of_lt hl) next bd step aE 0 _ [] (K1 _) (by unfold aE; omega) start (bb _ _)
theorem Ci{fi:az→AH→Ex AI}{J:AI}{xs:List AV}{g:AG}{t:AT}{el:AE}{vs:List Nat}{s:az}{h h1:AH}(f:AV→Option AV)(hi:fi s h = .ok J h1)(G0:Gro h h1)(hl:xs.length<100000)(next:∀ i h',Gro h1 h'→bf J i h'=some xs[i]?)
  (step:∀ x∈xs,∀ h',Gro h1 h'→h1.n<h'.n→∃ h'',turn g t el (a5 s vs) x h' = .ok (f x) h''∧Gro h' h''):∃ h',pM aE fi g t el vs s h = .ok (.ref h1.n) h'∧Gro h h'∧h1.n<h'.n∧h'.get h1.n=some (.lst (xs.filterMap f)):=by
 obtain⟨h',acc,e,⟨G,hn,rfl⟩,gg⟩:=wD (g:=g) (t:=t) (el:=el) (vs:=vs) (fun i h' acc=>Gro h1 h'∧h1.n<h'.n∧acc=(xs.take i).filterMap f) hi hl (fun i h' acc p=>next i h' p.1) (fun i h' acc p=>by
   rw[p.2.2];exact Js (Lc _ _) (by rw[J0]; omega)) ⟨Gro.push _ _,Jy _,rfl⟩ (fun i x h' acc hx ⟨G,hn,ha⟩ hg=>by
   obtain⟨h'',e,G2⟩:=step x (JK hx) h' G hn;refine⟨f x,h'',e,(G2.get _ hn).trans hg, ?_⟩;have tk:(xs.take (i+1)).filterMap f=acc++(f x).toList:=by
    rw[Md,hx,List.filterMap_append,←ha];cases q:f x<;>simp [q]
   cases q:f x with
   | none=>exact⟨G.trans G2,JL hn G2.le,by rw[tk,q]; simp⟩
   | some v=>exact⟨(G.trans G2).set (Jw _) _,JL hn G2.le,by rw[tk,q]; simp⟩)
 exact⟨h',e,G0.trans G,hn,by rw[gg,Mp]⟩
mutual
def AV.pd:AV→PyData
 | .bl b=> .bool b
 | .int i=> .int i
 | .str x=> .str x
 | .tup xs=> .tuple (AV.cx xs)
 | .ref _=> .list []
 | _=> .none
def AV.cx:List AV→List PyData
 | []=>[]
 | x::xs=>x.pd::AV.cx xs
end
mutual
def AV.sz:AV→Nat
 | .tup xs=>1+AV.sf xs
 | .ref _=>2
 | _=>1
def AV.sf:List AV→Nat
 | []=>1
 | x::xs=>1+max x.sz (AV.sf xs)
end
mutual
def AV.fl:AV→Bool
 | .non=>true
 | .bl _=>true
 | .int i=>decide (i.natAbs.log2<1920)
 | .str x=>PyData.strOk x
 | .tup xs=>AV.Ak xs
 | _=>false
def AV.Ak:List AV→Bool
 | []=>true
 | x::xs=>x.fl && AV.Ak xs
end
mutual
def AV.dp:AV→Nat
 | .tup xs=>AV.yh xs+1
 | .ref _=>1
 | _=>0
def AV.yh:List AV→Nat
 | []=>0
 | x::xs=>max x.dp (AV.yh xs)
end
theorem AV.wA:∀ v:AV,1≤v.sz:=fun v=>by cases v<;>simp [AV.sz]
theorem AV.jP:∀ v:List AV,1≤AV.sf v:=fun v=>by cases v<;>(unfold AV.sf; omega)
theorem nT(h:AH):∀ f:Nat,(∀ v:AV,v.fl=true→v.sz≤f→bJ f h v=some v.pd)∧(∀ xs:List AV,AV.Ak xs=true→AV.sf xs≤f→cQ f h xs=some (AV.cx xs))
 | 0=>⟨fun v _ hs=>absurd hs (by have:=v.wA; omega),fun xs _ hs=>absurd hs (by have:=AV.jP xs; omega)⟩
 | f+1=>by
  obtain⟨ih,ihs⟩:=nT h f;refine⟨fun v hv hs=> ?_,fun xs hv hs=> ?_⟩
  ·cases v with
   | non=>unfold bJ AV.pd; rfl
   | bl b=>unfold bJ AV.pd; rfl
   | int i=>unfold bJ AV.pd; rfl
   | str x=>unfold bJ AV.pd; rfl
   | tup xs=>
    unfold bJ AV.pd;unfold AV.sz at hs;unfold AV.fl at hv;rw[ihs xs hv (by omega)]
   | _=>unfold AV.fl at hv; cases hv
  ·cases xs with
   | nil=>unfold cQ AV.cx; rfl
   | cons x r=>
    unfold AV.sf at hs;unfold AV.Ak at hv;rw[Ji]at hv;have:=AV.jP r;unfold cQ AV.cx;rw[ih x hv.1 (by omega),ihs r hv.2 (by omega)]
mutual
theorem AV.IV:∀ v:AV,v.fl=true→v.pd.canLay0=true
 | .non,_=>by unfold AV.pd PyData.canLay0; rfl
 | .bl _,_=>by unfold AV.pd PyData.canLay0; rfl
 | .int _,_=>by unfold AV.pd PyData.canLay0; rfl
 | .str x,h=>by unfold AV.fl at h; unfold AV.pd PyData.canLay0; exact h
 | .tup xs,h=>by unfold AV.fl at h; unfold AV.pd PyData.canLay0; exact AV.yl xs h
 | .ref _,h=>by unfold AV.fl at h; cases h
 | .scr,h=>by unfold AV.fl at h; cases h
 | .glo _,h=>by unfold AV.fl at h; cases h
 | .ty _,h=>by unfold AV.fl at h; cases h
theorem AV.yl:∀ xs:List AV,AV.Ak xs=true→PyData.canLayAll0 (AV.cx xs)=true
 | [],_=>by unfold AV.cx PyData.canLayAll0; rfl
 | x::xs,h=>by
  unfold AV.Ak at h;rw[Ji]at h;unfold AV.cx PyData.canLayAll0;rw[AV.IV x h.1,AV.yl xs h.2];rfl
end
mutual
theorem AV.DM:∀ v:AV,v.pd.depth=v.dp
 | .tup xs=>by unfold AV.pd PyData.depth AV.dp; rw[AV.ko xs]
 | .non=>by unfold AV.pd PyData.depth AV.dp; rfl
 | .bl _=>by unfold AV.pd PyData.depth AV.dp; rfl
 | .int _=>by unfold AV.pd PyData.depth AV.dp; rfl
 | .str _=>by unfold AV.pd PyData.depth AV.dp; rfl
 | .ref _=>by unfold AV.pd PyData.depth AV.dp PyData.depthAll; rfl
 | .scr=>by unfold AV.pd PyData.depth AV.dp; rfl
 | .glo _=>by unfold AV.pd PyData.depth AV.dp; rfl
 | .ty _=>by unfold AV.pd PyData.depth AV.dp; rfl
theorem AV.ko:∀ xs:List AV,PyData.depthAll (AV.cx xs)=AV.yh xs
 | []=>by unfold AV.cx PyData.depthAll AV.yh; rfl
 | x::xs=>by unfold AV.cx PyData.depthAll AV.yh; rw[AV.DM x,AV.ko xs]
end
mutual
def AV.wt:AV→Nat
 | .str x=>10 * x.length+2
 | .int i=>(Str.ofString (toString i)).length
 | .tup xs=>AV.uh xs+2
 | _=>5
def AV.uh:List AV→Nat
 | []=>0
 | x::xs=>x.wt+2+AV.uh xs
end
theorem og(ts:List Str):(tupleText ts).length≤piled ts+2:=by
 unfold tupleText;have e3:(((if ts.length == 1 then ",)" else ")" : String):Str)).length≤2:=by split<;>decide +kernel
 rw[strLen_append,strLen_append];by_cases h:ts=[]
 ·subst h;decide +kernel
 ·have:=join_length_add ts h;have e1:((("(" : String):Str)).length=1:=rfl
  omega
mutual
theorem AV.lN:∀ v:AV,v.fl=true→v.pd.shown.length≤v.wt
 | .non,_=>by unfold AV.pd PyData.shown AV.wt; decide +kernel
 | .bl b,_=>by unfold AV.pd PyData.shown AV.wt; cases b<;>decide +kernel
 | .int i,_=>by unfold AV.pd PyData.shown AV.wt; exact Jw _
 | .str x,h=>by
  unfold AV.pd PyData.shown AV.wt;refine StrLaws.reprText_len x fun c hc=> ?_
  unfold AV.fl PyData.strOk at h;rw[←Array.all_toList,Jm]at h;have:=of_decide_eq_true (h c hc);omega
 | .tup xs,h=>by
  unfold AV.pd PyData.shown AV.wt;unfold AV.fl at h;have:=AV.j8 xs h;have:=og (PyData.shownAll (AV.cx xs));omega
 | .ref _,h=>by unfold AV.fl at h; cases h
 | .scr,h=>by unfold AV.fl at h; cases h
 | .glo _,h=>by unfold AV.fl at h; cases h
 | .ty _,h=>by unfold AV.fl at h; cases h
theorem AV.j8:∀ xs:List AV,AV.Ak xs=true→piled (PyData.shownAll (AV.cx xs))≤AV.uh xs
 | [],_=>by unfold AV.cx PyData.shownAll AV.uh; exact Jw _
 | x::xs,h=>by
  unfold AV.Ak at h;rw[Ji]at h;unfold AV.cx PyData.shownAll AV.uh;rw[piled_cons];have:=AV.lN x h.1;have:=AV.j8 xs h.2;omega
end
section
variable {h:AH}
theorem u4(l:List Str):oW (l.map .str)=some l:=by
 induction l with
 | nil=>rfl
 | cons b r ih=>rw[JU]; unfold oW; rw[ih]
theorem yB(a:Str)(n:Nat)(l:List Str)(g:h.get n=some (.lst (l.map .str)))(hz:(l.map (·.length)).sum+l.length * a.length≤1000000):lV (.str a) [.ref n] h = .ok (.str (Txt.join a l)) h:=by
 unfold lV;simp only[g];unfold oS;rw[u4];exact if_pos hz
end
def S2:List Nat:=[44,32]
end WC
namespace WC
end WC
namespace WC
open PySem PySem.Spec PyProof.Rows L2
open PySem.Builtin.Str (strSub)
end WC
namespace WC
open PySem PySem.Spec PyProof.Rows L2
mutual
def AV.hZ(h:AH):AV→Bool
 | .non=>true
 | .bl _=>true
 | .int i=>decide (i.natAbs.log2<1920)
 | .str x=>PyData.strOk x
 | .tup xs=>AV.jb h xs
 | .ref n=>decide (n<h.n) && (match h.get n with
  | some (.lst [])=>true
  | _=>false)
 | _=>false
def AV.jb(h:AH):List AV→Bool
 | []=>true
 | x::xs=>AV.hZ h x && AV.jb h xs
end
theorem sJ{h:AH}{n:Nat}(e:AV.hZ h (.ref n)=true):n<h.n∧h.get n=some (.lst []):=by
 unfold AV.hZ at e;rw[Ji]at e;refine⟨of_decide_eq_true e.1, ?_⟩;have e2:=e.2;split at e2
 ·rename_i q; exact q
 ·cases e2
theorem xD{h:AH}{n:Nat}(h1:n<h.n)(h2:h.get n=some (.lst [])):AV.hZ h (.ref n)=true:=by
 unfold AV.hZ;rw[decide_eq_true h1,h2];rfl
mutual
theorem AV.yD{h h':AH}(G:Gro h h'):∀ v:AV,AV.hZ h v=true→AV.hZ h' v=true
 | .non,_=>rfl
 | .bl _,_=>rfl
 | .int _,e=>by unfold AV.hZ at e ⊢; exact e
 | .str _,e=>by unfold AV.hZ at e ⊢; exact e
 | .tup xs,e=>by unfold AV.hZ at e ⊢; exact AV.oF G xs e
 | .ref n,e=>by
  obtain⟨h1,h2⟩:=sJ e;exact xD (JL h1 G.le) ((G.get n h1).trans h2)
 | .scr,e=>by unfold AV.hZ at e; cases e
 | .glo _,e=>by unfold AV.hZ at e; cases e
 | .ty _,e=>by unfold AV.hZ at e; cases e
theorem AV.oF{h h':AH}(G:Gro h h'):∀ xs:List AV,AV.jb h xs=true→AV.jb h' xs=true
 | [],_=>rfl
 | x::xs,e=>by
  unfold AV.jb at e ⊢;rw[Ji]at e;rw[AV.yD G x e.1,AV.oF G xs e.2];rfl
end
theorem pK(h:AH):∀ f:Nat,(∀ v:AV,AV.hZ h v=true→v.sz≤f→bJ f h v=some v.pd)∧(∀ xs:List AV,AV.jb h xs=true→AV.sf xs≤f→cQ f h xs=some (AV.cx xs))
 | 0=>⟨fun v _ hs=>absurd hs (by have:=v.wA; omega),fun xs _ hs=>absurd hs (by have:=AV.jP xs; omega)⟩
 | f+1=>by
  obtain⟨ih,ihs⟩:=pK h f;refine⟨fun v hv hs=> ?_,fun xs hv hs=> ?_⟩
  ·cases v with
   | non=>unfold bJ AV.pd; rfl
   | bl b=>unfold bJ AV.pd; rfl
   | int i=>unfold bJ AV.pd; rfl
   | str x=>unfold bJ AV.pd; rfl
   | tup xs=>
    unfold bJ AV.pd;unfold AV.sz at hs;unfold AV.hZ at hv;rw[ihs xs hv (by omega)]
   | ref n=>
    obtain⟨h1,h2⟩:=sJ hv;unfold AV.sz at hs;have:=ihs [] rfl (by unfold AV.sf; omega)
    unfold bJ AV.pd;simp only[h2,this];unfold AV.cx;rfl
   | _=>unfold AV.hZ at hv; cases hv
  ·cases xs with
   | nil=>unfold cQ AV.cx; rfl
   | cons x r=>
    unfold AV.sf at hs;unfold AV.jb at hv;rw[Ji]at hv;have:=AV.jP r;unfold cQ AV.cx;rw[ih x hv.1 (by omega),ihs r hv.2 (by omega)]
mutual
theorem AV.xI{h:AH}:∀ v:AV,AV.hZ h v=true→v.pd.showable=true∧v.pd.hasDict=false
 | .non,_=>by unfold AV.pd PyData.showable PyData.hasDict; exact⟨rfl,rfl⟩
 | .bl _,_=>by unfold AV.pd PyData.showable PyData.hasDict; exact⟨rfl,rfl⟩
 | .int i,e=>by unfold AV.hZ at e; unfold AV.pd PyData.showable PyData.hasDict; exact⟨e,rfl⟩
 | .str x,_=>by unfold AV.pd PyData.showable PyData.hasDict; exact⟨rfl,rfl⟩
 | .tup xs,e=>by unfold AV.hZ at e; unfold AV.pd PyData.showable PyData.hasDict; exact AV.iM xs e
 | .ref _,_=>by unfold AV.pd PyData.showable PyData.hasDict PyData.showableAll PyData.hasDictAll; exact⟨rfl,rfl⟩
 | .scr,e=>by unfold AV.hZ at e; cases e
 | .glo _,e=>by unfold AV.hZ at e; cases e
 | .ty _,e=>by unfold AV.hZ at e; cases e
theorem AV.iM{h:AH}:∀ xs:List AV,AV.jb h xs=true→PyData.showableAll (AV.cx xs)=true∧PyData.hasDictAll (AV.cx xs)=false
 | [],_=>by unfold AV.cx PyData.showableAll PyData.hasDictAll; exact⟨rfl,rfl⟩
 | x::xs,e=>by
  unfold AV.jb at e;rw[Ji]at e;unfold AV.cx PyData.showableAll PyData.hasDictAll;obtain⟨a,b⟩:=AV.xI x e.1;obtain⟨c,d⟩:=AV.iM xs e.2;rw[a,b,c,d];exact⟨rfl,rfl⟩
end
mutual
theorem AV.qE{h:AH}:∀ v:AV,AV.hZ h v=true→v.pd.shown.length≤v.wt
 | .non,_=>by unfold AV.pd PyData.shown AV.wt; decide +kernel
 | .bl b,_=>by unfold AV.pd PyData.shown AV.wt; cases b<;>decide +kernel
 | .int i,_=>by unfold AV.pd PyData.shown AV.wt; exact Jw _
 | .str x,e=>AV.lN (.str x) (by unfold AV.hZ at e; unfold AV.fl; exact e)
 | .tup xs,e=>by
  unfold AV.pd PyData.shown AV.wt;unfold AV.hZ at e;have:=AV.fC xs e;have:=og (PyData.shownAll (AV.cx xs));omega
 | .ref _,_=>by unfold AV.pd PyData.shown PyData.shownAll AV.wt; decide +kernel
 | .scr,e=>by unfold AV.hZ at e; cases e
 | .glo _,e=>by unfold AV.hZ at e; cases e
 | .ty _,e=>by unfold AV.hZ at e; cases e
theorem AV.fC{h:AH}:∀ xs:List AV,AV.jb h xs=true→piled (PyData.shownAll (AV.cx xs))≤AV.uh xs
 | [],_=>by unfold AV.cx PyData.shownAll AV.uh; exact Jw _
 | x::xs,e=>by
  unfold AV.jb at e;rw[Ji]at e;unfold AV.cx PyData.shownAll AV.uh;rw[piled_cons];have:=AV.qE x e.1;have:=AV.fC xs e.2;omega
end
theorem mh:∀ ts:List Str,piled ts=(ts.map (·.length)).sum+2 * ts.length
 | []=>rfl
 | t::ts=>by
  rw[piled_cons,mh ts,JU,List.sum_cons,Jn];omega
theorem tV(ts:List Str):(listText ts).length≤piled ts+3:=by
 rw[mh];exact listText_len_le ts
structure Dat(h:AH)(xs:List AV):Prop where
 f:AV.jb h xs=true
 s:AV.sf xs≤900
 d:AV.yh xs≤60
theorem pI{h:AH}{n:Nat}{xs:List AV}(g:h.get n=some (.lst xs))(hf:AV.jb h xs=true)(hs:AV.sf xs≤4900)(hd:AV.yh xs≤99)(hw:AV.uh xs≤900000):dg [.ref n] h = .ok (.str (PyData.list (AV.cx xs)).shown) h:=by
 unfold dg;simp only[];have q:bJ iL h (.ref n)=some (.list (AV.cx xs)):=by
  unfold iL bJ;simp only[g];rw[(pK h 4999).2 xs hf (by omega)]
 rw[q];simp only[];have l1:(PyData.list (AV.cx xs)).shown.length≤AV.uh xs+3:=by
  have:=AV.fC xs hf;unfold PyData.shown;have:=tV (PyData.shownAll (AV.cx xs));omega
 have ok:mQ (.list (AV.cx xs))=true:=by
  unfold mQ;obtain⟨a,b⟩:=AV.iM xs hf;have e1:(PyData.list (AV.cx xs)).showable=true:=by unfold PyData.showable; exact a
  have e2:(PyData.list (AV.cx xs)).hasDict=false:=by unfold PyData.hasDict; exact b
  have e3:(PyData.list (AV.cx xs)).depth≤100:=by unfold PyData.depth; rw[AV.ko]; omega
  rw[e1,e2,decide_eq_true e3,decide_eq_true (show(PyData.list (AV.cx xs)).shown.length≤1000000 by omega)]
  rfl
 rw[if_pos ok]
theorem t7(x:Str):cA (.str x)=some (.inr x):=rfl
section
variable {β:Type}(f:β → AV)
end
structure Sm(xs:List AV):Prop where
 f:AV.Ak xs=true
 s:AV.sf xs≤4900
 d:AV.yh xs≤60
theorem Sm.Jg{xs:List AV}(o:Sm xs)(h:AH):bJ iL h (.tup xs)=some (.tuple (AV.cx xs)):=by
 have:=o.s;unfold iL bJ;rw[(nT h 4999).2 xs o.f (by omega)]
theorem Sm.IH{xs:List AV}(o:Sm xs){h:AH}{m:Nat}(g:h.get m=some (.lst xs)):bJ iL h (.ref m)=some (.list (AV.cx xs)):=by
 have:=o.s;unfold iL bJ;simp only[g];rw[(nT h 4999).2 xs o.f (by omega)]
theorem Sm.Jf{xs:List AV}(o:Sm xs):SeqAt.shaped (.tuple (AV.cx xs))=true:=by
 have:=o.d;unfold SeqAt.shaped PyData.canLay0 PyData.depth;rw[AV.yl xs o.f,AV.ko];simp
 omega
theorem Sm.Ip{xs:List AV}(o:Sm xs):SeqAt.shaped (.list (AV.cx xs))=true:=by
 have:=o.d;unfold SeqAt.shaped PyData.canLay0 PyData.depth;rw[AV.yl xs o.f,AV.ko];simp
 omega
theorem xX{xs ys:List AV}(o:Sm xs)(q:Sm ys){h:AH}{m n:Nat}(g:h.get m=some (.lst xs))(g2:h.get n=some (.lst ys)):lr (.ref m) (.ref n) h=some (PyData.eqvAll (AV.cx xs) (AV.cx ys)):=by
 unfold lr;rw[o.IH g,q.IH g2];simp only[o.Ip,q.Ip,if_true];unfold PyData.eqv;rfl
theorem Fv{xs ys:List AV}(o:Sm xs)(q:Sm ys){h:AH}{m n:Nat}(g:h.get m=some (.lst xs))(g2:h.get n=some (.lst ys)):d4 (.ref m) (.ref n) h = .ok (.bl (PyData.eqvAll (AV.cx xs) (AV.cx ys))) h:=by
 have q1:oZ (.ref m) (.ref n)=none:=by unfold oZ; rfl
 have q2:jm (.ref m) (.ref n) h=none:=by unfold jm; simp only[g,g2]
 unfold d4;rw[q1];simp only[];rw[q2];simp only[];unfold FR;rw[xX o q g g2]
theorem Fh{xs ys:List AV}(o:Sm xs)(q:Sm ys){h:AH}{m n:Nat}(g:h.get m=some (.lst xs))(g2:h.get n=some (.lst ys)):cC (.ref m) (.ref n) h = .ok (.bl (!PyData.eqvAll (AV.cx xs) (AV.cx ys))) h:=by
 have q1:oZ (.ref m) (.ref n)=none:=by unfold oZ; rfl
 have q2:jm (.ref m) (.ref n) h=none:=by unfold jm; simp only[g,g2]
 unfold cC;rw[q1];simp only[];rw[q2];simp only[];unfold FO;rw[xX o q g g2]
section
variable {s:az}{h:AH}
theorem Ab(name:Jh)(tab:Jh→Option bg)(no:Jh→Jh→Bool)(f:AE):dz name tab no f s h=(f s h).bind fun v h1=>match v with
 | .ref n=>(match h1.get n with
  | some (.ins C _)=>(match tab C with
   | some i=>aL i.n i.m i.ks i.gA i.g [.ref n] [] h1
   | none=>bT name no (.ref n) h1)
  | _=> .stuck)
 | _=> .stuck:=nr rfl
end
end WC
namespace K08
open PySem PySem.Spec PyProof.Rows L2 WC
abbrev au:Jh:=(⟨#[117,110,100,101,114,95,101,110,116,114,121]⟩:Jh)
abbrev aN:Jh:=(⟨#[97,116,95,122,101,114,111]⟩:Jh)
abbrev aK:Jh:=(⟨#[97,116,95,101,110,116,114,121]⟩:Jh)
abbrev aB:Jh:=(⟨#[111,118,101,114,95,101,110,116,114,121]⟩:Jh)
abbrev bq:Jh:=(⟨#[105,115,95,108,97,120]⟩:Jh)
abbrev aa:Jh:=(⟨#[82,117,108,101]⟩:Jh)
abbrev av:Jh:=(⟨#[98,101,108,111,119,61]⟩:Jh)
abbrev aX:Jh:=(⟨#[44,32,110,111,110,101,61]⟩:Jh)
abbrev aZ:Jh:=(⟨#[44,32,115,97,109,101,61]⟩:Jh)
abbrev aP:Jh:=(⟨#[82,117,108,101,40]⟩:Jh)
abbrev be:Jh:=(⟨#[44,32,97,98,111,118,101,61]⟩:Jh)
abbrev bH:Jh:=(⟨#[44,32,108,97,120,61]⟩:Jh)
abbrev lK:Jh:=(⟨#[41]⟩:Jh)
abbrev a7:Jh:=(⟨#[97,98,111,118,101]⟩:Jh)
abbrev bu:Jh:=(⟨#[115,97,109,101]⟩:Jh)
abbrev cy:Jh:=(⟨#[108,97,120]⟩:Jh)
abbrev bL:Jh:=(⟨#[110,111,110,101]⟩:Jh)
abbrev br:Jh:=(⟨#[98,101,108,111,119]⟩:Jh)
abbrev aS:Jh:=(⟨#[110,111,110,101,61]⟩:Jh)
abbrev aW:Jh:=(⟨#[115,97,109,101,61]⟩:Jh)
abbrev aO:Jh:=(⟨#[97,98,111,118,101,61]⟩:Jh)
abbrev bp:Jh:=(⟨#[108,97,120,61]⟩:Jh)
abbrev fx:Jh:=(⟨#[44,32]⟩:Jh)
abbrev bX:Jh:=(⟨#[107,101,101,112,115]⟩:Jh)
abbrev bO:Jh:=(⟨#[101,110,116,114,121]⟩:Jh)
abbrev bU:Jh:=(⟨#[110,117,109,98,101,114]⟩:Jh)
abbrev nX:Jh:=⟨#[115,101,108,102]⟩
abbrev DJ:Jh:=⟨#[99,108,115]⟩
abbrev GV:Jh:=⟨#[95,95,110,97,109,101,95,95]⟩
abbrev Hf:Jh:=⟨#[95,95,100,111,99,95,95]⟩
abbrev F8:Jh:=⟨#[95,95,112,97,99,107,97,103,101,95,95]⟩
abbrev GL:Jh:=⟨#[95,95,108,111,97,100,101,114,95,95]⟩
abbrev Gr:Jh:=⟨#[95,95,115,112,101,99,95,95]⟩
abbrev Dy:Jh:=⟨#[47,99,108,97,105,109,47,99,117,116,46,112,121]⟩
abbrev Ek:Jh:=⟨#[95,108,97,119,95,115,111,117,114,99,101]⟩
abbrev EG:Jh:=⟨#[95,108,97,119,95,100,114,97,119]⟩
abbrev yc:Jh:=⟨#[95,108,97,119,95,115,111,117,114,99,101,95,104,101,114,101]⟩
abbrev vL:Jh:=⟨#[95,108,97,119,95,99,104,111,105,99,101]⟩
abbrev xn:Jh:=⟨#[95,108,97,119,95,114,117,108,101]⟩
abbrev wC:Jh:=⟨#[95,108,97,119,95,98,105,116,115]⟩
abbrev wX:Jh:=⟨#[95,108,97,119,95,105,115,95,114,105,103,104,116]⟩
abbrev zu:Jh:=⟨#[95,95,109,97,105,110,95,95]⟩
abbrev Av:Jh:=⟨#[95,108,97,119,95,115,99,114,105,112,116]⟩
abbrev zO:Jh:=⟨#[108,97,119]⟩
abbrev Ff:Jh:=⟨#[95,95,97,110,110,111,116,97,116,105,111,110,115,95,95]⟩
abbrev DW:Jh:=⟨#[95,95,98,117,105,108,116,105,110,115,95,95]⟩
abbrev Ez:Jh:=⟨#[95,95,102,105,108,101,95,95]⟩
abbrev Fo:Jh:=⟨#[95,95,99,97,99,104,101,100,95,95]⟩
abbrev yp:Jh:=⟨#[60,109,111,100,117,108,101,62]⟩
abbrev BW:Jh:=⟨#[95,95,101,113,95,95]⟩
abbrev BR:Jh:=⟨#[95,95,114,101,112,114,95,95]⟩
abbrev Cp:Jh:=⟨#[122,101,114,111]⟩
abbrev Co:Jh:=⟨#[95,108,97,119,95,97,116]⟩
abbrev Bh:Jh:=⟨#[95,108,97,119,95,112,97,105,114,115]⟩
abbrev Fg:Jh:=⟨#[105,115,105,110,115,116,97,110,99,101]⟩
abbrev Fp:Jh:=⟨#[114,101,112,114]⟩
abbrev ET:Jh:=⟨#[114,97,110,103,101]⟩
abbrev Ew:Jh:=⟨#[98,117,105,108,116,105,110,115]⟩
abbrev DQ:Jh:=⟨#[95,108,97,119,95,109,97,110,121]⟩
abbrev DN:Jh:=⟨#[95,108,97,119,95,105,116,101,109,115]⟩
abbrev FH:Jh:=⟨#[95,108,97,119,95,114,117,108,101,95,104,101,114,101]⟩
abbrev Hg:Jh:=⟨#[95,95,98,117,105,108,100,95,99,108,97,115,115,95,95]⟩
abbrev Hu:Jh:=⟨#[95,95,105,109,112,111,114,116,95,95]⟩
abbrev Hc:Jh:=⟨#[98,114,101,97,107,112,111,105,110,116]⟩
abbrev HU:Jh:=⟨#[105,115,115,117,98,99,108,97,115,115]⟩
abbrev Hs:Jh:=⟨#[69,108,108,105,112,115,105,115]⟩
abbrev Hy:Jh:=⟨#[78,111,116,73,109,112,108,101,109,101,110,116,101,100]⟩
abbrev GU:Jh:=⟨#[109,101,109,111,114,121,118,105,101,119]⟩
abbrev Gq:Jh:=⟨#[98,121,116,101,97,114,114,97,121]⟩
abbrev HI:Jh:=⟨#[99,108,97,115,115,109,101,116,104,111,100]⟩
abbrev HM:Jh:=⟨#[101,110,117,109,101,114,97,116,101]⟩
abbrev GO:Jh:=⟨#[102,114,111,122,101,110,115,101,116]⟩
abbrev HB:Jh:=⟨#[112,114,111,112,101,114,116,121]⟩
abbrev Gi:Jh:=⟨#[114,101,118,101,114,115,101,100]⟩
abbrev Hh:Jh:=⟨#[115,116,97,116,105,99,109,101,116,104,111,100]⟩
abbrev Gu:Jh:=⟨#[95,95,100,101,98,117,103,95,95]⟩
abbrev F9:Jh:=⟨#[66,97,115,101,69,120,99,101,112,116,105,111,110]⟩
abbrev Ic:Jh:=⟨#[66,97,115,101,69,120,99,101,112,116,105,111,110,71,114,111,117,112]⟩
abbrev HZ:Jh:=⟨#[69,120,99,101,112,116,105,111,110]⟩
abbrev GA:Jh:=⟨#[71,101,110,101,114,97,116,111,114,69,120,105,116]⟩
abbrev Gv:Jh:=⟨#[75,101,121,98,111,97,114,100,73,110,116,101,114,114,117,112,116]⟩
abbrev Ho:Jh:=⟨#[83,121,115,116,101,109,69,120,105,116]⟩
abbrev HL:Jh:=⟨#[65,114,105,116,104,109,101,116,105,99,69,114,114,111,114]⟩
abbrev Ge:Jh:=⟨#[65,115,115,101,114,116,105,111,110,69,114,114,111,114]⟩
abbrev Hi:Jh:=⟨#[65,116,116,114,105,98,117,116,101,69,114,114,111,114]⟩
abbrev G7:Jh:=⟨#[66,117,102,102,101,114,69,114,114,111,114]⟩
abbrev Hw:Jh:=⟨#[73,109,112,111,114,116,69,114,114,111,114]⟩
abbrev Ib:Jh:=⟨#[76,111,111,107,117,112,69,114,114,111,114]⟩
abbrev HV:Jh:=⟨#[77,101,109,111,114,121,69,114,114,111,114]⟩
abbrev Hl:Jh:=⟨#[78,97,109,101,69,114,114,111,114]⟩
abbrev GY:Jh:=⟨#[82,101,102,101,114,101,110,99,101,69,114,114,111,114]⟩
abbrev GW:Jh:=⟨#[82,117,110,116,105,109,101,69,114,114,111,114]⟩
abbrev GP:Jh:=⟨#[83,116,111,112,65,115,121,110,99,73,116,101,114,97,116,105,111,110]⟩
abbrev Hd:Jh:=⟨#[83,116,111,112,73,116,101,114,97,116,105,111,110]⟩
abbrev GI:Jh:=⟨#[83,121,110,116,97,120,69,114,114,111,114]⟩
abbrev GJ:Jh:=⟨#[83,121,115,116,101,109,69,114,114,111,114]⟩
abbrev GN:Jh:=⟨#[84,121,112,101,69,114,114,111,114]⟩
abbrev Ii:Jh:=⟨#[86,97,108,117,101,69,114,114,111,114]⟩
abbrev Ht:Jh:=⟨#[70,108,111,97,116,105,110,103,80,111,105,110,116,69,114,114,111,114]⟩
abbrev HK:Jh:=⟨#[79,118,101,114,102,108,111,119,69,114,114,111,114]⟩
abbrev HE:Jh:=⟨#[90,101,114,111,68,105,118,105,115,105,111,110,69,114,114,111,114]⟩
abbrev GB:Jh:=⟨#[66,121,116,101,115,87,97,114,110,105,110,103]⟩
abbrev Gw:Jh:=⟨#[68,101,112,114,101,99,97,116,105,111,110,87,97,114,110,105,110,103]⟩
abbrev GK:Jh:=⟨#[69,110,99,111,100,105,110,103,87,97,114,110,105,110,103]⟩
abbrev Ie:Jh:=⟨#[70,117,116,117,114,101,87,97,114,110,105,110,103]⟩
abbrev Ga:Jh:=⟨#[73,109,112,111,114,116,87,97,114,110,105,110,103]⟩
abbrev Ik:Jh:=⟨#[80,101,110,100,105,110,103,68,101,112,114,101,99,97,116,105,111,110,87,97,114,110,105,110,103]⟩
abbrev HS:Jh:=⟨#[82,101,115,111,117,114,99,101,87,97,114,110,105,110,103]⟩
abbrev Gd:Jh:=⟨#[82,117,110,116,105,109,101,87,97,114,110,105,110,103]⟩
abbrev HC:Jh:=⟨#[83,121,110,116,97,120,87,97,114,110,105,110,103]⟩
abbrev Gf:Jh:=⟨#[85,110,105,99,111,100,101,87,97,114,110,105,110,103]⟩
abbrev Ig:Jh:=⟨#[85,115,101,114,87,97,114,110,105,110,103]⟩
abbrev Ij:Jh:=⟨#[66,108,111,99,107,105,110,103,73,79,69,114,114,111,114]⟩
abbrev F7:Jh:=⟨#[67,104,105,108,100,80,114,111,99,101,115,115,69,114,114,111,114]⟩
abbrev HJ:Jh:=⟨#[67,111,110,110,101,99,116,105,111,110,69,114,114,111,114]⟩
abbrev Gy:Jh:=⟨#[70,105,108,101,69,120,105,115,116,115,69,114,114,111,114]⟩
abbrev Il:Jh:=⟨#[70,105,108,101,78,111,116,70,111,117,110,100,69,114,114,111,114]⟩
abbrev GZ:Jh:=⟨#[73,110,116,101,114,114,117,112,116,101,100,69,114,114,111,114]⟩
abbrev HQ:Jh:=⟨#[73,115,65,68,105,114,101,99,116,111,114,121,69,114,114,111,114]⟩
abbrev Hj:Jh:=⟨#[78,111,116,65,68,105,114,101,99,116,111,114,121,69,114,114,111,114]⟩
abbrev Gz:Jh:=⟨#[80,101,114,109,105,115,115,105,111,110,69,114,114,111,114]⟩
abbrev Ha:Jh:=⟨#[80,114,111,99,101,115,115,76,111,111,107,117,112,69,114,114,111,114]⟩
abbrev Hr:Jh:=⟨#[84,105,109,101,111,117,116,69,114,114,111,114]⟩
abbrev HP:Jh:=⟨#[73,110,100,101,110,116,97,116,105,111,110,69,114,114,111,114]⟩
abbrev HH:Jh:=⟨#[95,73,110,99,111,109,112,108,101,116,101,73,110,112,117,116,69,114,114,111,114]⟩
abbrev Ia:Jh:=⟨#[73,110,100,101,120,69,114,114,111,114]⟩
abbrev Ee:Jh:=⟨#[75,101,121,69,114,114,111,114]⟩
abbrev Fk:Jh:=⟨#[77,111,100,117,108,101,78,111,116,70,111,117,110,100,69,114,114,111,114]⟩
abbrev ED:Jh:=⟨#[78,111,116,73,109,112,108,101,109,101,110,116,101,100,69,114,114,111,114]⟩
abbrev EI:Jh:=⟨#[80,121,116,104,111,110,70,105,110,97,108,105,122,97,116,105,111,110,69,114,114,111,114]⟩
abbrev Fm:Jh:=⟨#[82,101,99,117,114,115,105,111,110,69,114,114,111,114]⟩
abbrev ES:Jh:=⟨#[85,110,98,111,117,110,100,76,111,99,97,108,69,114,114,111,114]⟩
abbrev Fs:Jh:=⟨#[85,110,105,99,111,100,101,69,114,114,111,114]⟩
abbrev ER:Jh:=⟨#[66,114,111,107,101,110,80,105,112,101,69,114,114,111,114]⟩
abbrev Em:Jh:=⟨#[67,111,110,110,101,99,116,105,111,110,65,98,111,114,116,101,100,69,114,114,111,114]⟩
abbrev Et:Jh:=⟨#[67,111,110,110,101,99,116,105,111,110,82,101,102,117,115,101,100,69,114,114,111,114]⟩
abbrev Fw:Jh:=⟨#[67,111,110,110,101,99,116,105,111,110,82,101,115,101,116,69,114,114,111,114]⟩
abbrev EH:Jh:=⟨#[85,110,105,99,111,100,101,68,101,99,111,100,101,69,114,114,111,114]⟩
abbrev En:Jh:=⟨#[85,110,105,99,111,100,101,69,110,99,111,100,101,69,114,114,111,114]⟩
abbrev EV:Jh:=⟨#[85,110,105,99,111,100,101,84,114,97,110,115,108,97,116,101,69,114,114,111,114]⟩
abbrev Fe:Jh:=⟨#[69,120,99,101,112,116,105,111,110,71,114,111,117,112]⟩
abbrev EE:Jh:=⟨#[69,110,118,105,114,111,110,109,101,110,116,69,114,114,111,114]⟩
abbrev Es:Jh:=⟨#[99,111,112,121,114,105,103,104,116]⟩
def top(i:Nat):Stmt:=Kb.main.body.getD i (.Pass ⟨0,0,0,0⟩)
def parts:Stmt→List Stmt
  | .ClassDef _ _ _ b _ _ _ _ _ _ _=>b
  | _=>[]
def mem(i j:Nat):Stmt:=(parts (top i)).getD j (.Pass ⟨0,0,0,0⟩)
def D0:aR:=⟨⟨(aa,some (⟨#[95,95,105,110,105,116,95,95]⟩:Jh)),(⟨#[95,95,105,110,105,116,95,95]⟩:Jh),(⟨#[82,117,108,101,46,95,95,105,110,105,116,95,95]⟩:Jh),defArgs (mem 1 0),defBody (mem 1 0),defScope (mem 1 0),[],[(br,(.bl false)),(bL,(.bl true)),(bu,(.bl true)),(a7,(.bl false)),(cy,(.bl false))]⟩,[nX,br,bL,bu,a7,cy],[nX,br,bL,bu,a7,cy],false,none,false⟩
def D1:aR:=⟨⟨(aa,some BW),BW,(⟨#[82,117,108,101,46,95,95,101,113,95,95]⟩:Jh),defArgs (mem 1 1),defBody (mem 1 1),defScope (mem 1 1),[],[]⟩,[nX,(⟨#[111,116,104,101,114]⟩:Jh)],[nX,(⟨#[111,116,104,101,114]⟩:Jh)],false,none,false⟩
def D2:aR:=⟨⟨(aa,some BR),BR,(⟨#[82,117,108,101,46,95,95,114,101,112,114,95,95]⟩:Jh),defArgs (mem 1 2),defBody (mem 1 2),defScope (mem 1 2),[],[]⟩,[nX],[nX,(⟨#[102,105,114,115,116]⟩:Jh)],false,none,false⟩
def D3:aR:=⟨⟨(aa,some bO),bO,(⟨#[82,117,108,101,46,101,110,116,114,121]⟩:Jh),defArgs (mem 1 3),defBody (mem 1 3),defScope (mem 1 3),[],[]⟩,[DJ],[DJ],true,none,true⟩
def D4:aR:=⟨⟨(aa,some (⟨#[102,108,97,103]⟩:Jh)),(⟨#[102,108,97,103]⟩:Jh),(⟨#[82,117,108,101,46,102,108,97,103]⟩:Jh),defArgs (mem 1 4),defBody (mem 1 4),defScope (mem 1 4),[],[]⟩,[DJ],[DJ],true,none,true⟩
def D5:aR:=⟨⟨(aa,some Cp),Cp,(⟨#[82,117,108,101,46,122,101,114,111]⟩:Jh),defArgs (mem 1 5),defBody (mem 1 5),defScope (mem 1 5),[],[]⟩,[DJ],[DJ],true,none,true⟩
def D6:aR:=⟨⟨(aa,some br),br,(⟨#[82,117,108,101,46,98,101,108,111,119]⟩:Jh),defArgs (mem 1 6),defBody (mem 1 6),defScope (mem 1 6),[],[]⟩,[nX],[nX],true,none,false⟩
def D7:aR:=⟨⟨(aa,some bL),bL,(⟨#[82,117,108,101,46,110,111,110,101]⟩:Jh),defArgs (mem 1 7),defBody (mem 1 7),defScope (mem 1 7),[],[]⟩,[nX],[nX],true,none,false⟩
def D8:aR:=⟨⟨(aa,some bu),bu,(⟨#[82,117,108,101,46,115,97,109,101]⟩:Jh),defArgs (mem 1 8),defBody (mem 1 8),defScope (mem 1 8),[],[]⟩,[nX],[nX],true,none,false⟩
def D9:aR:=⟨⟨(aa,some a7),a7,(⟨#[82,117,108,101,46,97,98,111,118,101]⟩:Jh),defArgs (mem 1 9),defBody (mem 1 9),defScope (mem 1 9),[],[]⟩,[nX],[nX],true,none,false⟩
def Hb:aR:=⟨⟨(aa,some cy),cy,(⟨#[82,117,108,101,46,108,97,120]⟩:Jh),defArgs (mem 1 10),defBody (mem 1 10),defScope (mem 1 10),[],[]⟩,[nX],[nX],true,none,false⟩
def FV:aR:=⟨⟨(aa,some bX),bX,(⟨#[82,117,108,101,46,107,101,101,112,115]⟩:Jh),defArgs (mem 1 11),defBody (mem 1 11),defScope (mem 1 11),[],[]⟩,[nX,bU,bO],[nX,bU,bO],false,none,false⟩
def GX:aR:=⟨⟨(Ek,none),Ek,Ek,defArgs (top 3),defBody (top 3),defScope (top 3),[],[]⟩,[Av,Co],[Av,Co,(⟨#[95,108,97,119,95,99,101,108,108]⟩:Jh)],false,none,false⟩
def G9:aR:=⟨⟨(EG,none),EG,EG,defArgs (top 4),defBody (top 4),defScope (top 4),[],[]⟩,[yc,DQ],[yc,DQ,(⟨#[95,108,97,119,95,100,105,103,105,116]⟩:Jh),(⟨#[95,108,97,119,95,109,105,120,101,100]⟩:Jh)],false,none,false⟩
def Hv:aR:=⟨⟨(vL,none),vL,vL,defArgs (top 5),defBody (top 5),defScope (top 5),[],[]⟩,[yc,DN],[yc,DN],false,none,false⟩
def Hn:aR:=⟨⟨(xn,none),xn,xn,defArgs (top 6),defBody (top 6),defScope (top 6),[],[]⟩,[wC],[wC],false,none,false⟩
def GF:aR:=⟨⟨(wX,none),wX,wX,defArgs (top 7),defBody (top 7),defScope (top 7),[],[]⟩,[FH,wC,Bh],[FH,wC,Bh,(⟨#[95,108,97,119,95,119,111,114,100,115]⟩:Jh),(⟨#[95,108,97,119,95,111,110,101]⟩:Jh),(⟨#[95,108,97,119,95,116,119,111]⟩:Jh),(⟨#[95,108,97,119,95,100,117,101]⟩:Jh),(⟨#[46,48]⟩:Jh),(⟨#[95,108,97,119,95,107]⟩:Jh)],false,none,false⟩
def ph:aR:=⟨⟨(zO,none),zO,zO,defArgs (top 8),defBody (top 8),defScope (top 8),[],[]⟩,[Av],[Av,(⟨#[95,108,97,119,95,101,118,101,114,121]⟩:Jh),Co,yc,Bh,wC,(⟨#[95,108,97,119,95,116,117,114,110]⟩:Jh),(⟨#[95,108,97,119,95,111,110,101]⟩:Jh),(⟨#[95,108,97,119,95,116,119,111]⟩:Jh),(⟨#[46,48]⟩:Jh),(⟨#[95,108,97,119,95,107]⟩:Jh),(⟨#[95,108,97,119,95,106]⟩:Jh)],false,none,false⟩
def L:a3 where
  defs:=[D0,D1,D2,D3,D4,D5,D6,D7,D8,D9,Hb,FV,GX,G9,Hv,Hn,GF,ph]
  globs:=[(aa,(.glo aa))]
  frees:=[Fg,(⟨#[108,101,110]⟩:Jh),(⟨#[97,98,115]⟩:Jh),(⟨#[105,110,116]⟩:Jh),Fp,ET,(⟨#[115,116,114]⟩:Jh),(⟨#[109,97,120]⟩:Jh),(⟨#[109,105,110]⟩:Jh)]
  fixs:=[(Ek,12),(EG,13),(vL,14),(xn,15),(wX,16),(zO,17)]
  cixs:=[(aa,0)]
  mths:=[(BW,[(aa,1)]),(BR,[(aa,2)]),(bX,[(aa,11)])]
  prps:=[(br,[(aa,6)]),(bL,[(aa,7)]),(bu,[(aa,8)]),(a7,[(aa,9)]),(cy,[(aa,10)])]
  shapes:=[((0,1,[br,bL,bu,a7,cy]),(6,[])),((0,1,[]),(6,[(.bl false),(.bl true),(.bl true),(.bl false),(.bl false)])),((0,1,[cy,a7,bu,bL,br]),(6,[.scr,(.ref 4),(.ref 3),(.ref 2),(.ref 1),(.ref 0)])),((0,1,[a7]),(6,[.scr,(.bl false),(.bl true),(.bl true),(.ref 0),(.bl false)])),((0,1,[bu]),(6,[.scr,(.bl false),(.bl true),(.ref 0),(.bl false),(.bl false)])),((1,2,[]),(2,[])),((2,1,[]),(1,[])),((3,1,[]),(1,[])),((4,1,[]),(1,[])),((5,1,[]),(1,[])),((6,1,[]),(1,[])),((7,1,[]),(1,[])),((8,1,[]),(1,[])),((9,1,[]),(1,[])),((10,1,[]),(1,[])),((11,3,[]),(3,[])),((11,1,[bO,bU]),(3,[.scr,(.ref 1),(.ref 0)])),((12,2,[]),(2,[])),((13,2,[]),(2,[])),((14,2,[]),(2,[])),((15,1,[]),(1,[])),((16,3,[]),(3,[])),((17,1,[]),(1,[]))]
  nos:=[(aa,[au,aN,aK,aB,bq])]
  tabs:=[]
  vals:=[]
  cms:=[(bO,[(aa,3)]),((⟨#[102,108,97,103]⟩:Jh),[(aa,4)]),(Cp,[(aa,5)])]
def HW(D:aR):=(L.comp D).getD []
def tF(D:aR):WC.FI:=⟨D.ps.length,D.N.length,HW D⟩
def T:List WC.FI:=[tF D0,tF D1,tF D2,tF D3,tF D4,tF D5,tF D6,tF D7,tF D8,tF D9,tF Hb,tF FV,tF GX,tF G9,tF Hv,tF Hn,tF GF,tF ph]
theorem ID:∀ ds:List aR,(ds.all fun D=>(L.comp D).isSome)=true→eQ L ds (ds.map tF)
  | [],_=> .nil
  | D::ds,h=>by
    rw[Jt,Ji]at h
    refine .cons ?_ rfl rfl (ID ds h.2)
    show L.comp D=some (HW D)
    unfold HW
    cases e:L.comp D with
    | none=>have:=h.1; rw[e]at this; cases this
    | some x=>rfl
def Iz(D:aR):Bool:=match D.su with
  | none=>decide (D.d.scope.kind = .function∧D.d.scope.isCoroutine=false∧D.d.scope.isGenerator=false∧D.N.Nodup∧D.N.take D.ps.length=D.ps∧(∀ x∈D.ps,D.d.scope.names.lookup x=some .local∨D.d.scope.names.lookup x=some .cell)∧∀ y∈D.d.scope.names,y.2≠ .free)
  | some _=>decide (D.d.scope.kind = .function∧D.d.scope.isCoroutine=false∧D.d.scope.isGenerator=false∧D.N.Nodup∧D.N.take D.ps.length=D.ps∧(∀ x∈D.ps,D.d.scope.names.lookup x=some .local)∧(∀ z∈D.d.scope.names,z.2≠ .cell)∧(∀ z∈D.d.scope.names,z.2 = .free→z.1=("__class__" : Jh))∧D.d.scope.names.lookup ("super" : Jh)=some .globalImplicit∧D.d.scope.names.lookup ("__class__" : Jh)=some .free)
theorem IA:∀ ds:List aR,ds.all Iz=true→WC.qF lA ds
  | [],_=> .nil
  | D::ds,h=>by
    rw[Jt,Ji]at h
    refine .cons ?_ (IA ds h.2)
    have h1:=h.1
    unfold Iz at h1
    unfold lA
    cases e:D.su with
    | none=>
      rw[e]at h1
      obtain⟨a,b,c,d,e,f,i⟩:=of_decide_eq_true h1
      exact⟨a,b,c,d,e,f,i⟩
    | some z=>
      rw[e]at h1
      obtain⟨a,b,c,d,e,f,i,j,k,l⟩:=of_decide_eq_true h1
      exact⟨a,b,c,d,e,f,i,j,k,l⟩
theorem comp:eQ L L.defs T:=ID _ (by kernel_rfl)
theorem sc:WC.qF lA L.defs:=IA _ (by decide +kernel)
theorem h0(K:Jj)(a0:Addr):cF L K a0 ((0,1,[br,bL,bu,a7,cy]),(6,[])):=⟨D0,rfl,rfl,fun Q fd F=>a8 (F.fun rfl) fun kV doc pm an cdv ct us ws h1 h2=>match us,ws,h1,h2 with | [_],[_,_,_,_,_],_,_=>by kernel_rfl⟩
theorem h1(K:Jj)(a0:Addr):cF L K a0 ((0,1,[]),(6,[(.bl false),(.bl true),(.bl true),(.bl false),(.bl false)])):=⟨D0,rfl,rfl,fun Q fd F=>xG (F.fun rfl) (by intro z; cases z) rfl (fun μ H=> .cons .bl (.cons .bl (.cons .bl (.cons .bl (.cons .bl (.nil)))))) fun D doc pm an cdv ct us ks h1 h2=>match us,ks,h1,h2 with | [_],[_,_,_,_,_],_,_=>⟨_,_,_,_,_,_,rfl,rfl,⟨_,_,_,_,_,_,rfl,rfl,⟨_,_,_,_,_,_,rfl,rfl,⟨_,_,_,_,_,_,rfl,rfl,⟨_,_,_,_,_,_,rfl,rfl,rfl⟩⟩⟩⟩⟩⟩
theorem h2(K:Jj)(a0:Addr):cF L K a0 ((0,1,[cy,a7,bu,bL,br]),(6,[.scr,(.ref 4),(.ref 3),(.ref 2),(.ref 1),(.ref 0)])):=⟨D0,rfl,rfl,fun Q fd F=>j3 [.inl 4,.inl 3,.inl 2,.inl 1,.inl 0] (MQ (fun q=>(q.1,Nb K q.2)) ([]:List (Jh×Nj))) (F.fun rfl) (by intro z; cases z) (fun q hq=>by cases hq) (.key (.key (.key (.key (.key (.nil)))))) fun D doc pm an cdv ct us mv ws h1 h2 h3=>match us,mv,ws,h1,h2,h3 with | [_],[],[_,_,_,_,_],_,_,_=>by rfl⟩
theorem h3(K:Jj)(a0:Addr):cF L K a0 ((0,1,[a7]),(6,[.scr,(.bl false),(.bl true),(.bl true),(.ref 0),(.bl false)])):=⟨D0,rfl,rfl,fun Q fd F=>j3 [.inr 0,.inr 1,.inr 2,.inl 0,.inr 3] (MQ (fun q=>(q.1,Nb K q.2)) ([(br,(.bl false)),(bL,(.bl true)),(bu,(.bl true)),(cy,(.bl false))]:List (Jh×Nj))) (F.fun rfl) (by intro z; cases z) (fun q hq=>by rcases Jv.mp hq with rfl | hq; (· exact .head _); rcases Jv.mp hq with rfl | hq; (· exact .tail _ (.head _)); rcases Jv.mp hq with rfl | hq; (· exact .tail _ (.tail _ (.head _))); rcases Jv.mp hq with rfl | hq; (· exact .tail _ (.tail _ (.tail _ (.tail _ (.head _))))); cases hq) (.lit (fun _=>rfl) rfl (fun _ _=> .bl) (.lit (fun _=>rfl) rfl (fun _ _=> .bl) (.lit (fun _=>rfl) rfl (fun _ _=> .bl) (.key (.lit (fun _=>rfl) rfl (fun _ _=> .bl) (.nil)))))) fun D doc pm an cdv ct us mv ws h1 h2 h3=>match us,mv,ws,h1,h2,h3 with | [_],[_,_,_,_],[_],_,_,_=>by refine⟨_,_,_,_,_,_,rfl,rfl, ?_⟩; refine⟨_,_,_,_,_,_,rfl,rfl, ?_⟩; refine⟨_,_,_,_,_,_,rfl,rfl, ?_⟩; refine AZ (b:=_) rfl ?_; refine⟨_,_,_,_,_,_,rfl,rfl, ?_⟩; rfl⟩
theorem h4(K:Jj)(a0:Addr):cF L K a0 ((0,1,[bu]),(6,[.scr,(.bl false),(.bl true),(.ref 0),(.bl false),(.bl false)])):=⟨D0,rfl,rfl,fun Q fd F=>j3 [.inr 0,.inr 1,.inl 0,.inr 2,.inr 3] (MQ (fun q=>(q.1,Nb K q.2)) ([(br,(.bl false)),(bL,(.bl true)),(a7,(.bl false)),(cy,(.bl false))]:List (Jh×Nj))) (F.fun rfl) (by intro z; cases z) (fun q hq=>by rcases Jv.mp hq with rfl | hq; (· exact .head _); rcases Jv.mp hq with rfl | hq; (· exact .tail _ (.head _)); rcases Jv.mp hq with rfl | hq; (· exact .tail _ (.tail _ (.tail _ (.head _)))); rcases Jv.mp hq with rfl | hq; (· exact .tail _ (.tail _ (.tail _ (.tail _ (.head _))))); cases hq) (.lit (fun _=>rfl) rfl (fun _ _=> .bl) (.lit (fun _=>rfl) rfl (fun _ _=> .bl) (.key (.lit (fun _=>rfl) rfl (fun _ _=> .bl) (.lit (fun _=>rfl) rfl (fun _ _=> .bl) (.nil)))))) fun D doc pm an cdv ct us mv ws h1 h2 h3=>match us,mv,ws,h1,h2,h3 with | [_],[_,_,_,_],[_],_,_,_=>by refine⟨_,_,_,_,_,_,rfl,rfl, ?_⟩; refine⟨_,_,_,_,_,_,rfl,rfl, ?_⟩; refine AZ (b:=_) rfl ?_; refine⟨_,_,_,_,_,_,rfl,rfl, ?_⟩; refine⟨_,_,_,_,_,_,rfl,rfl, ?_⟩; rfl⟩
theorem h5(K:Jj)(a0:Addr):cF L K a0 ((1,2,[]),(2,[])):=⟨D1,rfl,rfl,fun Q fd F=>a8 (F.fun rfl) fun kV doc pm an cdv ct us ws h1 h2=>match us,ws,h1,h2 with | [_,_],[],_,_=>by kernel_rfl⟩
theorem h6(K:Jj)(a0:Addr):cF L K a0 ((2,1,[]),(1,[])):=⟨D2,rfl,rfl,fun Q fd F=>a8 (F.fun rfl) fun kV doc pm an cdv ct us ws h1 h2=>match us,ws,h1,h2 with | [_],[],_,_=>by kernel_rfl⟩
theorem h7(K:Jj)(a0:Addr):cF L K a0 ((3,1,[]),(1,[])):=⟨D3,rfl,rfl,fun Q fd F=>a8 (F.fun rfl) fun kV doc pm an cdv ct us ws h1 h2=>match us,ws,h1,h2 with | [_],[],_,_=>by kernel_rfl⟩
theorem h8(K:Jj)(a0:Addr):cF L K a0 ((4,1,[]),(1,[])):=⟨D4,rfl,rfl,fun Q fd F=>a8 (F.fun rfl) fun kV doc pm an cdv ct us ws h1 h2=>match us,ws,h1,h2 with | [_],[],_,_=>by kernel_rfl⟩
theorem h9(K:Jj)(a0:Addr):cF L K a0 ((5,1,[]),(1,[])):=⟨D5,rfl,rfl,fun Q fd F=>a8 (F.fun rfl) fun kV doc pm an cdv ct us ws h1 h2=>match us,ws,h1,h2 with | [_],[],_,_=>by kernel_rfl⟩
theorem ui(K:Jj)(a0:Addr):cF L K a0 ((6,1,[]),(1,[])):=⟨D6,rfl,rfl,fun Q fd F=>a8 (F.fun rfl) fun kV doc pm an cdv ct us ws h1 h2=>match us,ws,h1,h2 with | [_],[],_,_=>by kernel_rfl⟩
theorem DB(K:Jj)(a0:Addr):cF L K a0 ((7,1,[]),(1,[])):=⟨D7,rfl,rfl,fun Q fd F=>a8 (F.fun rfl) fun kV doc pm an cdv ct us ws h1 h2=>match us,ws,h1,h2 with | [_],[],_,_=>by kernel_rfl⟩
theorem z9(K:Jj)(a0:Addr):cF L K a0 ((8,1,[]),(1,[])):=⟨D8,rfl,rfl,fun Q fd F=>a8 (F.fun rfl) fun kV doc pm an cdv ct us ws h1 h2=>match us,ws,h1,h2 with | [_],[],_,_=>by kernel_rfl⟩
theorem Be(K:Jj)(a0:Addr):cF L K a0 ((9,1,[]),(1,[])):=⟨D9,rfl,rfl,fun Q fd F=>a8 (F.fun rfl) fun kV doc pm an cdv ct us ws h1 h2=>match us,ws,h1,h2 with | [_],[],_,_=>by kernel_rfl⟩
theorem Dz(K:Jj)(a0:Addr):cF L K a0 ((10,1,[]),(1,[])):=⟨Hb,rfl,rfl,fun Q fd F=>a8 (F.fun rfl) fun kV doc pm an cdv ct us ws h1 h2=>match us,ws,h1,h2 with | [_],[],_,_=>by kernel_rfl⟩
theorem Hq(K:Jj)(a0:Addr):cF L K a0 ((11,3,[]),(3,[])):=⟨FV,rfl,rfl,fun Q fd F=>a8 (F.fun rfl) fun kV doc pm an cdv ct us ws h1 h2=>match us,ws,h1,h2 with | [_,_,_],[],_,_=>by kernel_rfl⟩
theorem IY(K:Jj)(a0:Addr):cF L K a0 ((11,1,[bO,bU]),(3,[.scr,(.ref 1),(.ref 0)])):=⟨FV,rfl,rfl,fun Q fd F=>sU [.inl 1,.inl 0] (F.fun rfl) (.key (.key (.nil))) fun kV doc pm an cdv ct us ws h1 h2=>match us,ws,h1,h2 with | [_],[_,_],_,_=>by kernel_rfl⟩
theorem Ja(K:Jj)(a0:Addr):cF L K a0 ((12,2,[]),(2,[])):=⟨GX,rfl,rfl,fun Q fd F=>a8 (F.fun rfl) fun kV doc pm an cdv ct us ws h1 h2=>match us,ws,h1,h2 with | [_,_],[],_,_=>by kernel_rfl⟩
theorem Je(K:Jj)(a0:Addr):cF L K a0 ((13,2,[]),(2,[])):=⟨G9,rfl,rfl,fun Q fd F=>a8 (F.fun rfl) fun kV doc pm an cdv ct us ws h1 h2=>match us,ws,h1,h2 with | [_,_],[],_,_=>by kernel_rfl⟩
theorem IL(K:Jj)(a0:Addr):cF L K a0 ((14,2,[]),(2,[])):=⟨Hv,rfl,rfl,fun Q fd F=>a8 (F.fun rfl) fun kV doc pm an cdv ct us ws h1 h2=>match us,ws,h1,h2 with | [_,_],[],_,_=>by kernel_rfl⟩
theorem IZ(K:Jj)(a0:Addr):cF L K a0 ((15,1,[]),(1,[])):=⟨Hn,rfl,rfl,fun Q fd F=>a8 (F.fun rfl) fun kV doc pm an cdv ct us ws h1 h2=>match us,ws,h1,h2 with | [_],[],_,_=>by kernel_rfl⟩
theorem IQ(K:Jj)(a0:Addr):cF L K a0 ((16,3,[]),(3,[])):=⟨GF,rfl,rfl,fun Q fd F=>a8 (F.fun rfl) fun kV doc pm an cdv ct us ws h1 h2=>match us,ws,h1,h2 with | [_,_,_],[],_,_=>by kernel_rfl⟩
theorem IP(K:Jj)(a0:Addr):cF L K a0 ((17,1,[]),(1,[])):=⟨ph,rfl,rfl,fun Q fd F=>a8 (F.fun rfl) fun kV doc pm an cdv ct us ws h1 h2=>match us,ws,h1,h2 with | [_],[],_,_=>by kernel_rfl⟩
theorem sh(K:Jj)(a0:Addr):WC.qF (cF L K a0) L.shapes :=
  .cons (h0 K a0) (.cons (h1 K a0) (.cons (h2 K a0) (.cons (h3 K a0) (.cons (h4 K a0) (.cons (h5 K a0) (.cons (h6 K a0) (.cons (h7 K a0) (.cons (h8 K a0) (.cons (h9 K a0) (.cons (ui K a0) (.cons (DB K a0) (.cons (z9 K a0) (.cons (Be K a0) (.cons (Dz K a0) (.cons (Hq K a0) (.cons (IY K a0) (.cons (Ja K a0) (.cons (Je K a0) (.cons (IL K a0) (.cons (IZ K a0) (.cons (IQ K a0) (.cons (IP K a0) (.nil)))))))))))))))))))))))
theorem st:L.stat=true:=by decide +kernel
abbrev hk:M9:=He.hookX 6 L.facts L.fn L.ts [] L.ex
abbrev no:Str→Str→Bool:=L.no
abbrev tb:eX:=L.tab
abbrev PG:WC.Prog:=L.prog T
abbrev aj:Nat:=0
abbrev ak:Nat:=1
abbrev aT:Nat:=2
abbrev ip:Nat:=3
abbrev dv:Nat:=4
abbrev jo:Nat:=5
abbrev cq:Nat:=6
abbrev cN:Nat:=7
abbrev cP:Nat:=8
abbrev cw:Nat:=9
abbrev dk:Nat:=10
abbrev aI:Nat:=11
abbrev cI:Nat:=12
abbrev aG:Nat:=13
abbrev aY:Nat:=14
abbrev ay:Nat:=15
abbrev bw:Nat:=16
abbrev rh:Nat:=17
def cW(gc gm:Nat→AC):AS:=(ax (bZ (af 1) (jt (af 0) au no)) (ax (bZ (af 2) (jt (af 0) aN no)) (ax (bZ (af 3) (jt (af 0) aK no)) (ax (bZ (af 4) (jt (af 0) aB no)) (ax (bZ (af 5) (jt (af 0) bq no)) kP)))))
def dN(gc gm:Nat→AC):AS:=(ax (cO (fH (k6 (FD (kz (oV [(aa,[])]) (ae (af 1) (ae (kC (.glo aa)) ai))))) (fH (kB (aq (kF no (af 0) au) (kF no (af 1) au) cC)) (kB (aq (kF no (af 0) aN) (kF no (af 1) aN) cC)))) (ax (kR (kC (.bl false))) kP) kP) (ax (cO (fH (kB (aq (kF no (af 0) aK) (kF no (af 1) aK) cC)) (kB (aq (kF no (af 0) aB) (kF no (af 1) aB) cC))) (ax (kR (kC (.bl false))) kP) kP) (ax (kR (aq (kF no (af 0) bq) (kF no (af 1) bq) d4)) kP)))
def cX(gc gm:Nat→AC):AS:=(ax (bZ (jl [(kC (.str av)),(eS (kF no (af 0) au)),(kC (.str aX)),(eS (kF no (af 0) aN)),(kC (.str aZ)),(eS (kF no (af 0) aK))]) (aD 1)) (ax (kR (jl [(kC (.str aP)),(eS (af 1)),(kC (.str be)),(eS (kF no (af 0) aB)),(kC (.str bH)),(eS (kF no (af 0) bq)),(kC (.str lK))])) kP))
def mV(gc gm:Nat→AC):AS:=(ax (kR (i9 0 (mC ⟨gc,gm,no,tb,aE⟩ [] [(aa,(aj,6,1,[(.bl false),(.bl true),(.bl true),(.bl false),(.bl false)]))]) ai)) kP)
def pD(gc gm:Nat→AC):AS:=(ax (kR (i9 0 (mC ⟨gc,gm,no,tb,aE⟩ [a7] [(aa,(aj,6,1,[.scr,(.bl false),(.bl true),(.bl true),(.ref 0),(.bl false)]))]) (ae (kC (.bl true)) ai))) kP)
def oN(gc gm:Nat→AC):AS:=(ax (kR (i9 0 (mC ⟨gc,gm,no,tb,aE⟩ [bu] [(aa,(aj,6,1,[.scr,(.bl false),(.bl true),(.ref 0),(.bl false),(.bl false)]))]) (ae (kC (.bl false)) ai))) kP)
def d9(gc gm:Nat→AC):AS:=(ax (kR (kF no (af 0) au)) kP)
def fj(gc gm:Nat→AC):AS:=(ax (kR (kF no (af 0) aN)) kP)
def fK(gc gm:Nat→AC):AS:=(ax (kR (kF no (af 0) aK)) kP)
def eM(gc gm:Nat→AC):AS:=(ax (kR (kF no (af 0) aB)) kP)
def gX(gc gm:Nat→AC):AS:=(ax (kR (kF no (af 0) bq)) kP)
def eI(gc gm:Nat→AC):AS:=(ax (cO (kB (aq (af 1) (af 2) zC)) (ax (kR (kF no (af 0) au)) kP) kP) (ax (cO (kB (aq (af 1) (af 2) zh)) (ax (kR (kF no (af 0) aB)) kP) kP) (ax (kR (gj (kB (aq (af 1) (kC (.int 0)) d4)) (kF no (af 0) aN) (kF no (af 0) aK))) kP)))
def dQ(gc gm:Nat→AC):AS:=(ax (bZ (kC (.int 0)) (aD 2)) (ax (cO (kB (aq (af 1) (kz jA (ae (af 0) ai)) zC)) (ax (bZ (aq (af 0) (af 1) (c7 tb di)) (aD 2)) kP) kP) (ax (kR (kL (ae (aq (kz qo (ae (af 2) ai)) (kz u3 (ae (aq (kz qo (ae (af 2) ai)) (aq (kC (.int 10)) (kC (.int 18)) ki) F4) ai)) jC) (ae (aq (aq (aq (aq (aq (af 2) (kC (.int 2305843009213693951)) jG) (aq (kC (.int 8821)) (af 1) jC) dh) (kC (.int 43)) dh) (kC (.int 16807)) jC) (af 1) dh) (ae (kC (.int 0)) ai))))) kP)))
def dB(gc gm:Nat→AC):AS:=(ax (cO (kB (aq (aq (af 0) (kC (.int 0)) (c7 tb di)) (kC (.int 0)) zh)) (ax (bZ (aq (aq (af 0) (kC (.int 0)) (c7 tb di)) (af 1) jG) (aD 2)) (ax (bZ (aq (aq (af 0) (kC (.int 0)) (c7 tb di)) (af 1) jW) (pB (af 0) (kC (.int 0)))) (ax (kR (af 2)) kP))) kP) (ax (bZ (aq (aq (af 0) (kC (.int 2)) (c7 tb di)) (kC (.int 1)) dh) (pB (af 0) (kC (.int 2)))) (ax (bZ (aq (aq (aq (aq (af 0) (kC (.int 1)) (c7 tb di)) (aq (kC (.int 1000033)) (aq (af 0) (kC (.int 2)) (c7 tb di)) jC) dh) (kC (.int 3)) ki) (kC (.int 2305843009213693921)) jG) (aD 3)) (ax (bZ (aq (aq (aq (aq (af 3) (kC (.int 256)) jW) (aq (kC (.int 11)) (aq (af 0) (kC (.int 2)) (c7 tb di)) jC) dh) (kC (.int 2)) ki) (kC (.int 2147483629)) jG) (aD 3)) (ax (kR (aq (aq (af 3) (kC (.int 64)) jW) (af 1) jG)) kP)))))
def dP(gc gm:Nat→AC):AS:=(ax (kR (aq (af 1) (aF 2 2 [] (aA []) (gc aG) (ae (af 0) (ae (kz jA (ae (af 1) ai)) ai)) ai) (c7 tb di))) kP)
def fJ(gc gm:Nat→AC):AS:=(ax (kR (bC aa 6 1 [cy,a7,bu,bL,br] (fG [(.ref 4),(.ref 3),(.ref 2),(.ref 1),(.ref 0)]) (gm aj) ai (ae (aq (af 0) (kC (.int 4)) (c7 tb di)) (ae (aq (af 0) (kC (.int 3)) (c7 tb di)) (ae (aq (af 0) (kC (.int 2)) (c7 tb di)) (ae (aq (af 0) (kC (.int 1)) (c7 tb di)) (ae (aq (af 0) (kC (.int 0)) (c7 tb di)) ai))))))) kP)
def cV(gc gm:Nat→AC):AS:=(ax (cO (kB (aq (kz dg (ae (kL (ae (dz br (methP ⟨gc,gm,no,tb,aE⟩ [(aa,(cq,1,1,[]))]) no (af 0)) (ae (dz bL (methP ⟨gc,gm,no,tb,aE⟩ [(aa,(cN,1,1,[]))]) no (af 0)) (ae (dz bu (methP ⟨gc,gm,no,tb,aE⟩ [(aa,(cP,1,1,[]))]) no (af 0)) (ae (dz a7 (methP ⟨gc,gm,no,tb,aE⟩ [(aa,(cw,1,1,[]))]) no (af 0)) (ae (dz cy (methP ⟨gc,gm,no,tb,aE⟩ [(aa,(dk,1,1,[]))]) no (af 0)) ai)))))) ai)) (kz dg (ae (af 1) ai)) cC)) (ax (kR (kC (.bl false))) kP) kP) (ax (bZ (kL (ae (kC (.str av)) (ae (kC (.str aS)) (ae (kC (.str aW)) (ae (kC (.str aO)) (ae (kC (.str bp)) ai)))))) (aD 3)) (ax (cO (kB (aq (kz (nI true (methP ⟨gc,gm,no,tb,aE⟩ [(aa,(aT,1,1,[]))])) (ae (af 0) ai)) (aq (aq (kC (.str aP)) (mJ (kC (.str fx)) isStr (ae (eG ye (pM aE (rS eT (ae (kC (.int 5)) ai)) (aD 8) d7 (aq (aq (af 3) (af 8) (c7 tb di)) (kz lY (ae (aq (af 1) (af 8) (c7 tb di)) ai)) dh) [7,8])) ai) lV) dh) (kC (.str lK)) dh) cC)) (ax (kR (kC (.bl false))) kP) kP) (ax (fI ye (lF aE (iD (af 2)) (lP 2 (dM (aD 4) (dM (aD 5) mf))) (ax (bZ (gj (kB (aq (af 4) (af 5) zC)) (aq (af 1) (kC (.int 0)) (c7 tb di)) (gj (kB (aq (af 4) (af 5) zh)) (aq (af 1) (kC (.int 3)) (c7 tb di)) (gj (kB (aq (af 4) (kC (.int 0)) d4)) (aq (af 1) (kC (.int 1)) (c7 tb di)) (aq (af 1) (kC (.int 2)) (c7 tb di))))) (aD 6)) (ax (cO (kB (aq (kz dg (ae (kL (ae (eR bX (bz ⟨gc,gm,no,tb,aE⟩ [] [(aa,(aI,3,3,[]))]) (af 0) (ae (af 4) (ae (af 5) ai)) ai) (ae (eR bX (bz ⟨gc,gm,no,tb,aE⟩ [bO,bU] [(aa,(aI,3,1,[.scr,(.ref 1),(.ref 0)]))]) (af 0) ai (ae (af 5) (ae (af 4) ai))) ai))) ai)) (kz dg (ae (kL (ae (af 6) (ae (af 6) ai))) ai)) cC)) (ax (kR (kC (.bl false))) kP) kP) kP)))) (ax (kR (kC (.bl true))) kP)))))
def vv(gc gm:Nat→AC):AS:=(ax (bZ (pM aE (rS eT (ae (kC (.int 32)) ai)) (aD 10) d7 (eG ye (pM aE (rS eT (ae (kC (.int 5)) ai)) (aD 11) d7 (aq (aq (aq (af 10) (af 11) zo) (kC (.int 2)) jG) (kC (.int 1)) d4) [9,11])) [9,10]) (aD 1)) (ax (cO (fH (kB (aq (bC aa 6 1 [] (aA [(.bl false),(.bl true),(.bl true),(.bl false),(.bl false)]) (gm aj) ai ai) (aF 1 1 [] (aA []) (gc ay) (ae (kL (ae (kC (.bl false)) (ae (kC (.bl true)) (ae (kC (.bl true)) (ae (kC (.bl false)) (ae (kC (.bl false)) ai)))))) ai) ai) (cB true [(aa,[])] (methP ⟨gc,gm,no,tb,aE⟩ [(aa,(ak,2,2,[]))])))) (kB (aq (lu aa 1 (aA []) (gc ip)) (bC aa 6 1 [] (aA [(.bl false),(.bl true),(.bl true),(.bl false),(.bl false)]) (gm aj) ai ai) (cB true [(aa,[])] (methP ⟨gc,gm,no,tb,aE⟩ [(aa,(ak,2,2,[]))]))))) (ax (kR (kC (.bl false))) kP) kP) (ax (cO (kB (aq (lu aa 1 (aA []) (gc dv)) (bC aa 6 1 [a7] (fG [(.bl false),(.bl true),(.bl true),(.ref 0),(.bl false)]) (gm aj) ai (ae (kC (.bl true)) ai)) (cB true [(aa,[])] (methP ⟨gc,gm,no,tb,aE⟩ [(aa,(ak,2,2,[]))])))) (ax (kR (kC (.bl false))) kP) kP) (ax (cO (fH (kB (aq (lu aa 1 (aA []) (gc jo)) (bC aa 6 1 [bu] (fG [(.bl false),(.bl true),(.ref 0),(.bl false),(.bl false)]) (gm aj) ai (ae (kC (.bl false)) ai)) (cB true [(aa,[])] (methP ⟨gc,gm,no,tb,aE⟩ [(aa,(ak,2,2,[]))])))) (fH (kB (aq (bC aa 6 1 [] (aA [(.bl false),(.bl true),(.bl true),(.bl false),(.bl false)]) (gm aj) ai ai) (lu aa 1 (aA []) (gc dv)) (cB false [(aa,[])] (bz ⟨gc,gm,no,tb,aE⟩ [] [(aa,(ak,2,2,[]))])))) (fH (kB (aq (bC aa 6 1 [] (aA [(.bl false),(.bl true),(.bl true),(.bl false),(.bl false)]) (gm aj) ai ai) (kC .non) (cB false [(aa,[])] (bz ⟨gc,gm,no,tb,aE⟩ [] [(aa,(ak,2,2,[]))])))) (kB (aq (bC aa 6 1 [] (aA [(.bl false),(.bl true),(.bl true),(.bl false),(.bl false)]) (gm aj) ai ai) (kz (nI true (methP ⟨gc,gm,no,tb,aE⟩ [(aa,(aT,1,1,[]))])) (ae (bC aa 6 1 [] (aA [(.bl false),(.bl true),(.bl true),(.bl false),(.bl false)]) (gm aj) ai ai) ai)) (cB false [(aa,[])] (bz ⟨gc,gm,no,tb,aE⟩ [] [(aa,(ak,2,2,[]))]))))))) (ax (kR (kC (.bl false))) kP) kP) (ax (fI ye (lF aE (rS eT (ae (kz xU (ae (kC (.int 1)) (ae (kz uH (ae (kC (.int 4)) (ae (kz jA (ae (af 0) ai)) ai))) ai))) ai)) (aD 2) (ax (bZ (aF 2 2 [] (aA []) (gc cI) (ae (af 0) (ae (af 2) ai)) ai) (aD 3)) (ax (bZ (aq (eG ye (pM aE (rS eT (ae (kC (.int 9)) ai)) (aD 10) d7 (kT (ae (aF 2 2 [] (aA []) (gc aG) (ae (af 3) (ae (kC (.int 7)) ai)) ai) (ae (aF 2 2 [] (aA []) (gc aG) (ae (af 3) (ae (kC (.int 7)) ai)) ai) ai))) [9,10])) (kL (ae (kT (ae (kC (.int 0)) (ae (kC (.int 0)) ai))) (ae (kT (ae (kC (.int 0)) (ae (kC (.int 3)) ai))) (ae (kT (ae (kC (.int 3)) (ae (kC (.int 0)) ai))) (ae (kT (ae (kC (.int 2)) (ae (kC (.int 2)) ai))) ai))))) dh) (aD 4)) (ax (kE (mJ (af 4) cJ (ae (kT (ae (aq (aq (kC (.int 10)) (kC (.int 20)) ki) (aF 2 2 [] (aA []) (gc aG) (ae (af 3) (ae (kC (.int 3)) ai)) ai) dh) (ae (aq (aq (kC (.int 10)) (kC (.int 20)) ki) (aF 2 2 [] (aA []) (gc aG) (ae (af 3) (ae (kC (.int 3)) ai)) ai) dh) ai))) ai) iJ)) (ax (fI ye (lF aE (iD (af 1)) (aD 5) (ax (cO (k6 (FD (aF 3 3 [] (aA []) (gc bw) (ae (aF 1 1 [] (aA []) (gc ay) (ae (af 5) ai) ai) (ae (af 5) (ae (af 4) ai))) ai))) (ax (kR (kC (.bl false))) kP) kP) kP))) (ax (fI ye (lF aE (rS eT (ae (kC (.int 20)) ai)) (aD 6) (ax (l6 7 8 (ae (aF 2 2 [] (aA []) (gc aY) (ae (af 3) (ae (af 1) ai)) ai) (ae (aF 2 2 [] (aA []) (gc aY) (ae (af 3) (ae (af 1) ai)) ai) ai))) (ax (cO (fH (kB (aq (aq (aF 1 1 [] (aA []) (gc ay) (ae (af 7) ai) ai) (aF 1 1 [] (aA []) (gc ay) (ae (af 8) ai) ai) (cB false [(aa,[])] (bz ⟨gc,gm,no,tb,aE⟩ [] [(aa,(ak,2,2,[]))]))) (aq (af 7) (af 8) d4) cC)) (kB (aq (aq (aF 1 1 [] (aA []) (gc ay) (ae (af 7) ai) ai) (aF 1 1 [] (aA []) (gc ay) (ae (af 8) ai) ai) (cB true [(aa,[])] (methP ⟨gc,gm,no,tb,aE⟩ [(aa,(ak,2,2,[]))]))) (aq (af 7) (af 8) cC) cC))) (ax (kR (kC (.bl false))) kP) kP) kP)))) kP))))))) (ax (kR (kC (.bl true))) kP))))))
def Gt:FB:=fun gc gm i=>(cond (Ke 9 i) (cond (Ke 13 i) (cond (Ke 15 i) (cond (Ke 16 i) (cond (Ke 17 i) (a9 (vv gc gm) 12) (a9 (cV gc gm) 9)) (a9 (fJ gc gm) 1)) (cond (Ke 14 i) (a9 (dP gc gm) 2) (a9 (dB gc gm) 4))) (cond (Ke 11 i) (cond (Ke 12 i) (a9 (dQ gc gm) 3) (a9 (eI gc gm) 3)) (cond (Ke 10 i) (a9 (gX gc gm) 1) (a9 (eM gc gm) 1)))) (cond (Ke 4 i) (cond (Ke 6 i) (cond (Ke 7 i) (cond (Ke 8 i) (a9 (fK gc gm) 1) (a9 (fj gc gm) 1)) (a9 (d9 gc gm) 1)) (cond (Ke 5 i) (a9 (oN gc gm) 1) (a9 (pD gc gm) 1))) (cond (Ke 2 i) (cond (Ke 3 i) (a9 (mV gc gm) 1) (a9 (cX gc gm) 2)) (cond (Ke 1 i) (a9 (dN gc gm) 2) (a9 (cW gc gm) 6)))))
theorem IM(gc gm:Nat→AC)(as:List AV)(h:AH):(Kt 18).map (fun i=>PG.body gc gm i as h)=(Kt 18).map (fun i=>Gt gc gm i as h):=by kernel_rfl
theorem hG:∀ gc gm i as ah,PG.body gc gm i as ah=FZ 18 Gt gc gm i as ah :=
  vB (by kernel_rfl) fun i hi=>⟨fun gc gm as h=>by
    have e:=congrArg (fun l=>l[i]?) (IM gc gm as h)
    simp only[JN,K5 hi,K2]at e
    injection e⟩
abbrev tw(k:Nat):(Nat→AC)×(Nat→AC):=mZ (FZ 18 Gt) k
abbrev kW(n:Nat)(F:(Nat→AC)→(Nat→AC)→AS)(z:Nat):Prop:=∀(k:Nat)(as:List AV)(h:AH),(tw (k+1)).1 n as h=a9 (F (tw k).1 (tw k).2) z as h
theorem hV:kW aj cW 6:=λ_ _ _=>by kernel_rfl
theorem jf:kW ak dN 2:=λ_ _ _=>by kernel_rfl
theorem hI:kW aT cX 2:=λ_ _ _=>by kernel_rfl
theorem jI:kW cq d9 1:=λ_ _ _=>by kernel_rfl
theorem km:kW cN fj 1:=λ_ _ _=>by kernel_rfl
theorem j7:kW cP fK 1:=λ_ _ _=>by kernel_rfl
theorem jz:kW cw eM 1:=λ_ _ _=>by kernel_rfl
theorem lE:kW dk gX 1:=λ_ _ _=>by kernel_rfl
theorem jE:kW aI eI 3:=λ_ _ _=>by kernel_rfl
theorem jg:kW cI dQ 3:=λ_ _ _=>by kernel_rfl
theorem ff:kW aG dB 4:=λ_ _ _=>by kernel_rfl
theorem jh:kW aY dP 2:=λ_ _ _=>by kernel_rfl
theorem ku:kW ay fJ 1:=λ_ _ _=>by kernel_rfl
theorem gL:kW bw cV 9:=λ_ _ _=>by kernel_rfl
theorem vV:kW rh vv 12:=λ_ _ _=>by kernel_rfl
theorem FL:ph.ps=[ph.ps.headD ""]:=rfl
theorem hb (K:Jj) (fd:FuncData) (F:FunD K ph.d.name ph.d.qual ph.d.params ph.d.body ph.d.scope (ph.d.dvs K) (ph.d.kws K) (ph.ad K) fd) (s:Shared) (u:Value):BindsTo s fd ⟨[u],[]⟩ [(ph.ps.headD "",u)] :=
  L2.FunD.bindsA (ps:=[ph.ps.headD ""]) F (fun _ _ _ _ _ _ us hl=>match us,hl with | [_],_=>by kernel_rfl) s [u] rfl
end K08
namespace K08g
open PySem PySem.Spec PyProof.Rows L2 WC K08
local macro_rules
  | `(tactic| o_facts $x:ident) => `(tactic| simp only[fD,xZ,DT,B9,Bf,A3,A4,nG,nP,b8,eE,cn,bP,Dj,u9,nY,qh,AQ,xW,jJ,eA,rK,um,rN,q7,xu,rZ,qU,wZ,pF,gI,gz,kH,aw,cu,qP,eJ,oH,fB,ju,fS,l7,
    bK,bY,List.set_cons_zero,List.set_cons_succ,vN,Eh,w_lt,FG,kQ,xh,jT,oR,xj,vO,wM,uQ,pf,rn,uv,ia,nK,jN,oe,rB,iI,mY,sy,uw,qT,
    sE,jR,jS,rC,rL,sv,AY,
    List.map_cons,List.map_nil,List.length_cons,List.length_nil,List.cons_append,List.nil_append,Nat.reduceAdd,Nat.reduceSub,List.replicate_succ,List.replicate_zero])
local macro_rules
  | `(tactic| wp_walk using $ts,*) => `(tactic| simp only[fD,xZ,DT,B9,Bf,A3,A4,nG,nP,b8,eE,cn,bP,Dj,u9,nY,qh,AQ,xW,jJ,eA,rK,um,rN,q7,xu,rZ,qU,wZ,pF,gI,gz,kH,aw,cu,qP,eJ,oH,fB,ju,fS,l7,
    bK,bY,List.set_cons_zero,List.set_cons_succ,vN,Eh,w_lt,FG,kQ,xh,jT,oR,xj,vO,wM,uQ,pf,rn,uv,ia,nK,jN,oe,rB,iI,mY,sy,uw,qT,
    sE,jR,jS,rC,rL,sv,AY,C5,if_true,if_false,decide_true,decide_false,Bool.false_eq_true,Bool.not_true,Bool.not_false,
    EJ,Ea,EM,BB,Fb,Di,Cv,BZ,CL,yI,Ft,yW,rV,u7,GG,Bt,ym,Ep,Fn,z8,vD,B6,CI,t7,
    List.map_cons,List.map_nil,List.length_cons,List.length_nil,List.cons_append,List.nil_append,Nat.reduceAdd,Nat.reduceSub,List.replicate_succ,List.replicate_zero,$[$ts:term],*])
theorem draw_far(k:Nat)(h:AH)(r:Nat)(a b c n:Int)(hr:h.get r=some (.lst [.int a,.int b,.int c]))(ha:0<a)(hn:0<n)(hn2:n<1073741824) :
  (tw (k+1)).1 aG [.ref r,.int n] h = .ok (.int (a.fmod n)) (h.set r (.lst [.int (a.fdiv n),.int b,.int c])):=by
 rw[ff];unfold a9 dB gh;o_facts ws;have x0:atI [AV.int a,AV.int b,AV.int c] 0=some (.int a):=vD _ _;have i0:ixN [AV.int a,AV.int b,AV.int c].length 0=some 0:=rfl;simp only[cv tb r _ 0 _ hr x0,aw,vN,eJ,ha,decide_true,if_true,j4 a n (by omega),mM a n (by omega) (by omega),vS r _ 0 0 _ hr i0,JP,bK,bY]
 o_facts ws
theorem fmod_bd(a:Int){b:Int}(hb:0<b):0≤a.fmod b∧a.fmod b<b:=by
 rw[Int.fmod_eq_emod_of_nonneg _ (Mm hb)];exact⟨Int.emod_nonneg _ (by omega),Int.emod_lt_of_pos _ hb⟩
theorem fdiv_bd{a b:Int}(ha:0≤a)(hb:0<b):0≤a.fdiv b∧a.fdiv b≤a:=by
 rw[Int.fdiv_eq_ediv_of_nonneg _ (Mm hb)];exact⟨Int.ediv_nonneg ha (Mm hb),Int.ediv_le_self _ ha⟩
theorem draw_near(k:Nat)(h:AH)(r:Nat)(a b c n:Int)(hr:h.get r=some (.lst [.int a,.int b,.int c]))(ha:¬ 0<a)(hn:0<n)(hb:0≤b)(hb2:b<2 ^ 80)(hc:0≤c)(hc2:c<2 ^ 62) :
  ∃ d:Int,0≤d∧d<n∧(tw (k+1)).1 aG [.ref r,.int n] h = .ok (.int d) (h.set r (.lst [.int a,.int b,.int (c+1)])):=by
 rw[ff];unfold a9 dB gh;o_facts ws;have x0:atI [AV.int a,AV.int b,AV.int c] 0=some (.int a):=vD _ _;have x2:atI [AV.int a,AV.int b,AV.int c] 2=some (.int c):=rfl;have i2:ixN [AV.int a,AV.int b,AV.int c].length 2=some 2:=rfl;have hr':(h.set r (.lst [.int a,.int b,.int (c+1)])).get r=some (.lst [.int a,.int b,.int (c+1)]):=bI _ _ _;have y1:atI [AV.int a,AV.int b,AV.int (c+1)] 1=some (.int b):=rfl;have y2:atI [AV.int a,AV.int b,AV.int (c+1)] 2=some (.int (c+1)):=rfl;simp only[cv tb r _ 0 _ hr x0,aw,vN,eJ,ha,decide_false,Jp,if_false];generalize hH:h.set r (.lst [.int a,.int b,.int (c+1)])=H at *;have st:dE (.ref r) (.int 2) (.int (c+1)) h = .ok .non H:=by rw[vS r _ 2 2 _ hr i2,←hH]; rfl
 have hbl:(b+1000033 * (c+1)).natAbs<2 ^ 512:=by
  have e2:(2:Nat) ^ 200≤2 ^ 512:=by decide
  have e3:b+1000033 * (c+1)<2 ^ 200:=by omega
  have e4:0≤b+1000033 * (c+1):=by omega
  have e5:((b+1000033 * (c+1)).natAbs:Int)<((2 ^ 200:Nat):Int):=by
   rw[LM e4];exact e3
  omega
 simp only[aw,bK,bY,cv tb r _ 2 _ hr x2,kQ,st,cv tb r _ 2 _ hr' y2,cv tb r _ 1 _ hr' y1,JP,JZ];rw[lg 1000033 (c+1) (.inl (by decide)),aw]
 simp only[aw,kQ];rw[nz _ 3 (by decide) (by decide) hbl,aw,j4 _ 2305843009213693921 (by decide)]
 obtain⟨f1,f2⟩:=fmod_bd ((b+1000033 * (c+1)) ^ (3:Int).toNat) (b:=2305843009213693921) (by decide)
 generalize hf:((b+1000033 * (c+1)) ^ (3:Int).toNat).fmod 2305843009213693921=found at *;obtain⟨g1,g2⟩:=fdiv_bd (a:=found) (b:=256) f1 (by decide)
 simp only[aw,bK,bY,JP,JZ,cv tb r _ 2 _ hr' y2];rw[mM found 256 (by decide) (by decide),aw,cv tb r _ 2 _ hr' y2,aw,lg 11 (c+1) (.inl (by decide)),aw]
 simp only[aw,kQ];have hbl2:(found.fdiv 256+11 * (c+1)).natAbs<2 ^ 512:=by
  have e2:(2:Nat) ^ 200≤2 ^ 512:=by decide
  have e3:found.fdiv 256+11 * (c+1)<2 ^ 200:=by omega
  have e4:0≤found.fdiv 256+11 * (c+1):=by omega
  have e5:((found.fdiv 256+11 * (c+1)).natAbs:Int)<((2 ^ 200:Nat):Int):=by
   rw[LM e4];exact e3
  omega
 rw[nz _ 2 (by decide) (by decide) hbl2,aw,j4 _ 2147483629 (by decide)]
 generalize ((found.fdiv 256+11 * (c+1)) ^ (2:Int).toNat).fmod 2147483629=fin;simp only[aw,bK,bY,JP,JZ];rw[mM fin 64 (by decide) (by decide),aw,j4 _ n (by omega),aw,fS]
 obtain⟨z1,z2⟩:=fmod_bd (fin.fdiv 64) hn;exact⟨_,z1,z2,rfl⟩
theorem draw_ok(K:Nat)(h:AH)(r m:Nat)(n:Int)(s:Src h r m)(hn:0<n)(hn2:n<1073741824)(hm:m<100000) :
  ∃(d:Int) (h':AH),(tw (K+1)).1 aG [.ref r,.int n] h = .ok (.int d) h'∧0≤d∧d<n∧Src h' r (m+1)∧Mod [r] h h'∧h'.n=h.n:=by
 obtain⟨a,b,c,g,b1,b2,c1,c2⟩:=s;by_cases ha:0<a
 ·refine⟨_,_,draw_far K h r a b c n g ha hn hn2,(fmod_bd a hn).1,(fmod_bd a hn).2,⟨_,b,c,bI _ _ _,b1,b2,c1,by omega⟩,Mod.set (J8.mpr rfl) _,rfl⟩
 ·obtain⟨d,d1,d2,e⟩:=draw_near K h r a b c n g ha hn b1 b2 c1 (by omega)
  exact⟨d,_,e,d1,d2,⟨a,b,c+1,bI _ _ _,b1,b2,by omega,by omega⟩,Mod.set (J8.mpr rfl) _,rfl⟩
theorem choice_ok(K:Nat)(h:AH)(r m l:Nat)(xs:List AV)(s:Src h r m)(g:h.get l=some (.lst xs))(hlt:l<h.n)(hl:l≠r)(hx:0<xs.length)(hx2:xs.length<1000)(hm:m<100000) :
  ∃(v:AV) (h':AH),(tw (K+2)).1 aY [.ref r,.ref l] h = .ok v h'∧v∈xs∧Src h' r (m+1)∧Mod [r] h h'∧h'.n=h.n:=by
 obtain⟨d,h',e,d1,d2,s',M,hn⟩:=draw_ok K h r m xs.length s (by omega) (by omega) hm
 obtain⟨i,rfl⟩:=Int.eq_ofNat_of_zero_le d1;have hi:i<xs.length:=by omega
 refine⟨xs[i],h', ?_,List.getElem_mem hi,s',M,hn⟩;rw[jh];unfold a9 dP gh;o_facts ws;rw[Dh _ _ g];o_facts ws;rw[e];o_facts ws;have g':h'.get l=some (.lst xs):=(M.get l hlt (by simp; exact hl)).trans g
 rw[cv tb l xs _ xs[i] g' (by rw[WC.atI_nat]; exact Jz hi)]
 o_facts ws
theorem w_aMeth{s:az}{h:AH}(mth:Str)(tab:Str→Option bg)(fo:AE)(fa fk:AL):eR mth tab fo fa fk s h=(fo s h).bind fun v h1=>match v with
 | .ref n=>(match h1.get n with
  | some (.ins C fs)=>(match tab C with
   | some i=>(match fs.lookup mth with
    | none=>(fa s h1).bind fun as h2=>(fk s h2).bind fun zs h3=>aL i.n i.m i.ks i.gA i.g (.ref n::as) zs h3
    | some _=> .stuck)
   | none=> .stuck)
  | _=> .stuck)
 | _=> .stuck:=nr rfl
theorem w_aMakeG{s:az}{h:AH}(C:Str)(n m:Nat)(ks:List Str)(gA:List AV→List AV→List AV)(g:AC)(fa fk:AL):bC C n m ks gA g fa fk s h=(fa s h).bind fun as h1=>(fk s h1).bind fun zs h2=>dD C n m ks gA g as zs h2:=nr rfl
theorem fld_ok{h:AH}{n:Nat}{C:Str}{fs:List (Str×AV)}{name:Str}{v:AV}(g:h.get n=some (.ins C fs))(hn:no C name=true)(hl:fs.lookup name=some v):bT name no (.ref n) h = .ok v h:=by
 unfold bT;simp only[g];rw[if_pos hn,hl]
theorem w_gaFld{s:az}{h:AH}(f:AE)(name:Str)(no:Str→Str→Bool)(v:AV):jt f name no v s h=(f s h).bind fun o h1=>(mq name no v o h1).bind fun _ h2=> .ok s h2:=nr rfl
theorem w_setF{h:AH}{n:Nat}{C:Str}{fs:List (Str×AV)}(name:Str)(no:Str→Str→Bool)(w:AV)(g:h.get n=some (.ins C fs))(hn:no C name=true)(hl:fs.length<1000):mq name no w (.ref n) h = .ok .non (h.set n (.ins C (iu name w fs))):=by
 unfold mq;simp only[g,hn,if_true];rw[if_pos hl]
theorem fset_ex{h:AH}{q:Nat}{C:Str}{fs:List (Str×AV)}(name:Str)(v:AV)(fs':List (Str×AV))(g:h.get q=some (.ins C fs))(hn:no C name=true)(hl:fs.length<1000)(ep:iu name v fs=fs'):∃ h',mq name no v (.ref q) h = .ok .non h'∧h'.n=h.n∧h'.get q=some (.ins C fs')∧Mod [q] h h':=by
 refine⟨_,w_setF name no v g hn hl,rfl, ?_,Mod.set (J8.mpr rfl) _⟩;rw[ep]; exact bI _ _ _
def rF(b:Bool×Bool×Bool×Bool×Bool):List (Str×AV):=[(au,.bl b.1),(aN,.bl b.2.1),(aK,.bl b.2.2.1),(aB,.bl b.2.2.2.1),(bq,.bl b.2.2.2.2)]
def bV(b:Bool×Bool×Bool×Bool×Bool):List AV:=[.bl b.1,.bl b.2.1,.bl b.2.2.1,.bl b.2.2.2.1,.bl b.2.2.2.2]
def RuleAt(h:AH)(r:Nat)(b:Bool×Bool×Bool×Bool×Bool):Prop:=h.get r=some (.ins aa (rF b))
theorem init_ok(K:Nat)(h:AH)(r:Nat)(b:Bool×Bool×Bool×Bool×Bool)(g:h.get r=some (.ins aa [])):∃ h',(tw (K+1)).1 aj (.ref r::bV b) h = .ok .non h'∧h'.n=h.n∧RuleAt h' r b∧Mod [r] h h':=by
 obtain⟨b0,b1,b2,b3,b4⟩:=b;unfold bV;rw[hV];unfold a9 cW gh;obtain⟨h1,e1,n1,g1,X1⟩:=fset_ex au (.bl b0) [(au,.bl b0)] g (by kernel_rfl) (Jk rfl) (by kernel_rfl)
 obtain⟨h2,e2,n2,g2,X2⟩:=fset_ex aN (.bl b1) [(au,.bl b0),(aN,.bl b1)] g1 (by kernel_rfl) (Jk rfl) (by kernel_rfl)
 obtain⟨h3,e3,n3,g3,X3⟩:=fset_ex aK (.bl b2) [(au,.bl b0),(aN,.bl b1),(aK,.bl b2)] g2 (by kernel_rfl) (Jk rfl) (by kernel_rfl)
 obtain⟨h4,e4,n4,g4,X4⟩:=fset_ex aB (.bl b3) [(au,.bl b0),(aN,.bl b1),(aK,.bl b2),(aB,.bl b3)] g3 (by kernel_rfl) (Jk rfl) (by kernel_rfl)
 obtain⟨h5,e5,n5,g5,X5⟩:=fset_ex bq (.bl b4) [(au,.bl b0),(aN,.bl b1),(aK,.bl b2),(aB,.bl b3),(bq,.bl b4)] g4 (by kernel_rfl) (Jk rfl) (by kernel_rfl)
 refine⟨h5, ?_,by omega,g5,(((X1.trans X2).trans X3).trans X4).trans X5⟩
 o_facts ws;simp only[aw,w_gaFld,bK,bY,e1,e2,e3,e4,e5];o_facts ws
theorem make_ok(K:Nat)(h:AH)(b:Bool×Bool×Bool×Bool×Bool)(ks:List Str)(gA:List AV→List AV→List AV)(zs:List AV)(hz:zs.length=ks.length)(hg:∀ r,gA [.ref r] zs = .ref r::bV b) :
  ∃ h',dD aa 6 1 ks gA ((tw (K+1)).1 aj) [] zs h = .ok (.ref h.n) h'∧h'.n=h.n+1∧RuleAt h' h.n b∧Gro h h':=by
 obtain⟨h',e,n1,g1,X⟩:=init_ok K (h.push (.ins aa [])) h.n b (bb _ _);refine⟨h', ?_,by rw[n1]; rfl,g1,(Mod.gro ⟨Js (Lf _) X.le,X.scr,fun i hi _=> ?_⟩)⟩
 ·unfold dD aL;rw[if_pos (show[AV.ref h.n].length=1 from rfl),if_pos hz,hg]
  rw[if_pos (show(AV.ref h.n::bV b).length=6 from rfl),e,aw]
 ·rw[X.get i (by rw[BI]; omega) (by simp; omega),AH.cM,if_neg (by omega)]
theorem RuleAt.gro{h h':AH}{r:Nat}{b}(x:RuleAt h r b)(G:Gro h h')(hr:r<h.n):RuleAt h' r b:=(G.get r hr).trans x
def eqB(b c:Bool×Bool×Bool×Bool×Bool):Bool:=decide (b=c)
theorem isiR{h:AH}{r:Nat}{b}(x:RuleAt h r b):oV [(aa,[])] [.ref r,.glo aa] h = .ok (.bl true) h:=by
 have x':h.get r=some (.ins aa (rF b)):=x;show(match h.get r with
   | some (AO.ins D fs)=>if (Kp D [(aa,([]:List Str))]).isSome=true∧(Kp aa [(aa,([]:List Str))]).isSome=true then Ex.ok (AV.bl (jD [(aa,[])] D aa)) h else Ex.stuck
   | _=>Ex.stuck)=_
 simp only[x'];rfl
theorem eq_ok(K:Nat){h:AH}{r q:Nat}{b c:Bool×Bool×Bool×Bool×Bool}(x:RuleAt h r b)(y:RuleAt h q c):(tw (K+1)).1 ak [.ref r,.ref q] h = .ok (.bl (eqB b c)) h:=by
 obtain⟨b0,b1,b2,b3,b4⟩:=b;obtain⟨c0,c1,c2,c3,c4⟩:=c;rw[jf];unfold a9 dN gh;o_facts ws;rw[isiR y];simp only[aw,qP,eJ,bK,bY];have x0:bT au no (.ref r) h = .ok (.bl b0) h:=fld_ok x (by kernel_rfl) (by kernel_rfl)
 have x1:bT aN no (.ref r) h = .ok (.bl b1) h:=fld_ok x (by kernel_rfl) (by kernel_rfl)
 have x2:bT aK no (.ref r) h = .ok (.bl b2) h:=fld_ok x (by kernel_rfl) (by kernel_rfl)
 have x3:bT aB no (.ref r) h = .ok (.bl b3) h:=fld_ok x (by kernel_rfl) (by kernel_rfl)
 have x4:bT bq no (.ref r) h = .ok (.bl b4) h:=fld_ok x (by kernel_rfl) (by kernel_rfl)
 have y0:bT au no (.ref q) h = .ok (.bl c0) h:=fld_ok y (by kernel_rfl) (by kernel_rfl)
 have y1:bT aN no (.ref q) h = .ok (.bl c1) h:=fld_ok y (by kernel_rfl) (by kernel_rfl)
 have y2:bT aK no (.ref q) h = .ok (.bl c2) h:=fld_ok y (by kernel_rfl) (by kernel_rfl)
 have y3:bT aB no (.ref q) h = .ok (.bl c3) h:=fld_ok y (by kernel_rfl) (by kernel_rfl)
 have y4:bT bq no (.ref q) h = .ok (.bl c4) h:=fld_ok y (by kernel_rfl) (by kernel_rfl)
 unfold eqB;by_cases z0:b0=c0<;>by_cases z1:b1=c1<;>by_cases z2:b2=c2<;>by_cases z3:b3=c3<;>by_cases z4:b4=c4<;>wp_walk using x0,x1,x2,x3,x4,y0,y1,y2,y3,y4,z0,z1,z2,z3,z4,eq_self,L4,and_true,true_and,and_false,false_and
theorem eqO_rr{K:Nat}{neg:Bool}{h:AH}{r q:Nat}{b c:Bool×Bool×Bool×Bool×Bool}(x:RuleAt h r b)(y:RuleAt h q c){tab:Str→Option bg}(ht:tab aa=some ⟨2,2,[],aA [],(tw (K+1)).1 ak⟩) :
  cB neg [(aa,[])] tab (.ref r) (.ref q) h = .ok (.bl (if neg=true then !eqB b c else eqB b c)) h:=by
 unfold cB;simp only[show h.get r=some (.ins aa (rF b))from x,show h.get q=some (.ins aa (rF c))from y]
 rw[if_pos ⟨rfl,rfl⟩,if_neg (fun z=>z.1 rfl),ht]
 show(aL 2 2 [] (aA []) ((tw (K+1)).1 ak) [.ref r,.ref q] [] h).bind _=_;rw[jS,eq_ok K x y];rfl
theorem atI_b(b:Bool×Bool×Bool×Bool×Bool):atI (bV b) 0=some (.bl b.1)∧atI (bV b) 1=some (.bl b.2.1)∧atI (bV b) 2=some (.bl b.2.2.1)∧atI (bV b) 3=some (.bl b.2.2.2.1)∧atI (bV b) 4=some (.bl b.2.2.2.2):=⟨by kernel_rfl,by kernel_rfl,by kernel_rfl,by kernel_rfl,by kernel_rfl⟩
theorem rule_ok(K:Nat){h:AH}{l:Nat}{b:Bool×Bool×Bool×Bool×Bool}(g:h.get l=some (.lst (bV b))):∃ h',(tw (K+3)).1 ay [.ref l] h = .ok (.ref h.n) h'∧h'.n=h.n+1∧RuleAt h' h.n b∧Gro h h':=by
 obtain⟨i0,i1,i2,i3,i4⟩:=atI_b b;obtain⟨h',e,n1,r,G⟩:=make_ok K h b [cy,a7,bu,bL,br] (fG [(.ref 4),(.ref 3),(.ref 2),(.ref 1),(.ref 0)]) [.bl b.2.2.2.2,.bl b.2.2.2.1,.bl b.2.2.1,.bl b.2.1,.bl b.1] rfl (fun r=>by kernel_rfl)
 refine⟨h', ?_,n1,r,G⟩;rw[ku];unfold a9 fJ gh;o_facts ws;simp only[w_aMakeG,cn,bP,eA,eE,bK,bY,aw,cu,cv tb l _ _ _ g i0,cv tb l _ _ _ g i1,cv tb l _ _ _ g i2,cv tb l _ _ _ g i3,cv tb l _ _ _ g i4];have e':dD aa 6 1 [cy,a7,bu,bL,br] (fG [(.ref 4),(.ref 3),(.ref 2),(.ref 1),(.ref 0)]) ((tw (K+2)).2 aj) [] [.bl b.2.2.2.2,.bl b.2.2.2.1,.bl b.2.2.1,.bl b.2.1,.bl b.1] h = .ok (.ref h.n) h':=e;rw[e'];o_facts ws
theorem prop_ok(K:Nat){h:AH}{r:Nat}{b:Bool×Bool×Bool×Bool×Bool}(x:RuleAt h r b):(tw (K+1)).1 cq [.ref r] h = .ok (.bl b.1) h∧(tw (K+1)).1 cN [.ref r] h = .ok (.bl b.2.1) h∧(tw (K+1)).1 cP [.ref r] h = .ok (.bl b.2.2.1) h∧(tw (K+1)).1 cw [.ref r] h = .ok (.bl b.2.2.2.1) h∧(tw (K+1)).1 dk [.ref r] h = .ok (.bl b.2.2.2.2) h:=by
 refine⟨?_, ?_, ?_, ?_, ?_⟩
 ·rw[jI];unfold a9 d9 gh;wp_walk using(fld_ok x (by kernel_rfl) (by kernel_rfl):bT au no (.ref r) h = .ok (.bl b.1) h)
 ·rw[km];unfold a9 fj gh;wp_walk using(fld_ok x (by kernel_rfl) (by kernel_rfl):bT aN no (.ref r) h = .ok (.bl b.2.1) h)
 ·rw[j7];unfold a9 fK gh;wp_walk using(fld_ok x (by kernel_rfl) (by kernel_rfl):bT aK no (.ref r) h = .ok (.bl b.2.2.1) h)
 ·rw[jz];unfold a9 eM gh;wp_walk using(fld_ok x (by kernel_rfl) (by kernel_rfl):bT aB no (.ref r) h = .ok (.bl b.2.2.2.1) h)
 ·rw[lE];unfold a9 gX gh;wp_walk using(fld_ok x (by kernel_rfl) (by kernel_rfl):bT bq no (.ref r) h = .ok (.bl b.2.2.2.2) h)
theorem propR{K:Nat}{h:AH}{r i:Nat}{b v}(x:RuleAt h r b)(name:Str){tab:Str→Option bg}(ht:tab aa=some ⟨1,1,[],aA [],(tw (K+1)).1 i⟩)(hv:(tw (K+1)).1 i [.ref r] h = .ok v h)(s:az)(f:AE)(hf:f s h = .ok (.ref r) h): dz name tab no f s h = .ok v h:=by
 rw[Ab,hf,aw];simp only[show h.get r=some (.ins aa (rF b))from x,ht]
 rw[jR,hv]
def due(b:Bool×Bool×Bool×Bool×Bool)(i j:Int):Bool:=if i<j then b.1 else if i > j then b.2.2.2.1 else if i=0 then b.2.1 else b.2.2.1
theorem keeps_ok(K:Nat){h:AH}{r:Nat}{b:Bool×Bool×Bool×Bool×Bool}(x:RuleAt h r b)(i j:Int):(tw (K+1)).1 aI [.ref r,.int i,.int j] h = .ok (.bl (due b i j)) h:=by
 rw[jE];unfold a9 eI gh due;have x0:bT au no (.ref r) h = .ok (.bl b.1) h:=fld_ok x (by kernel_rfl) (by kernel_rfl)
 have x1:bT aN no (.ref r) h = .ok (.bl b.2.1) h:=fld_ok x (by kernel_rfl) (by kernel_rfl)
 have x2:bT aK no (.ref r) h = .ok (.bl b.2.2.1) h:=fld_ok x (by kernel_rfl) (by kernel_rfl)
 have x3:bT aB no (.ref r) h = .ok (.bl b.2.2.2.1) h:=fld_ok x (by kernel_rfl) (by kernel_rfl)
 by_cases z0:i<j
 ·wp_walk using x0,x1,x2,x3,z0
 ·by_cases z1:j<i
  ·wp_walk using x0,x1,x2,x3,z0,z1,gt_iff_lt
  ·by_cases z2:i=0
   ·wp_walk using x0,x1,x2,x3,z0,z1,gt_iff_lt,z2;simp only[z2]at z0 z1;wp_walk using z0,z1,x1
   ·wp_walk using x0,x1,x2,x3,z0,z1,gt_iff_lt,z2
def tB(b:Bool):Str:=if b=true then("True" : Str)else("False" : Str)
def ruleT(b:Bool×Bool×Bool×Bool×Bool):Str:=((((((Str.empty++aP)++((((((Str.empty++av)++tB b.1)++aX)++tB b.2.1)++aZ)++tB b.2.2.1))++be)++tB b.2.2.2.1)++bH)++tB b.2.2.2.2)++lK
theorem js_cons{f:AE}{fs:List AE}{acc y:Str}{s:az}{h:AH}(e:f s h = .ok (.str y) h)(hl:(acc++y).length≤1000000):EN (f::fs) acc s h=EN fs (acc++y) s h:=by
 show(f s h).bind _=_;rw[e,aw];exact if_pos hl
theorem fmt_bl{f:AE}{b:Bool}{s:az}{h:AH}(e:f s h = .ok (.bl b) h):eS f s h = .ok (.str (tB b)) h:=by
 unfold eS;rw[e,aw];rfl
theorem fmt_str{f:AE}{y:Str}{s:az}{h:AH}(e:f s h = .ok (.str y) h)(hy:y.length≤1000000):eS f s h = .ok (.str y) h:=by
 unfold eS;rw[e,aw];exact if_pos hy
def headT(b:Bool×Bool×Bool×Bool×Bool):Str:=(((((Str.empty++av)++tB b.1)++aX)++tB b.2.1)++aZ)++tB b.2.2.1
theorem repr_rule(K:Nat){h:AH}{r:Nat}{b:Bool×Bool×Bool×Bool×Bool}(x:RuleAt h r b):(tw (K+1)).1 aT [.ref r] h = .ok (.str (ruleT b)) h:=by
 rw[hI];unfold a9 cX gh;have x0:bT au no (.ref r) h = .ok (.bl b.1) h:=fld_ok x (by kernel_rfl) (by kernel_rfl)
 have x1:bT aN no (.ref r) h = .ok (.bl b.2.1) h:=fld_ok x (by kernel_rfl) (by kernel_rfl)
 have x2:bT aK no (.ref r) h = .ok (.bl b.2.2.1) h:=fld_ok x (by kernel_rfl) (by kernel_rfl)
 have x3:bT aB no (.ref r) h = .ok (.bl b.2.2.2.1) h:=fld_ok x (by kernel_rfl) (by kernel_rfl)
 have x4:bT bq no (.ref r) h = .ok (.bl b.2.2.2.2) h:=fld_ok x (by kernel_rfl) (by kernel_rfl)
 have f1:∀ s:az,s[0]? = some (some (.ref r))→jl [(kC (.str av)),(eS (kF no (af 0) au)),(kC (.str aX)),(eS (kF no (af 0) aN)),(kC (.str aZ)),(eS (kF no (af 0) aK))] s h = .ok (.str (headT b)) h:=fun s hs=>by
  have v0:af 0 s h = .ok (.ref r) h:=gY 0 _ hs;have k0:kF no (af 0) au s h = .ok (.bl b.1) h:=by rw[qh,v0,aw,x0]
  have k1:kF no (af 0) aN s h = .ok (.bl b.2.1) h:=by rw[qh,v0,aw,x1]
  have k2:kF no (af 0) aK s h = .ok (.bl b.2.2.1) h:=by rw[qh,v0,aw,x2]
  unfold jl;rw[js_cons (eE _) (Jk rfl),js_cons (fmt_bl k0) (by cases b.1<;>exact Jk rfl),js_cons (eE _) (by cases b.1<;>exact Jk rfl),js_cons (fmt_bl k1) (by cases b.1<;>cases b.2.1<;>exact Jk rfl),js_cons (eE _) (by cases b.1<;>cases b.2.1<;>exact Jk rfl),js_cons (fmt_bl k2) (by cases b.1<;>cases b.2.1<;>cases b.2.2.1<;>exact Jk rfl)]
  rfl
 have hh:(headT b).length≤1000000:=by unfold headT; cases b.1<;>cases b.2.1<;>cases b.2.2.1<;>exact Jk rfl
 have f2:∀ s:az,s[0]? = some (some (.ref r))→s[1]? = some (some (.str (headT b)))→jl [(kC (.str aP)),(eS (af 1)),(kC (.str be)),(eS (kF no (af 0) aB)),(kC (.str bH)),(eS (kF no (af 0) bq)),(kC (.str lK))] s h = .ok (.str (ruleT b)) h:=fun s hs ht=>by
  have v0:af 0 s h = .ok (.ref r) h:=gY 0 _ hs;have k3:kF no (af 0) aB s h = .ok (.bl b.2.2.2.1) h:=by rw[qh,v0,aw,x3]
  have k4:kF no (af 0) bq s h = .ok (.bl b.2.2.2.2) h:=by rw[qh,v0,aw,x4]
  unfold jl
  rw[js_cons (eE _) (Jk rfl),js_cons (fmt_str (gY 1 _ ht) hh) (by unfold headT; cases b.1<;>cases b.2.1<;>cases b.2.2.1<;>exact Jk rfl),js_cons (eE _) (by unfold headT; cases b.1<;>cases b.2.1<;>cases b.2.2.1<;>exact Jk rfl),js_cons (fmt_bl k3) (by unfold headT; cases b.1<;>cases b.2.1<;>cases b.2.2.1<;>cases b.2.2.2.1<;>exact Jk rfl),js_cons (eE _) (by unfold headT; cases b.1<;>cases b.2.1<;>cases b.2.2.1<;>cases b.2.2.2.1<;>exact Jk rfl),
   js_cons (fmt_bl k4) (by unfold headT; cases b.1<;>cases b.2.1<;>cases b.2.2.1<;>cases b.2.2.2.1<;>cases b.2.2.2.2<;>exact Jk rfl),js_cons (eE _) (by unfold headT; cases b.1<;>cases b.2.1<;>cases b.2.2.1<;>cases b.2.2.2.1<;>cases b.2.2.2.2<;>exact Jk rfl)]
  rfl
 o_facts ws;rw[f1 _ rfl];o_facts ws;rw[f2 _ rfl rfl];o_facts ws
theorem own_ok{K:Nat}{h:AH}{r:Nat}{b:Bool×Bool×Bool×Bool×Bool}(x:RuleAt h r b){tab:Str→Option bg}(ht:tab aa=some ⟨1,1,[],aA [],(tw (K+1)).1 aT⟩):nI true tab [.ref r] h = .ok (.str (ruleT b)) h:=by
 unfold nI;simp only[show h.get r=some (.ins aa (rF b))from x,ht]
 show(aL 1 1 [] (aA []) ((tw (K+1)).1 aT) [.ref r] [] h).bind _=_;rw[jR,repr_rule K x];rfl
theorem bs_small(b:Bool×Bool×Bool×Bool×Bool):AV.sf (bV b)≤4900∧AV.yh (bV b)≤99∧AV.uh (bV b)≤900000:=by
 obtain⟨b0,b1,b2,b3,b4⟩:=b;cases b0<;>cases b1<;>cases b2<;>cases b3<;>cases b4<;>exact⟨Jk rfl,Jk rfl,Jk rfl⟩
theorem two_small(d:Bool):AV.sf [.bl d,.bl d]≤4900∧AV.yh [.bl d,.bl d]≤99∧AV.uh [.bl d,.bl d]≤900000:=by
 cases d<;>exact⟨Jk rfl,Jk rfl,Jk rfl⟩
theorem repr_bs{h:AH}{n:Nat}(b:Bool×Bool×Bool×Bool×Bool)(g:h.get n=some (.lst (bV b))):dg [.ref n] h = .ok (.str (PyData.list (AV.cx (bV b))).shown) h :=
 pI g rfl (bs_small b).1 (bs_small b).2.1 (bs_small b).2.2
theorem repr_two{h:AH}{n:Nat}(d:Bool)(g:h.get n=some (.lst [.bl d,.bl d])):dg [.ref n] h = .ok (.str (PyData.list (AV.cx [.bl d,.bl d])).shown) h :=
 pI g rfl (two_small d).1 (two_small d).2.1 (two_small d).2.2
def wdV:List AV:=[.str av,.str aS,.str aW,.str aO,.str bp]
def partT(b:Bool×Bool×Bool×Bool×Bool):List Str:=[av++tB b.1,aS++tB b.2.1,aW++tB b.2.2.1,aO++tB b.2.2.2.1,bp++tB b.2.2.2.2]
def partF(b:Bool×Bool×Bool×Bool×Bool)(v:AV):Option AV:=match v with
 | .int 0=>some (.str (av++tB b.1))
 | .int 1=>some (.str (aS++tB b.2.1))
 | .int 2=>some (.str (aW++tB b.2.2.1))
 | .int 3=>some (.str (aO++tB b.2.2.2.1))
 | .int 4=>some (.str (bp++tB b.2.2.2.2))
 | _=>none
theorem part_len(b:Bool×Bool×Bool×Bool×Bool):((partT b).map (·.length)).sum+(partT b).length * (fx).length≤1000000:=by
 obtain⟨b0,b1,b2,b3,b4⟩:=b;cases b0<;>cases b1<;>cases b2<;>cases b3<;>cases b4<;>exact Jk rfl
theorem join_rule(b:Bool×Bool×Bool×Bool×Bool):(aP++Txt.join fx (partT b))++lK=ruleT b:=by
 obtain⟨b0,b1,b2,b3,b4⟩:=b;cases b0<;>cases b1<;>cases b2<;>cases b3<;>cases b4<;>kernel_rfl
theorem join_lens(b:Bool×Bool×Bool×Bool×Bool):(aP).length+(Txt.join fx (partT b)).length≤sizeLine∧(aP++Txt.join fx (partT b)).length+(lK).length≤sizeLine:=by
 obtain⟨b0,b1,b2,b3,b4⟩:=b;rw[sizeLine_eq];cases b0<;>cases b1<;>cases b2<;>cases b3<;>cases b4<;>exact⟨Jk (by kernel_rfl),Jk (by kernel_rfl)⟩
theorem add_part{h:AH}(w:Str)(hw:w.length≤100)(b:Bool):dh (.str w) (.str (tB b)) h = .ok (.str (w++tB b)) h:=by
  rw[wN]
  exact if_pos (by rw[sizeLine_eq]; have:(tB b).length≤5:=by(cases b<;>exact Jk rfl);
                   omega)
def strE:AE:=(aq (aq (af 3) (af 8) (c7 tb di)) (kz lY (ae (aq (af 1) (af 8) (c7 tb di)) ai)) dh)
theorem bstr_bl(b:Bool)(h:AH):lY [.bl b] h = .ok (.str (tB b)) h:=rfl
theorem part_turn{h:AH}{l w:Nat}{b:Bool×Bool×Bool×Bool×Bool}(gl:h.get l=some (.lst (bV b)))(gw:h.get w=some (.lst wdV))(s:az)(h1:s[1]? = some (some (.ref l)))(h3:s[3]? = some (some (.ref w)))(h8:8<s.length)(k:Nat)(hk:k<5) :
  turn (aD 8) d7 strE s (.int k) h = .ok (partF b (.int k)) h:=by
 obtain⟨i0,i1,i2,i3,i4⟩:=atI_b b;have v1:af 1 (s.set 8 (some (.int k))) h = .ok (.ref l) h:=gY 1 _ (by rw[JJ (by decide)]; exact h1)
 have v3:af 3 (s.set 8 (some (.int k))) h = .ok (.ref w) h:=gY 3 _ (by rw[JJ (by decide)]; exact h3)
 have v8:af 8 (s.set 8 (some (.int k))) h = .ok (.int k) h:=gY 8 _ (by rw[List.getElem?_set_self h8])
 have fin:∀ x y,atI wdV (k:Int)=some (.str x)→atI (bV b) (k:Int)=some (.bl y)→x.length≤100→turn (aD 8) d7 strE s (.int k) h = .ok (some (.str (x++tB y))) h:=fun x y e1 e2 hx=>by
  unfold turn strE;rw[b8,aw,jJ,aw,if_pos rfl,eA,eA,v3,aw,v8,aw,cv tb w _ _ _ gw e1,aw,nY,bP,eA,v1,aw,v8,aw,cv tb l _ _ _ gl e2,aw,cn,aw,aw,bstr_bl,aw,add_part x hx y,aw]
 match k,hk with
 | 0,_=>exact fin _ _ (by kernel_rfl) i0 (Jk rfl)
 | 1,_=>exact fin _ _ (by kernel_rfl) i1 (Jk rfl)
 | 2,_=>exact fin _ _ (by kernel_rfl) i2 (Jk rfl)
 | 3,_=>exact fin _ _ (by kernel_rfl) i3 (Jk rfl)
 | 4,_=>exact fin _ _ (by kernel_rfl) i4 (Jk rfl)
theorem parts_ok{h:AH}{l w:Nat}{b:Bool×Bool×Bool×Bool×Bool}(gl:h.get l=some (.lst (bV b)))(gw:h.get w=some (.lst wdV))(hl:l<h.n)(hw:w<h.n)(s:az)(h1:s[1]? = some (some (.ref l)))(h3:s[3]? = some (some (.ref w)))(h8:8<s.length) :
  ∃ h',pM aE (rS eT (ae (kC (.int 5)) ai)) (aD 8) d7 strE [7,8] s h = .ok (.ref h.n) h'∧Gro h h'∧h.n<h'.n∧h'.get h.n=some (.lst ((partT b).map .str)):=by
 have wp:∀ i,i≠7→i≠8→(a5 s [7,8])[i]? = s[i]?:=fun i a c=>by
  show((s.set 8 none).set 7 none)[i]? = s[i]?;rw[JJ (by omega),JJ (by omega)]
 obtain⟨h',e,G,hn,g⟩:=Ci (g:=aD 8) (t:=d7) (el:=strE) (vs:=[7,8]) (s:=s) (h:=h) (h1:=h) (xs:=(Kt 5).map fun(k:Nat)=>AV.int k) (J:=.rng 0 5) (fi:=rS eT (ae (kC (.int 5)) ai)) (partF b) (by
   rw[oe,bP,eE,aw,cn,aw,aw,mO 5 (by decide) (by decide)]; rfl) (Gro.refl _) (by decide) (fun i h' _=>iG 5 i h') (fun x hx h' G hn=>by
   obtain⟨k,hk,rfl⟩:=JS.mp hx;exact⟨h',part_turn ((G.get l hl).trans gl) ((G.get w hw).trans gw) _ (by rw[wp 1 (by decide) (by decide)]; exact h1) (by rw[wp 3 (by decide) (by decide)]; exact h3) (by show 8<((s.set 8 none).set 7 none).length; rw[My,My]; exact h8) k (KI.mp hk),Gro.refl _⟩)
 exact⟨h',e,G,hn,g⟩
theorem meth_keeps{K:Nat}{h:AH}{r:Nat}{b}(x:RuleAt h r b)(i j:Int)(ks:List Str)(n m:Nat)(gA:List AV→List AV→List AV)(as zs:List AV)(ha:(AV.ref r::as).length=m)(hz:zs.length=ks.length)(hg:gA (.ref r::as) zs=[.ref r,.int i,.int j])(hn:n=3) :
  aL n m ks gA ((tw (K+1)).1 aI) (.ref r::as) zs h = .ok (.bl (due b i j)) h:=by
 subst hn;unfold aL;rw[if_pos ha,if_pos hz,hg,if_pos (show[AV.ref r,.int i,.int j].length=3 from rfl),keeps_ok K x i j]
theorem tabKA(K:Nat):(bz ⟨(tw (K+3)).1,(tw (K+3)).2,no,tb,aE⟩ [] [(aa,(aI,3,3,[]))]) aa=some ⟨3,3,[],aA [],(tw (K+3)).1 aI⟩:=by kernel_rfl
theorem tabKB(K:Nat):(bz ⟨(tw (K+3)).1,(tw (K+3)).2,no,tb,aE⟩ [bO,bU] [(aa,(aI,3,1,[.scr,(.ref 1),(.ref 0)]))]) aa=some ⟨3,1,[bO,bU],fG [(.ref 1),(.ref 0)],(tw (K+3)).1 aI⟩:=by kernel_rfl
def loopE(r l p w:Nat)(o4 o5 o6:Option AV):az:=[some (.ref r),some (.ref l),some (.ref p),some (.ref w),o4,o5,o6,none,none]
def IsEnv(r l p w:Nat)(s:az):Prop:=∃ o4 o5 o6,s=loopE r l p w o4 o5 o6
theorem keep1(K:Nat){h:AH}{r l p w:Nat}{b:Bool×Bool×Bool×Bool×Bool}(x:RuleAt h r b)(i j:Int)(o6:Option AV):(eR bX (bz ⟨(tw (K+3)).1,(tw (K+3)).2,no,tb,aE⟩ [] [(aa,(aI,3,3,[]))]) (af 0) (ae (af 4) (ae (af 5) ai)) ai) (loopE r l p w (some (.int i)) (some (.int j)) o6) h = .ok (.bl (due b i j)) h:=by
 unfold loopE;rw[w_aMeth,bK,aw];simp only[show h.get r=some (.ins aa (rF b))from x,tabKA K]
 rw[show(rF b).lookup bX=none from by kernel_rfl]
 simp only[bP,bK,bY,aw,cn];exact meth_keeps (K:=K+2) x i j [] 3 3 _ [.int i,.int j] [] rfl rfl rfl rfl
theorem keep2(K:Nat){h:AH}{r l p w:Nat}{b:Bool×Bool×Bool×Bool×Bool}(x:RuleAt h r b)(i j:Int)(o6:Option AV):(eR bX (bz ⟨(tw (K+3)).1,(tw (K+3)).2,no,tb,aE⟩ [bO,bU] [(aa,(aI,3,1,[.scr,(.ref 1),(.ref 0)]))]) (af 0) ai (ae (af 5) (ae (af 4) ai))) (loopE r l p w (some (.int i)) (some (.int j)) o6) h = .ok (.bl (due b i j)) h:=by
 unfold loopE;rw[w_aMeth,bK,aw];simp only[show h.get r=some (.ins aa (rF b))from x,tabKB K]
 rw[show(rF b).lookup bX=none from by kernel_rfl]
 simp only[bP,bK,bY,aw,cn];exact meth_keeps (K:=K+2) x i j [bO,bU] 3 1 _ [] [.int j,.int i] rfl rfl rfl rfl
theorem due_ok{h:AH}{r l p w:Nat}{b:Bool×Bool×Bool×Bool×Bool}(gl:h.get l=some (.lst (bV b)))(i j:Int)(o6:Option AV):(gj (kB (aq (af 4) (af 5) zC)) (aq (af 1) (kC (.int 0)) (c7 tb di)) (gj (kB (aq (af 4) (af 5) zh)) (aq (af 1) (kC (.int 3)) (c7 tb di)) (gj (kB (aq (af 4) (kC (.int 0)) d4)) (aq (af 1) (kC (.int 1)) (c7 tb di)) (aq (af 1) (kC (.int 2)) (c7 tb di))))) (loopE r l p w (some (.int i)) (some (.int j)) o6) h = .ok (.bl (due b i j)) h:=by
 obtain⟨i0,i1,i2,i3,i4⟩:=atI_b b;have e0:=cv tb l _ _ _ gl i0;have e1:=cv tb l _ _ _ gl i1;have e2:=cv tb l _ _ _ gl i2;have e3:=cv tb l _ _ _ gl i3;unfold loopE due;simp only[qU,xW,eA,bK,bY,aw,eE,w_lt,vN,eJ,mY,e0,e1,e2,e3,fB,decide_eq_true_eq,gt_iff_lt];by_cases z0:i<j
 ·rw[if_pos z0,if_pos z0]
 ·rw[if_neg z0,if_neg z0];by_cases z1:j<i
  ·rw[if_pos z1,if_pos z1]
  ·rw[if_neg z1,if_neg z1];by_cases z2:i=0
   ·rw[if_pos z2,if_pos z2]
   ·rw[if_neg z2,if_neg z2]
theorem body_ok(K:Nat){h:AH}{r l p w:Nat}{b:Bool×Bool×Bool×Bool×Bool}(x:RuleAt h r b)(gl:h.get l=some (.lst (bV b)))(hr:r<h.n)(i j:Int)(o6:Option AV):∃ h' s',(ax (bZ (gj (kB (aq (af 4) (af 5) zC)) (aq (af 1) (kC (.int 0)) (c7 tb di)) (gj (kB (aq (af 4) (af 5) zh)) (aq (af 1) (kC (.int 3)) (c7 tb di)) (gj (kB (aq (af 4) (kC (.int 0)) d4)) (aq (af 1) (kC (.int 1)) (c7 tb di)) (aq (af 1) (kC (.int 2)) (c7 tb di))))) (aD 6)) (ax (cO (kB (aq (kz dg (ae (kL (ae (eR bX (bz ⟨(tw (K+3)).1,(tw (K+3)).2,no,tb,aE⟩ [] [(aa,(aI,3,3,[]))]) (af 0) (ae (af 4) (ae (af 5) ai)) ai) (ae (eR bX (bz ⟨(tw (K+3)).1,(tw (K+3)).2,no,tb,aE⟩ [bO,bU] [(aa,(aI,3,1,[.scr,(.ref 1),(.ref 0)]))]) (af 0) ai (ae (af 5) (ae (af 4) ai))) ai))) ai)) (kz dg (ae (kL (ae (af 6) (ae (af 6) ai))) ai)) cC)) (ax (kR (kC (.bl false))) kP) kP) kP)) (loopE r l p w (some (.int i)) (some (.int j)) o6) h = .ok (.nx s') h'∧IsEnv r l p w s'∧Gro h h':=by
 have hs:(loopE r l p w (some (.int i)) (some (.int j)) o6).set 6 (some (.bl (due b i j)))=loopE r l p w (some (.int i)) (some (.int j)) (some (.bl (due b i j))):=rfl;have v6:∀ h,af 6 (loopE r l p w (some (.int i)) (some (.int j)) (some (.bl (due b i j)))) h = .ok (.bl (due b i j)) h:=fun h=>rfl
 have l1:df [.bl (due b i j),.bl (due b i j)] h = .ok (.ref h.n) (h.push (.lst [.bl (due b i j),.bl (due b i j)])):=dY _ rfl;have G1:Gro h (h.push (.lst [.bl (due b i j),.bl (due b i j)])):=Gro.push _ _;have g1:(h.push (.lst [.bl (due b i j),.bl (due b i j)])).get h.n=some (.lst [.bl (due b i j),.bl (due b i j)]):=bb _ _;have n1:(h.push (.lst [.bl (due b i j),.bl (due b i j)])).n=h.n+1:=rfl;generalize h.push (.lst [.bl (due b i j),.bl (due b i j)])=h1 at *;have l2:df [.bl (due b i j),.bl (due b i j)] h1 = .ok (.ref h1.n) (h1.push (.lst [.bl (due b i j),.bl (due b i j)])):=dY _ rfl;have G2:Gro h1 (h1.push (.lst [.bl (due b i j),.bl (due b i j)])):=Gro.push _ _;have g2:(h1.push (.lst [.bl (due b i j),.bl (due b i j)])).get h1.n=some (.lst [.bl (due b i j),.bl (due b i j)]):=bb _ _;generalize h1.push (.lst [.bl (due b i j),.bl (due b i j)])=h2 at *;refine⟨h2,_, ?_,⟨some (.int i),some (.int j),some (.bl (due b i j)),rfl⟩,G1.trans G2⟩;simp only[fD,nP,due_ok gl i j o6,aw,b8,hs,nG,xW,eA,nY,bP,u9,keep1 K x i j,keep2 K x i j,cn,l1,l2,repr_two _ g1,repr_two _ g2,v6,iI,eJ,decide_true,Kk,Jp,if_false,xZ,fB,cu]
theorem right_ok(K:Nat){h:AH}{r l p:Nat}{b:Bool×Bool×Bool×Bool×Bool}(x:RuleAt h r b)(gl:h.get l=some (.lst (bV b))){ps:List (Int×Int)}(gp:h.get p=some (.lst (ps.map fun q=> .tup [.int q.1,.int q.2])))(hr:r<h.n)(hl:l<h.n)(hp:p<h.n)(hn:ps.length≤100) :
  ∃ h',(tw (K+4)).1 bw [.ref r,.ref l,.ref p] h = .ok (.bl true) h'∧Gro h h':=by
 rw[gL];unfold a9 cV gh;obtain⟨q0,q1,q2,q3,q4⟩:=prop_ok (K+1) x;have p0:∀ s:az,af 0 s h = .ok (.ref r) h→dz br (methP ⟨(tw (K+3)).1,(tw (K+3)).2,no,tb,aE⟩ [(aa,(cq,1,1,[]))]) no (af 0) s h = .ok (.bl b.1) h:=fun s hs=>propR x br (K:=K+1) (i:=cq) (by kernel_rfl) q0 s _ hs
 have p1:∀ s:az,af 0 s h = .ok (.ref r) h→dz bL (methP ⟨(tw (K+3)).1,(tw (K+3)).2,no,tb,aE⟩ [(aa,(cN,1,1,[]))]) no (af 0) s h = .ok (.bl b.2.1) h:=fun s hs=>propR x bL (K:=K+1) (i:=cN) (by kernel_rfl) q1 s _ hs
 have p2:∀ s:az,af 0 s h = .ok (.ref r) h→dz bu (methP ⟨(tw (K+3)).1,(tw (K+3)).2,no,tb,aE⟩ [(aa,(cP,1,1,[]))]) no (af 0) s h = .ok (.bl b.2.2.1) h:=fun s hs=>propR x bu (K:=K+1) (i:=cP) (by kernel_rfl) q2 s _ hs
 have p3:∀ s:az,af 0 s h = .ok (.ref r) h→dz a7 (methP ⟨(tw (K+3)).1,(tw (K+3)).2,no,tb,aE⟩ [(aa,(cw,1,1,[]))]) no (af 0) s h = .ok (.bl b.2.2.2.1) h:=fun s hs=>propR x a7 (K:=K+1) (i:=cw) (by kernel_rfl) q3 s _ hs
 have p4:∀ s:az,af 0 s h = .ok (.ref r) h→dz cy (methP ⟨(tw (K+3)).1,(tw (K+3)).2,no,tb,aE⟩ [(aa,(dk,1,1,[]))]) no (af 0) s h = .ok (.bl b.2.2.2.2) h:=fun s hs=>propR x cy (K:=K+1) (i:=dk) (by kernel_rfl) q4 s _ hs
 simp only[Jn,Ki,Nat.reduceAdd,Nat.reduceSub,KW,List.replicate_zero,JU,List.map_nil,List.cons_append,List.nil_append];have v0:∀(o1 o2 o3 o4 o5 o6 o7 o8:Option AV) (h:AH),af 0 [some (.ref r),o1,o2,o3,o4,o5,o6,o7,o8] h = .ok (.ref r) h:=fun _ _ _ _ _ _ _ _ _=>rfl
 have l1:df (bV b) h = .ok (.ref h.n) (h.push (.lst (bV b))):=dY _ rfl;have l1':df [.bl b.1,.bl b.2.1,.bl b.2.2.1,.bl b.2.2.2.1,.bl b.2.2.2.2] h = .ok (.ref h.n) (h.push (.lst (bV b))):=l1;have G1:Gro h (h.push (.lst (bV b))):=Gro.push _ _;have g1:(h.push (.lst (bV b))).get h.n=some (.lst (bV b)):=bb _ _;have n1:(h.push (.lst (bV b))).n=h.n+1:=rfl;simp only[fD,nG,xW,eA,nY,bP,u9,cn,aw,cu,fB,p0 _ (v0 _ _ _ _ _ _ _ _ h),p1 _ (v0 _ _ _ _ _ _ _ _ h),p2 _ (v0 _ _ _ _ _ _ _ _ h),p3 _ (v0 _ _ _ _ _ _ _ _ h),p4 _ (v0 _ _ _ _ _ _ _ _ h),l1',bK,bY];generalize h.push (.lst (bV b))=h1 at *;have gl1:=(G1.get l hl).trans gl;simp only[repr_bs b g1,repr_bs b gl1,aw,iI,eJ,decide_true,Kk,Jp,if_false,xZ,nP,eE,b8,JP,JZ];have l2:df [.str av,.str aS,.str aW,.str aO,.str bp] h1 = .ok (.ref h1.n) (h1.push (.lst wdV)):=dY _ rfl;have G2:Gro h1 (h1.push (.lst wdV)):=Gro.push _ _;have g2:(h1.push (.lst wdV)).get h1.n=some (.lst wdV):=bb _ _;have n2:(h1.push (.lst wdV)).n=h1.n+1:=rfl;have kl:∀ s:az,(kL (ae (kC (.str av)) (ae (kC (.str aS)) (ae (kC (.str aW)) (ae (kC (.str aO)) (ae (kC (.str bp)) ai)))))) s h1 = .ok (.ref h1.n) (h1.push (.lst wdV)):=fun s=>by
  simp only[u9,bP,eE,aw,cn];exact l2
 rw[kl];clear kl;generalize h1.push (.lst wdV)=h2 at *;simp only[aw,JP,JZ,bK,bY];have x2:RuleAt h2 r b:=x.gro (G1.trans G2) hr;have gl2:=(G2.get l (by omega)).trans gl1
 have o1:∀ t,nI true (methP ⟨(tw (K+3)).1,(tw (K+3)).2,no,tb,aE⟩ [(aa,(aT,1,1,[]))]) [.ref r] h2 = .ok (.str t) h2↔t=ruleT b:=fun t=>by
  rw[own_ok x2 (K:=K+1) (tab:=(methP ⟨(tw (K+3)).1,(tw (K+3)).2,no,tb,aE⟩ [(aa,(aT,1,1,[]))])) (by kernel_rfl)]
  constructor
  ·intro e; cases e; rfl
  ·intro e; rw[e]
 rw[(o1 _).mpr rfl];obtain⟨h3,e3,G3,n3,g3⟩:=parts_ok gl2 g2 (by omega) (by omega) [some (.ref r),some (.ref l),some (.ref p),some (.ref h1.n),none,none,none,none,none] rfl rfl (by exact Jk rfl)
 unfold strE at e3;simp only[aw,uv,eE,rV,if_true,bP,gI,e3,cn,yB _ _ _ g3 (part_len b),wN,if_pos (join_lens b).1,if_pos (join_lens b).2,join_rule,iI,eJ,decide_true,Kk,Jp,if_false,xZ,gz];have x3:RuleAt h3 r b:=x2.gro G3 (by omega)
 have gl3:=(G3.get l (by omega)).trans gl2
 have gp3:=(G3.get p (by omega)).trans ((G2.get p (by omega)).trans ((G1.get p hp).trans gp))
 have le3:=G3.le
 obtain⟨fl,h4,e4,s4,rfl,G4⟩:=jL (fi:=(iD (af 2))) (g:=(lP 2 (dM (aD 4) (dM (aD 5) mf)))) (body:=(ax (bZ (gj (kB (aq (af 4) (af 5) zC)) (aq (af 1) (kC (.int 0)) (c7 tb di)) (gj (kB (aq (af 4) (af 5) zh)) (aq (af 1) (kC (.int 3)) (c7 tb di)) (gj (kB (aq (af 4) (kC (.int 0)) d4)) (aq (af 1) (kC (.int 1)) (c7 tb di)) (aq (af 1) (kC (.int 2)) (c7 tb di))))) (aD 6)) (ax (cO (kB (aq (kz dg (ae (kL (ae (eR bX (bz ⟨(tw (K+3)).1,(tw (K+3)).2,no,tb,aE⟩ [] [(aa,(aI,3,3,[]))]) (af 0) (ae (af 4) (ae (af 5) ai)) ai) (ae (eR bX (bz ⟨(tw (K+3)).1,(tw (K+3)).2,no,tb,aE⟩ [bO,bU] [(aa,(aI,3,1,[.scr,(.ref 1),(.ref 0)]))]) (af 0) ai (ae (af 5) (ae (af 4) ai))) ai))) ai)) (kz dg (ae (kL (ae (af 6) (ae (af 6) ai))) ai)) cC)) (ax (kR (kC (.bl false))) kP) kP) kP))) (s:=loopE r l p h1.n none none none) (h:=h3) (h1:=h3) (J:=.lst p) (xs:=ps.map fun q=> .tup [.int q.1,.int q.2])
  (Inv:=fun _ s h'=>IsEnv r l p h1.n s∧Gro h3 h') (Q:=fun fl h'=>∃ s,fl = .nx s∧Gro h3 h') (by
   rw[jN];unfold loopE;simp only[bK,bY,aw,Bd p _ gp3]) (by rw[Jq]; omega) ⟨⟨none,none,none,rfl⟩,Gro.refl _⟩ (fun i s h' I=>by
   unfold bf;simp only[(I.2.get p (by omega)).trans gp3]) (fun i v s h' hv I=>by
   obtain⟨⟨o4,o5,o6,rfl⟩,G⟩:=I;obtain⟨q,hq,rfl⟩:=JS.mp (JK hv);rw[AJ 2 _ _ rfl,ia,b8,aw,ia,b8,aw,nK];refine dn.mpr ?_;have hs:((loopE r l p h1.n o4 o5 o6).set 4 (some (.int q.1))).set 5 (some (.int q.2))=loopE r l p h1.n (some (.int q.1)) (some (.int q.2)) o6:=rfl;rw[hs];obtain⟨h5,s5,e5,E5,G5⟩:=body_ok K (x3.gro G (by omega)) ((G.get l (by omega)).trans gl3) (by have:=G.le; omega) q.1 q.2 o6 (p:=p) (w:=h1.n)
   rw[e5];exact dn.mpr ⟨E5,G.trans G5⟩) (fun s h' I=>⟨s,rfl,I.2⟩)
 unfold loopE at e4;refine⟨h4, ?_,G1.trans (G2.trans (G3.trans G4))⟩;rw[e4];simp only[aw,B9,eE,fS]
theorem fmod_bdR(c:Int){m:Int}(hm:0<m):0≤c.fmod m∧c.fmod m<m:=⟨Int.fmod_nonneg_of_pos c hm,Int.fmod_lt_of_pos c hm⟩
theorem source_ok(K:Nat)(h:AH)(i:Nat)(hi:i<8):∃ h',(tw (K+1)).1 cI [.scr,.int i] h = .ok (.ref h.n) h'∧Gro h h'∧h'.n=h.n+1∧Src h' h.n 0:=by
 rw[jg];unfold a9 dQ gh;have pw:∀ h:AH,ki (.int 10) (.int 18) h = .ok (.int (10 ^ (18:Int).toNat)) h:=fun h=>nz 10 18 (by decide) (by decide) (by decide)
 have ab:∀(c:Int) (h:AH),qo [.int c] h = .ok (.int (if c<0 then -c else c)) h:=fun c h=>xj c
 have m1:∀(c:Int) (h:AH),jG (.int c) (.int 2305843009213693951) h = .ok (.int (c.fmod 2305843009213693951)) h:=fun c h=>j4 _ _ (by decide)
 have m2:∀ h:AH,jC (.int 8821) (.int (i:Int)) h = .ok (.int (8821 * (i:Int))) h:=fun h=>lg _ _ (.inl (by decide))
 have m3:∀(a:Int) (h:AH),jC (.int a) (.int 16807) h = .ok (.int (a * 16807)) h:=fun a h=>lg _ _ (.inr (by decide))
 have m4:∀(a:Int) (b:Bool) (h:AH),jC (.int a) (.int (if b=true then 1 else 0)) h = .ok (.int (a * (if b=true then 1 else 0))) h:=fun a b h=>lg _ _ (.inr (by cases b<;>decide))
 have gi:∀(b:Bool) (h:AH),u3 [.bl b] h = .ok (.int (if b=true then 1 else 0)) h:=fun b h=>by cases b<;>rfl
 have fin:∀ c:Int,∃ h',df [.int ((if c<0 then -c else c) * (if decide ((10:Int) ^ (18:Int).toNat≤(if c<0 then -c else c))=true then 1 else 0)),.int ((c.fmod 2305843009213693951+8821 * (i:Int)+43) * 16807+(i:Int)),.int 0] h = .ok (.ref h.n) h'∧Gro h h'∧h'.n=h.n+1∧Src h' h.n 0:=fun c=>by
  obtain⟨f1,f2⟩:=fmod_bdR c (m:=2305843009213693951) (by decide)
  refine⟨_,dY _ rfl,Gro.push _ _,rfl,_,_,_,bb _ _, ?_, ?_,by omega,by omega⟩
  ·omega
  ·have:(2:Int) ^ 80=1208925819614629174706176:=by decide
   omega
 by_cases q:(i:Int)<(h.scr.length:Int)
 ·have d1:decide ((i:Int)<(h.scr.length:Int))=true:=decide_eq_true q
  have hl:i<h.scr.length:=by omega
  have ix:c7 tb di .scr (.int (i:Int)) h = .ok (.int h.scr[i]) h:=zW tb _ _ (by rw[WC.atI_nat]; exact Jz hl)
  obtain⟨h',e,G,n,S⟩:=fin h.scr[i];refine⟨h', ?_,G,n,S⟩;have m5:=m4 (if h.scr[i]<0 then -h.scr[i]else h.scr[i]) (decide ((10:Int) ^ (18:Int).toNat≤(if h.scr[i]<0 then -h.scr[i]else h.scr[i]))) h
  generalize hX:(if decide ((10:Int) ^ (18:Int).toNat≤(if h.scr[i]<0 then -h.scr[i]else h.scr[i]))=true then(1:Int)else 0)=X at e m5
  wp_walk using d1,ix,ab,pw,gi,m5,m1,m2,m3,hX,e
 ·have d1:decide ((i:Int)<(h.scr.length:Int))=false:=decide_eq_false q
  obtain⟨h',e,G,n,S⟩:=fin 0;refine⟨h', ?_,G,n,S⟩;wp_walk using d1,ab,pw,gi,m4,m1,m2,m3,e
def pV(ps:List (Int×Int)):List AV:=ps.map fun q=> .tup [.int q.1,.int q.2]
theorem nine_ok{h:AH}{r:Nat}(s:Src h r 0)(hr:r<h.n)(st:az)(h3:st[3]? = some (some (.ref r))):∃ h' ps,((pM aE (rS eT (ae (kC (.int 9)) ai)) (aD 10) d7 (kT (ae (aF 2 2 [] (aA []) ((tw 119).1 aG) (ae (af 3) (ae (kC (.int 7)) ai)) ai) (ae (aF 2 2 [] (aA []) ((tw 119).1 aG) (ae (af 3) (ae (kC (.int 7)) ai)) ai) ai))) [9,10])) st h = .ok (.ref h.n) h'∧ps.length≤9∧Src h' r 18∧Mod [r] h h'∧h.n<h'.n∧h'.get h.n=some (.lst (pV ps)):=by
 obtain⟨h',acc,e,⟨ps,ea,el,s',M,hn⟩,g⟩:=wD (g:=aD 10) (t:=d7) (el:=(kT (ae (aF 2 2 [] (aA []) ((tw 119).1 aG) (ae (af 3) (ae (kC (.int 7)) ai)) ai) (ae (aF 2 2 [] (aA []) ((tw 119).1 aG) (ae (af 3) (ae (kC (.int 7)) ai)) ai) ai)))) (vs:=[9,10]) (s:=st) (h:=h) (h1:=h) (xs:=(Kt 9).map fun(k:Nat)=>AV.int k) (J:=.rng 0 9) (fi:=(rS eT (ae (kC (.int 9)) ai)))
  (fun i h' acc=>∃ ps:List (Int×Int),acc=pV ps∧ps.length=i∧Src h' r (2 * i)∧Mod [r] h h'∧h.n<h'.n) (by
   rw[oe,bP,eE,aw,cn,aw,aw,mO 9 (by decide) (by decide)]; rfl) (by decide) (fun i h' _ _=>iG 9 i h') (fun i h' acc ⟨ps,ea,el,_⟩=>by rw[ea]; unfold pV; rw[Jq]; omega) ⟨[],rfl,rfl,s.BY hr _,(Gro.push _ _).mod _,Jy _⟩ (fun i x h' acc hx ⟨ps,ea,el,s',M,hn⟩ hg=>by
   have hi:i<9:=by
    have:=(Jl.mp hx).1;rwa[Jq,J4]at this
   obtain⟨d1,h2,e1,a1,a2,s2,M2,n2⟩:=draw_ok 118 h' r (2 * i) 7 s' (by decide) (by decide) (by omega)
   obtain⟨d2,h3',e2,b1,b2,s3,M3,n3⟩:=draw_ok 118 h2 r (2 * i+1) 7 s2 (by decide) (by decide) (by omega)
   have e1:(tw 119).1 aG [.ref r,.int 7] h' = .ok (.int d1) h2:=e1;have e2:(tw 119).1 aG [.ref r,.int 7] h2 = .ok (.int d2) h3':=e2;have v3:∀(x:AV) (hh:AH),af 3 ((a5 st [9,10]).set 10 (some x)) hh = .ok (.ref r) hh:=fun x hh=>gY 3 _ (by
    rw[JJ (by decide)]
    show((st.set 10 none).set 9 none)[3]? = _;rw[JJ (by decide),JJ (by decide)]
    exact h3)
   refine⟨some (.tup [.int d1,.int d2]),h3', ?_, ?_, ?_⟩
   ·unfold turn;rw[b8,aw,jJ,aw,if_pos rfl];simp only[Dj,bP,kH,eE,cn,aw,cu,v3,jS,e1,e2];rw[lj _ rfl,aw]
   ·rw[M3.get _ (by omega) (by simp; omega),M2.get _ hn (by simp; omega)]; exact hg
   ·refine⟨ps++[(d1,d2)],by rw[ea]; unfold pV; rw[LJ]; rfl,by rw[JY,el]; rfl, ?_,((M.trans M2).trans M3).Cf (Jw _) _,by rw[EZ]; omega⟩
    exact s3.keep (by rw[AH.get_set,if_neg (by omega)]))
 refine⟨h',ps,e,by rw[Jq,J4]at el; omega, ?_,M,hn,by rw[g,ea]⟩
 rw[Jq,J4]at s';exact s'
def bits(k:Nat):Bool×Bool×Bool×Bool×Bool:=(k % 2 == 1,k / 2 % 2 == 1,k / 4 % 2 == 1,k / 8 % 2 == 1,k / 16 % 2 == 1)
def evV:List AV:=(Kt 32).map fun k=> .ref (k+1)
structure EvH(h:AH):Prop where
 n:33≤h.n
 e:h.get 0=some (.lst evV)
 b:∀ k<32,h.get (k+1)=some (.lst (bV (bits k)))
theorem EvH.mod{h h':AH}{M:List Nat}(x:EvH h)(m:Mod M h h')(hm:∀ i∈M,33≤i):EvH h':=⟨Js x.n m.le,(m.get 0 (by have:=x.n; omega) (fun z=>by have:=hm _ z; omega)).trans x.e,fun k hk=>(m.get (k+1) (by have:=x.n; omega) (fun z=>by have:=hm _ z; omega)).trans (x.b k hk)⟩
theorem EvH.gro{h h':AH}(x:EvH h)(g:Gro h h'):EvH h':=x.mod (M:=[]) (g.mod _) (fun _ z=>by cases z)
theorem sm_bs(b:Bool×Bool×Bool×Bool×Bool):Sm (bV b):=⟨rfl,(bs_small b).1,by
 obtain⟨b0,b1,b2,b3,b4⟩:=b;cases b0<;>cases b1<;>cases b2<;>cases b3<;>cases b4<;>exact Jk rfl⟩
theorem eqv_bits:∀ b0 b1 b2 b3 b4 c0 c1 c2 c3 c4:Bool,PyData.eqvAll (AV.cx (bV (b0,b1,b2,b3,b4))) (AV.cx (bV (c0,c1,c2,c3,c4)))=eqB (b0,b1,b2,b3,b4) (c0,c1,c2,c3,c4):=by decide +kernel
theorem eq_bits{h:AH}{m n:Nat}{b c:Bool×Bool×Bool×Bool×Bool}(g:h.get m=some (.lst (bV b)))(g2:h.get n=some (.lst (bV c))):d4 (.ref m) (.ref n) h = .ok (.bl (eqB b c)) h∧cC (.ref m) (.ref n) h = .ok (.bl (!eqB b c)) h:=by
 obtain⟨b0,b1,b2,b3,b4⟩:=b;obtain⟨c0,c1,c2,c3,c4⟩:=c;rw[Fv (sm_bs _) (sm_bs _) g g2,Fh (sm_bs _) (sm_bs _) g g2,eqv_bits];exact⟨rfl,rfl⟩
def IsE12(r p:Nat)(s:az):Prop:=∃ o2 o5 o6 o7 o8 o9 j0 lC,s=[some .scr,some (.ref 0),o2,some (.ref r),some (.ref p),o5,o6,o7,o8,o9,j0,lC]
theorem turn2_ok{h:AH}{r p k:Nat}{ps:List (Int×Int)}(E:EvH h)(hk:k<32)(gp:h.get p=some (.lst (pV ps)))(hp:p<h.n)(hn:ps.length≤100)(o2 o6 o7 o8 o9 j0 lC:Option AV) :
  ∃ h',(ax (cO (k6 (FD (aF 3 3 [] (aA []) ((tw 119).1 bw) (ae (aF 1 1 [] (aA []) ((tw 119).1 ay) (ae (af 5) ai) ai) (ae (af 5) (ae (af 4) ai))) ai))) (ax (kR (kC (.bl false))) kP) kP) kP) [some .scr,some (.ref 0),o2,some (.ref r),some (.ref p),some (.ref (k+1)),o6,o7,o8,o9,j0,lC] h = .ok (.nx [some .scr,some (.ref 0),o2,some (.ref r),some (.ref p),some (.ref (k+1)),o6,o7,o8,o9,j0,lC]) h'∧Gro h h':=by
 obtain⟨h1,e1,n1,x1,G1⟩:=rule_ok 116 (E.b k hk);have e1:(tw 119).1 ay [.ref (k+1)] h = .ok (.ref h.n) h1:=e1;have E1:=E.gro G1;have h33:=E.n;obtain⟨h2,e2,G2⟩:=right_ok 115 (l:=k+1) x1 (E1.b k hk) ((G1.get p hp).trans gp) (by omega) (by omega) (by omega) hn
 have e2:(tw 119).1 bw [.ref h.n,.ref (k+1),.ref p] h1 = .ok (.bl true) h2:=e2;refine⟨h2, ?_,G1.trans G2⟩;wp_walk using e1,e2
theorem turn3_ok{h:AH}{r p m:Nat}(E:EvH h)(s:Src h r m)(hr:33≤r)(hrn:r<h.n)(hm:m<90000)(o2 o5 o6 o7 o8 o9 j0 lC:Option AV) :
  ∃ h' s',(ax (l6 7 8 (ae (aF 2 2 [] (aA []) ((tw 119).1 aY) (ae (af 3) (ae (af 1) ai)) ai) (ae (aF 2 2 [] (aA []) ((tw 119).1 aY) (ae (af 3) (ae (af 1) ai)) ai) ai))) (ax (cO (fH (kB (aq (aq (aF 1 1 [] (aA []) ((tw 119).1 ay) (ae (af 7) ai) ai) (aF 1 1 [] (aA []) ((tw 119).1 ay) (ae (af 8) ai) ai) (cB false [(aa,[])] (bz ⟨(tw 119).1,(tw 119).2,no,tb,aE⟩ [] [(aa,(ak,2,2,[]))]))) (aq (af 7) (af 8) d4) cC)) (kB (aq (aq (aF 1 1 [] (aA []) ((tw 119).1 ay) (ae (af 7) ai) ai) (aF 1 1 [] (aA []) ((tw 119).1 ay) (ae (af 8) ai) ai) (cB true [(aa,[])] (methP ⟨(tw 119).1,(tw 119).2,no,tb,aE⟩ [(aa,(ak,2,2,[]))]))) (aq (af 7) (af 8) cC) cC))) (ax (kR (kC (.bl false))) kP) kP) kP)) [some .scr,some (.ref 0),o2,some (.ref r),some (.ref p),o5,o6,o7,o8,o9,j0,lC] h = .ok (.nx s') h'∧IsE12 r p s'∧EvH h'∧Src h' r (m+2)∧r<h'.n:=by
 have h33:=E.n;obtain⟨v,h1,e1,hv,s1,M1,n1⟩:=choice_ok 117 h r m 0 evV s E.e (by omega) (by omega) (by decide) (by decide) (by omega)
 have e1:(tw 119).1 aY [.ref r,.ref 0] h = .ok v h1:=e1;have E1:=E.mod M1 (fun i hi=>by simp at hi; omega)
 obtain⟨w,h2,e2,hw,s2,M2,n2⟩:=choice_ok 117 h1 r (m+1) 0 evV s1 E1.e (by have:=E1.n; omega) (by omega) (by decide) (by decide) (by omega)
 have e2:(tw 119).1 aY [.ref r,.ref 0] h1 = .ok w h2:=e2;have E2:=E1.mod M2 (fun i hi=>by simp at hi; omega)
 obtain⟨i,hi,rfl⟩:=JS.mp hv;obtain⟨j,hj,rfl⟩:=JS.mp hw;have hi:=KI.mp hi;have hj:=KI.mp hj;have l2:=E2.n;obtain⟨h3,e3,n3,x3,G3⟩:=rule_ok 116 (E2.b i hi);have e3:(tw 119).1 ay [.ref (i+1)] h2 = .ok (.ref h2.n) h3:=e3;have E3:=E2.gro G3;obtain⟨h4,e4,n4,x4,G4⟩:=rule_ok 116 (E3.b j hj);have e4:(tw 119).1 ay [.ref (j+1)] h3 = .ok (.ref h3.n) h4:=e4;have E4:=E3.gro G4;have q4:=eqO_rr (K:=118) (neg:=false) (x3.gro G4 (by omega)) x4 (tab:=bz ⟨(tw 119).1,(tw 119).2,no,tb,aE⟩ [] [(aa,(ak,2,2,[]))]) (by kernel_rfl)
 have p4:=(eq_bits (E4.b i hi) (E4.b j hj)).1;obtain⟨h5,e5,n5,x5,G5⟩:=rule_ok 116 (E4.b i hi);have e5:(tw 119).1 ay [.ref (i+1)] h4 = .ok (.ref h4.n) h5:=e5;have E5:=E4.gro G5;obtain⟨h6,e6,n6,x6,G6⟩:=rule_ok 116 (E5.b j hj);have e6:(tw 119).1 ay [.ref (j+1)] h5 = .ok (.ref h5.n) h6:=e6;have E6:=E5.gro G6;have q6:=eqO_rr (K:=117) (neg:=true) (x5.gro G6 (by omega)) x6 (tab:=methP ⟨(tw 119).1,(tw 119).2,no,tb,aE⟩ [(aa,(ak,2,2,[]))]) (by kernel_rfl)
 have p6:=(eq_bits (E6.b i hi) (E6.b j hj)).2;refine⟨h6,_, ?_,⟨o2,o5,o6,some (.ref (i+1)),some (.ref (j+1)),o9,j0,lC,rfl⟩,E6,(s2.keep ((((G3.trans G4).trans G5).trans G6).get r (by omega))),by omega⟩
 simp only[if_true,if_false,Jp]at q4 q6;wp_walk using e1,e2,e3,e4,e5,e6,q4,p4,q6,p6,qT,decide_true,Kk
def PREs(s:az)(h:AH):Ex Fl:=(ax (bZ (pM aE (rS eT (ae (kC (.int 32)) ai)) (aD 10) d7 (eG ye (pM aE (rS eT (ae (kC (.int 5)) ai)) (aD 11) d7 (aq (aq (aq (af 10) (af 11) zo) (kC (.int 2)) jG) (kC (.int 1)) d4) [9,11])) [9,10]) (aD 1)) (ax (cO (fH (kB (aq (bC aa 6 1 [] (aA [(.bl false),(.bl true),(.bl true),(.bl false),(.bl false)]) ((tw 119).2 aj) ai ai) (aF 1 1 [] (aA []) ((tw 119).1 ay) (ae (kL (ae (kC (.bl false)) (ae (kC (.bl true)) (ae (kC (.bl true)) (ae (kC (.bl false)) (ae (kC (.bl false)) ai)))))) ai) ai) (cB true [(aa,[])] (methP ⟨(tw 119).1,(tw 119).2,no,tb,aE⟩ [(aa,(ak,2,2,[]))])))) (kB (aq (lu aa 1 (aA []) ((tw 119).1 ip)) (bC aa 6 1 [] (aA [(.bl false),(.bl true),(.bl true),(.bl false),(.bl false)]) ((tw 119).2 aj) ai ai) (cB true [(aa,[])] (methP ⟨(tw 119).1,(tw 119).2,no,tb,aE⟩ [(aa,(ak,2,2,[]))]))))) (ax (kR (kC (.bl false))) kP) kP) (ax (cO (kB (aq (lu aa 1 (aA []) ((tw 119).1 dv)) (bC aa 6 1 [a7] (fG [(.bl false),(.bl true),(.bl true),(.ref 0),(.bl false)]) ((tw 119).2 aj) ai (ae (kC (.bl true)) ai)) (cB true [(aa,[])] (methP ⟨(tw 119).1,(tw 119).2,no,tb,aE⟩ [(aa,(ak,2,2,[]))])))) (ax (kR (kC (.bl false))) kP) kP) (cO (fH (kB (aq (lu aa 1 (aA []) ((tw 119).1 jo)) (bC aa 6 1 [bu] (fG [(.bl false),(.bl true),(.ref 0),(.bl false),(.bl false)]) ((tw 119).2 aj) ai (ae (kC (.bl false)) ai)) (cB true [(aa,[])] (methP ⟨(tw 119).1,(tw 119).2,no,tb,aE⟩ [(aa,(ak,2,2,[]))])))) (fH (kB (aq (bC aa 6 1 [] (aA [(.bl false),(.bl true),(.bl true),(.bl false),(.bl false)]) ((tw 119).2 aj) ai ai) (lu aa 1 (aA []) ((tw 119).1 dv)) (cB false [(aa,[])] (bz ⟨(tw 119).1,(tw 119).2,no,tb,aE⟩ [] [(aa,(ak,2,2,[]))])))) (fH (kB (aq (bC aa 6 1 [] (aA [(.bl false),(.bl true),(.bl true),(.bl false),(.bl false)]) ((tw 119).2 aj) ai ai) (kC .non) (cB false [(aa,[])] (bz ⟨(tw 119).1,(tw 119).2,no,tb,aE⟩ [] [(aa,(ak,2,2,[]))])))) (kB (aq (bC aa 6 1 [] (aA [(.bl false),(.bl true),(.bl true),(.bl false),(.bl false)]) ((tw 119).2 aj) ai ai) (kz (nI true (methP ⟨(tw 119).1,(tw 119).2,no,tb,aE⟩ [(aa,(aT,1,1,[]))])) (ae (bC aa 6 1 [] (aA [(.bl false),(.bl true),(.bl true),(.bl false),(.bl false)]) ((tw 119).2 aj) ai ai) ai)) (cB false [(aa,[])] (bz ⟨(tw 119).1,(tw 119).2,no,tb,aE⟩ [] [(aa,(ak,2,2,[]))]))))))) (ax (kR (kC (.bl false))) kP) kP)))) s h
def exH(e:Ex Fl)(d:AH):AH:=match e with
 | .ok _ h=>h
 | .stuck=>d
def s00:az:=[some .scr,none,none,none,none,none,none,none,none,none,none,none]
def s01:az:=[some .scr,some (.ref 0),none,none,none,none,none,none,none,none,none,none]
def H1(xs:List Int):AH:=exH (PREs s00 ⟨0,.nil,xs⟩) ⟨0,.nil,xs⟩
theorem pre_ok(xs:List Int):PREs s00 ⟨0,.nil,xs⟩ = .ok (.nx s01) (H1 xs):=by kernel_rfl
theorem pre_n(xs:List Int):Ke 33 (H1 xs).n=true:=by kernel_rfl
theorem pre_e(xs:List Int):(H1 xs).get 0=some (.lst evV):=by kernel_rfl
theorem pre_b(xs:List Int):((Kt 32).map fun k=>(H1 xs).get (k+1))=(Kt 32).map fun k=>some (.lst (bV (bits k))):=by kernel_rfl
theorem pre_s(xs:List Int):(H1 xs).scr=xs:=by kernel_rfl
theorem pre_ev(xs:List Int):EvH (H1 xs):=⟨Jk (pre_n xs),pre_e xs,fun k hk=>Mg.mp (pre_b xs) k (KI.mpr hk)⟩
theorem seq_assoc(f g k:AS)(s:az)(h:AH):ax f (ax g k) s h=ax (ax f g) k s h:=by
 rw[fD,fD,fD,cu];congr 1
 funext fl h1
 cases fl with
 | nx s1=>rfl
 | _=>rfl
theorem seqF(f g k:AS):ax f (ax g k)=ax (ax f g) k:=funext fun s=>funext fun h=>seq_assoc f g k s h
theorem seq4(a b c d e:AS):ax a (ax b (ax c (ax d e)))=ax (ax a (ax b (ax c d))) e:=by rw[seqF c d e,seqF b _ e,seqF a _ e]
theorem loop2{h:AH}{r p:Nat}{ps:List (Int×Int)}(E:EvH h)(gp:h.get p=some (.lst (pV ps)))(hp:p<h.n)(hn:ps.length≤100)(o2 o5 o6 o7 o8 o9 j0 lC:Option AV) :
  jO ((lF aE (iD (af 1)) (aD 5) (ax (cO (k6 (FD (aF 3 3 [] (aA []) ((tw 119).1 bw) (ae (aF 1 1 [] (aA []) ((tw 119).1 ay) (ae (af 5) ai) ai) (ae (af 5) (ae (af 4) ai))) ai))) (ax (kR (kC (.bl false))) kP) kP) kP)) [some .scr,some (.ref 0),o2,some (.ref r),some (.ref p),o5,o6,o7,o8,o9,j0,lC] h) fun fl h'=>∃ s',fl = .nx s'∧IsE12 r p s'∧Gro h h':=by
 refine jL (J:=.lst 0) (xs:=evV) (h1:=h) (Inv:=fun _ s h'=>IsE12 r p s∧Gro h h') ?_ (by decide) ⟨⟨o2,o5,o6,o7,o8,o9,j0,lC,rfl⟩,Gro.refl _⟩ (fun i s h' I=> ?_) (fun i v s h' hv I=> ?_) (fun s h' I=>⟨s,rfl,I⟩)
 ·rw[jN];simp only[bK,bY,aw,Bd 0 _ E.e]
 ·unfold bf;simp only[(E.gro I.2).e]
 ·obtain⟨⟨p2,p5,p6,p7,p8,p9,p10,p11,rfl⟩,G⟩:=I;obtain⟨k,hk,rfl⟩:=JS.mp (JK hv);rw[b8];refine dn.mpr ?_;simp only[JP,JZ];obtain⟨h2,e2,G2⟩:=turn2_ok (r:=r) (E.gro G) (KI.mp hk) ((G.get p hp).trans gp) (by have:=G.le; omega) hn p2 p6 p7 p8 p9 p10 p11
  rw[e2];exact dn.mpr ⟨⟨p2,_,p6,p7,p8,p9,p10,p11,rfl⟩,G.trans G2⟩
theorem loop3{h:AH}{r p m:Nat}(E:EvH h)(s:Src h r m)(hr:33≤r)(hrn:r<h.n)(hm:m<1000)(o2 o5 o6 o7 o8 o9 j0 lC:Option AV) :
  jO ((lF aE (rS eT (ae (kC (.int 20)) ai)) (aD 6) (ax (l6 7 8 (ae (aF 2 2 [] (aA []) ((tw 119).1 aY) (ae (af 3) (ae (af 1) ai)) ai) (ae (aF 2 2 [] (aA []) ((tw 119).1 aY) (ae (af 3) (ae (af 1) ai)) ai) ai))) (ax (cO (fH (kB (aq (aq (aF 1 1 [] (aA []) ((tw 119).1 ay) (ae (af 7) ai) ai) (aF 1 1 [] (aA []) ((tw 119).1 ay) (ae (af 8) ai) ai) (cB false [(aa,[])] (bz ⟨(tw 119).1,(tw 119).2,no,tb,aE⟩ [] [(aa,(ak,2,2,[]))]))) (aq (af 7) (af 8) d4) cC)) (kB (aq (aq (aF 1 1 [] (aA []) ((tw 119).1 ay) (ae (af 7) ai) ai) (aF 1 1 [] (aA []) ((tw 119).1 ay) (ae (af 8) ai) ai) (cB true [(aa,[])] (methP ⟨(tw 119).1,(tw 119).2,no,tb,aE⟩ [(aa,(ak,2,2,[]))]))) (aq (af 7) (af 8) cC) cC))) (ax (kR (kC (.bl false))) kP) kP) kP))) [some .scr,some (.ref 0),o2,some (.ref r),some (.ref p),o5,o6,o7,o8,o9,j0,lC] h) fun fl h'=>∃ s',fl = .nx s'∧IsE12 r p s'∧EvH h':=by
 refine jL (J:=.rng 0 20) (xs:=(Kt 20).map fun(k:Nat)=>AV.int k) (h1:=h) (Inv:=fun i s h'=>IsE12 r p s∧EvH h'∧Src h' r (m+2 * i)∧r<h'.n) ?_ (by decide) ⟨⟨o2,o5,o6,o7,o8,o9,j0,lC,rfl⟩,E,s,hrn⟩ (fun i s h' _=>iG 20 i h') (fun i v s h' hv I=> ?_) (fun s h' I=>⟨s,rfl,I.1,I.2.1⟩)
 ·rw[oe,bP,eE,aw,cn,aw,aw,mO 20 (by decide) (by decide)]; rfl
 ·obtain⟨⟨p2,p5,p6,p7,p8,p9,p10,p11,rfl⟩,E',s',hrn'⟩:=I;have hi:i<20:=by
   have:=(Jl.mp hv).1;rwa[Jq,J4]at this
  rw[b8];refine dn.mpr ?_;simp only[JP,JZ];obtain⟨h2,s2,e2,I2,E2,S2,R2⟩:=turn3_ok (p:=p) E' s' hr hrn' (by omega) p2 p5 (some v) p7 p8 p9 p10 p11
  rw[e2];exact dn.mpr ⟨I2,E2,by rw[show m+2 * (i+1)=m+2 * i+2 from by omega]; exact S2,R2⟩
theorem run_law(ns:List Int):jO ((tw 120).1 rh [.scr] ⟨0,.nil,ns⟩) fun v _=>v = .bl true:=by
 rw[vV];unfold a9 vv;rw[seq4,fD];show jO (ei ((PREs s00 ⟨0,.nil,ns⟩).bind _)) _;rw[pre_ok,aw];simp only[];have E0:=pre_ev ns;have sc0:=pre_s ns;unfold s01;wp_walk using jT
 refine jO.call (P:=fun fl h'=>∃ s',fl = .nx s') (jL (xs:=(Kt (max 1 (min 4 ns.length))).map fun(k:Nat)=>AV.int k) (J:=.rng 0 (max 1 (min 4 ns.length))) (h1:=H1 ns)
  (Inv:=fun i s h=>(∃ o2 o3 o4 o5 o6 o7 o8 o9 j0 lC,s=[some .scr,some (.ref 0),o2,o3,o4,o5,o6,o7,o8,o9,j0,lC])∧EvH h) ?hi ?hlen ?start ?next ?step ?fin) ?rest
 case hi=>
  wp_walk using jT;rw[sc0,mO _ (by split<;>(try split)<;>omega) (by split<;>(try split)<;>omega)]
  congr 2;split<;>(try split)<;>omega
 case hlen=>rw[Jq,J4]; omega
 case start=>exact⟨⟨_,_,_,_,_,_,_,_,_,_,rfl⟩,E0⟩
 case next=>intro i s h' _; exact iG _ i h'
 case fin=>rintro s h' ⟨⟨o1,o2,o3,o4,o5,o6,o7,o8,o9,j0,rfl⟩,_⟩; exact⟨_,rfl⟩
 case rest=>
  rintro fl h' ⟨s',rfl⟩;wp_walk using jT;rw[dn]
 case step=>
  rintro i v s h0 hv ⟨⟨o2,o3,o4,o5,o6,o7,o8,o9,j0,lC,rfl⟩,E⟩;have hi:i<max 1 (min 4 ns.length):=by
   have:=(Jl.mp hv).1;rwa[Jq,J4]at this
  obtain rfl:v = .int i:=by
   rw[JN,K5 hi]at hv;simpa using hv.symm
  refine⟨_,_,rfl, ?_⟩;obtain⟨h1,e1,G1,n1,s1⟩:=source_ok 118 h0 i (by omega)
  have e1:(tw 119).1 cI [.scr,.int i] h0 = .ok (.ref h0.n) h1:=e1;obtain⟨r0,hr0⟩:∃ r0,r0=h0.n:=⟨_,rfl⟩;rw[←hr0]at e1 s1 n1;have l0:=E.n;have E1:=E.gro G1;have l1:=G1.le;obtain⟨h2,ps,e2,lp,s2,M2,n2,g2⟩:=nine_ok s1 (by omega) [some .scr,some (.ref 0),some (.int i),some (.ref r0),o4,o5,o6,o7,o8,o9,j0,lC] rfl
  have E2:=E1.mod M2 (fun j hj=>by simp at hj; omega)
  have l2:=M2.le;obtain⟨h3,eh3⟩:∃ h3,h2.push (.lst (pV [(0,0),(0,3),(3,0),(2,2)]))=h3:=⟨_,rfl⟩;have m3:df (pV [(0,0),(0,3),(3,0),(2,2)]) h2 = .ok (.ref h2.n) h3:=by rw[←eh3]; exact dY _ rfl
  have m3:df [.tup [.int 0,.int 0],.tup [.int 0,.int 3],.tup [.int 3,.int 0],.tup [.int 2,.int 2]] h2 = .ok (.ref h2.n) h3:=m3;have G3:Gro h2 h3:=by rw[←eh3]; exact Gro.push _ _
  have n3:h3.n=h2.n+1:=by rw[←eh3]; rfl
  have g3:h3.get h2.n=some (.lst (pV [(0,0),(0,3),(3,0),(2,2)])):=by rw[←eh3]; exact bb _ _
  obtain⟨h4,eh4⟩:∃ h4,h3.push (.lst (pV (ps++[(0,0),(0,3),(3,0),(2,2)])))=h4:=⟨_,rfl⟩;have a4:dh (.ref h1.n) (.ref h2.n) h3 = .ok (.ref h3.n) h4:=by
   rw[u7,(G3.get h1.n n2).trans g2,g3];simp only[];rw[if_pos (by rw[sizeLine_eq]; unfold pV; rw[Jq,Jq,Jn,Jn,Jn,Jn,Ki]; omega),←eh4]
   unfold pV;rw[LJ]
  have G4:Gro h3 h4:=by rw[←eh4]; exact Gro.push _ _
  have n4:h4.n=h3.n+1:=by rw[←eh4]; rfl
  have g4:h4.get h3.n=some (.lst (pV (ps++[(0,0),(0,3),(3,0),(2,2)]))):=by rw[←eh4]; exact bb _ _
  have s4:Src h4 r0 18:=(s2.keep ((G3.trans G4).get r0 (by omega)))
  have E4:=(E2.gro G3).gro G4;obtain⟨d1,h5,e5,_,_,s5,M5,n5⟩:=draw_ok 118 h4 r0 18 3 s4 (by decide) (by decide) (by omega)
  have e5:(tw 119).1 aG [.ref r0,.int 3] h4 = .ok (.int d1) h5:=e5;have E5:=E4.mod M5 (fun j hj=>by simp at hj; omega)
  obtain⟨d2,h6,e6,_,_,s6,M6,n6⟩:=draw_ok 118 h5 r0 19 3 s5 (by decide) (by decide) (by omega)
  have e6:(tw 119).1 aG [.ref r0,.int 3] h5 = .ok (.int d2) h6:=e6;have E6:=E5.mod M6 (fun j hj=>by simp at hj; omega)
  have g6:h6.get h3.n=some (.lst (pV (ps++[(0,0),(0,3),(3,0),(2,2)]))):=((M6.get _ (by omega) (by simp; omega)).trans (M5.get _ (by omega) (by simp; omega))).trans g4
  have pw:∀ h:AH,ki (.int 10) (.int 20) h = .ok (.int (10 ^ (20:Int).toNat)) h:=fun h=>nz 10 20 (by decide) (by decide) (by decide)
  have il4:cJ (.ref h3.n) h4=true:=zj _ _ g4;obtain⟨qs,hqs⟩:∃ qs,qs=ps++[(0,0),(0,3),(3,0),(2,2)]++[((10:Int) ^ (20:Int).toNat+d1,(10:Int) ^ (20:Int).toNat+d2)]:=⟨_,rfl⟩;obtain⟨h7,eh7⟩:∃ h7,h6.set h3.n (.lst (pV qs))=h7:=⟨_,rfl⟩;have lq:(pV (ps++[(0,0),(0,3),(3,0),(2,2)])).length<1000000:=by unfold pV; rw[Jq,JY,Jn,Jn,Jn,Jn,Ki]; omega
  have lq':((pV (ps++[(0,0),(0,3),(3,0),(2,2)])).length<sizeLine)=True:=eq_true (by rw[sizeLine_eq]; exact Nat.lt_trans lq (by decide))
  have eh7':h6.set h3.n (.lst (pV (ps++[(0,0),(0,3),(3,0),(2,2)])++[.tup [.int ((10:Int) ^ (20:Int).toNat+d1),.int ((10:Int) ^ (20:Int).toNat+d2)]]))=h7:=by
   rw[←eh7,hqs];unfold pV;rw[LJ (l₂:=[_])];rfl
  have t6:gn [.int ((10:Int) ^ (20:Int).toNat+d1),.int ((10:Int) ^ (20:Int).toNat+d2)] h6 = .ok (.tup [.int ((10:Int) ^ (20:Int).toNat+d1),.int ((10:Int) ^ (20:Int).toNat+d2)]) h6:=lj _ rfl;have g7:h7.get h3.n=some (.lst (pV qs)):=by rw[←eh7]; exact bI _ _ _
  have M7:Mod [h3.n] h6 h7:=by rw[←eh7]; exact Mod.set (J8.mpr rfl) _
  have E7:=E6.mod M7 (fun j hj=>by simp at hj; omega)
  have n7:h7.n=h6.n:=by rw[←eh7]; rfl
  have s7:Src h7 r0 20:=s6.keep (M7.get r0 (by omega) (by simp; omega))
  have t2:∀(a b:Int) (h:AH),gn [.int a,.int b] h = .ok (.tup [.int a,.int b]) h:=fun a b h=>lj _ rfl
  have lqs:qs.length≤100:=by rw[hqs,JY,JY,Jn,Jn,Jn,Jn,Ki,Jn,Ki]; omega
  wp_walk using e1,e2,t2,m3,a4,il4,pw,e5,e6,g6,lq',eh7';refine jO.call (loop2 (r:=r0) (p:=h3.n) E7 g7 (by omega) lqs (some (.int i)) o5 o6 o7 o8 o9 j0 lC) ?_
  rintro fl h8 ⟨s8,rfl,⟨p2,p5,p6,p7,p8,p9,p10,p11,rfl⟩,G8⟩;have l8:=G8.le;have E8:=E7.gro G8;have s8:Src h8 r0 20:=s7.keep (G8.get r0 (by omega))
  wp_walk using jT;refine jO.call (loop3 (r:=r0) (p:=h3.n) E8 s8 (by omega) (by omega) (by omega) p2 p5 p6 p7 p8 p9 p10 p11) ?_
  rintro fl h9 ⟨s9,rfl,⟨p2,p5,p6,p7,p8,p9,p10,p11,rfl⟩,E9⟩;wp_walk using jT;rw[dn];exact⟨⟨_,_,_,_,_,_,_,_,_,_,rfl⟩,E9⟩
theorem run:∀ ns:List Int,ns.length≤63→resT ((tw 120).1 rh [.scr] ⟨0,.nil,ns⟩)=true:=fun ns _=>by
 obtain⟨v,h',e,rfl⟩:=run_law ns;rw[e];rfl
end K08g
namespace K08
theorem run:∀ ns:List Int,ns.length≤63→WC.resT ((tw 120).1 rh [WC.AV.scr] ⟨0,.nil,ns⟩)=true:=K08g.run
end K08
namespace K08g
end K08g
namespace K08
open PySem PySem.Spec PyProof.Rows L2 WC PySem.W HandSHeadRun
noncomputable section
abbrev Pg:Program:=Kb
abbrev env:Env:={ scope:=Pg.main.scope,locals:=mainNs,globals:=mainNs,cells:=[],code:=(.ref 13),frame:=some 14 }
abbrev bE:List Stmt:=behindTheImports Pg
abbrev cE:Code:=.body bE env
abbrev fq:Pos:=(⟨0,0,0,0⟩:Pos)
abbrev n0:Nat:=11
abbrev ann:Option Value:=(some (.ref 6))
abbrev ll:=Params→Obj
abbrev yi:=Params→MF
abbrev gT(v:Array Value)(k:Nat):Obj:=⟨.type "tuple",none,.seq v k,#[]⟩
abbrev Iy(k:Nat):Obj:=⟨.type "tuple",none,.seq #[] k,#[]⟩
abbrev gF(v:Array Value):Obj:=⟨.none,none,.fields v,#[]⟩
abbrev gC(v:Array Value):Obj:=⟨.type "code",none,.fields v,#[]⟩
abbrev gK(a:Jh)(b:Nat)(c:Jh)(d:Nat)(e:Jh)(f:Nat)(g h i j k:Int)(l:Addr)(x:Bool)(m:Int)(n:Addr)(s t u v:Value)(o p:Int)(q:Jh)(r:Nat):Obj:=gC #[.str a b,.str c d,.str e f,.int g 0,.int h 0,.int i 0,.int j 0,.int k 0,.ref l,.bool x,.int m 0,.ref n,s,t,u,v,.int o 0,.int p 0,.str q r]
abbrev gD(v:Array DictEntry)(k:Nat):Obj:=⟨.type "dict",none,.dict v k,#[]⟩
abbrev gG(a b:Jh)(t:Stmt):Obj:=⟨.none,none,.func ⟨a,b,defArgs t,.stmts (defBody t),defScope t,0,[],.none,.none,.none,.none,none,.none,.none,0⟩,#[]⟩
abbrev gH(a b:Jh)(t:Stmt)(c d:Value):Obj:=⟨.type "function",none,.func ⟨a,b,defArgs t,.stmts (defBody t),defScope t,3,[],.none,.none,.none,c,none,d,.none,0⟩,#[]⟩
abbrev gi(n:Int):Value:=.int n 0
abbrev gr(n:Addr):Value:=.ref n
abbrev ge(P:Params)(s:Jh)(n:Nat)(v:Value):DictEntry:=⟨PyData.keyHash P s,.str s n,v⟩
abbrev nf(o:ll):yi:=λP=>.node (o P) .nil .nil
abbrev nm(o:ll)(a:yi):yi:=λP=>.node (o P) (a P) .nil
abbrev nb(o:ll)(a b:yi):yi:=λP=>.node (o P) (a P) (b P)
abbrev nM(o a:ll):yi:=nm o (nf a)
abbrev nB(o a b:ll):yi:=nb o (nf a) (nf b)
abbrev o0:ll:=λP=>gD #[ge P GV 1 (.str Ew 160),ge P Hf 2 (.builtin "builtins.__doc__:str#opaque"),ge P F8 3 (.builtin "builtins.__package__:str#opaque"),ge P GL 4 (.builtin "builtins.__loader__:shared#opaque"),ge P Gr 5 (.builtin "builtins.__spec__#opaque"),ge P Hg 6 (.builtin "__build_class__"),ge P Hu 7 (.builtin "__import__"),⟨PyData.keyHash P ⟨#[97,98,115]⟩,(.str ⟨#[97,98,115]⟩ 8),(.builtin "abs")⟩,⟨PyData.keyHash P ⟨#[97,108,108]⟩,(.str ⟨#[97,108,108]⟩ 9),(.builtin "all")⟩,⟨PyData.keyHash P ⟨#[97,110,121]⟩,(.str ⟨#[97,110,121]⟩ 10),(.builtin "any")⟩,⟨PyData.keyHash P ⟨#[97,115,99,105,105]⟩,(.str ⟨#[97,115,99,105,105]⟩ 11),(.builtin "ascii")⟩,⟨PyData.keyHash P ⟨#[98,105,110]⟩,(.str ⟨#[98,105,110]⟩ 12),(.builtin "bin")⟩,ge P Hc 13 (.builtin "breakpoint"),⟨PyData.keyHash P ⟨#[99,97,108,108,97,98,108,101]⟩,(.str ⟨#[99,97,108,108,97,98,108,101]⟩ 14),(.builtin "callable")⟩,⟨PyData.keyHash P ⟨#[99,104,114]⟩,(.str ⟨#[99,104,114]⟩ 15),(.builtin "chr")⟩,⟨PyData.keyHash P ⟨#[99,111,109,112,105,108,101]⟩,(.str ⟨#[99,111,109,112,105,108,101]⟩ 16),(.builtin "compile")⟩,⟨PyData.keyHash P ⟨#[100,101,108,97,116,116,114]⟩,(.str ⟨#[100,101,108,97,116,116,114]⟩ 17),(.builtin "delattr")⟩,⟨PyData.keyHash P ⟨#[100,105,114]⟩,(.str ⟨#[100,105,114]⟩ 18),(.builtin "dir")⟩,⟨PyData.keyHash P ⟨#[100,105,118,109,111,100]⟩,(.str ⟨#[100,105,118,109,111,100]⟩ 19),(.builtin "divmod")⟩,⟨PyData.keyHash P ⟨#[101,118,97,108]⟩,(.str ⟨#[101,118,97,108]⟩ 20),(.builtin "eval")⟩,⟨PyData.keyHash P ⟨#[101,120,101,99]⟩,(.str ⟨#[101,120,101,99]⟩ 21),(.builtin "exec")⟩,⟨PyData.keyHash P ⟨#[102,111,114,109,97,116]⟩,(.str ⟨#[102,111,114,109,97,116]⟩ 22),(.builtin "format")⟩,⟨PyData.keyHash P ⟨#[103,101,116,97,116,116,114]⟩,(.str ⟨#[103,101,116,97,116,116,114]⟩ 23),(.builtin "getattr")⟩,⟨PyData.keyHash P ⟨#[103,108,111,98,97,108,115]⟩,(.str ⟨#[103,108,111,98,97,108,115]⟩ 24),(.builtin "globals")⟩,⟨PyData.keyHash P ⟨#[104,97,115,97,116,116,114]⟩,(.str ⟨#[104,97,115,97,116,116,114]⟩ 25),(.builtin "hasattr")⟩,⟨PyData.keyHash P ⟨#[104,97,115,104]⟩,(.str ⟨#[104,97,115,104]⟩ 26),(.builtin "hash")⟩,⟨PyData.keyHash P ⟨#[104,101,120]⟩,(.str ⟨#[104,101,120]⟩ 27),(.builtin "hex")⟩,⟨PyData.keyHash P ⟨#[105,100]⟩,(.str ⟨#[105,100]⟩ 28),(.builtin "id")⟩,⟨PyData.keyHash P ⟨#[105,110,112,117,116]⟩,(.str ⟨#[105,110,112,117,116]⟩ 29),(.builtin "input")⟩,ge P Fg 30 (.builtin "isinstance"),ge P HU 31 (.builtin "issubclass"),⟨PyData.keyHash P ⟨#[105,116,101,114]⟩,(.str ⟨#[105,116,101,114]⟩ 32),(.builtin "iter")⟩,⟨PyData.keyHash P ⟨#[97,105,116,101,114]⟩,(.str ⟨#[97,105,116,101,114]⟩ 33),(.builtin "aiter")⟩,⟨PyData.keyHash P ⟨#[108,101,110]⟩,(.str ⟨#[108,101,110]⟩ 34),(.builtin "len")⟩,⟨PyData.keyHash P ⟨#[108,111,99,97,108,115]⟩,(.str ⟨#[108,111,99,97,108,115]⟩ 35),(.builtin "locals")⟩,⟨PyData.keyHash P ⟨#[109,97,120]⟩,(.str ⟨#[109,97,120]⟩ 36),(.builtin "max")⟩,⟨PyData.keyHash P ⟨#[109,105,110]⟩,(.str ⟨#[109,105,110]⟩ 37),(.builtin "min")⟩,⟨PyData.keyHash P ⟨#[110,101,120,116]⟩,(.str ⟨#[110,101,120,116]⟩ 38),(.builtin "next")⟩,⟨PyData.keyHash P ⟨#[97,110,101,120,116]⟩,(.str ⟨#[97,110,101,120,116]⟩ 39),(.builtin "anext")⟩,⟨PyData.keyHash P ⟨#[111,99,116]⟩,(.str ⟨#[111,99,116]⟩ 40),(.builtin "oct")⟩,⟨PyData.keyHash P ⟨#[111,114,100]⟩,(.str ⟨#[111,114,100]⟩ 41),(.builtin "ord")⟩,⟨PyData.keyHash P ⟨#[112,111,119]⟩,(.str ⟨#[112,111,119]⟩ 42),(.builtin "pow")⟩,⟨PyData.keyHash P ⟨#[112,114,105,110,116]⟩,(.str ⟨#[112,114,105,110,116]⟩ 43),(.builtin "print")⟩,ge P Fp 44 (.builtin "repr"),⟨PyData.keyHash P ⟨#[114,111,117,110,100]⟩,(.str ⟨#[114,111,117,110,100]⟩ 45),(.builtin "round")⟩,⟨PyData.keyHash P ⟨#[115,101,116,97,116,116,114]⟩,(.str ⟨#[115,101,116,97,116,116,114]⟩ 46),(.builtin "setattr")⟩,⟨PyData.keyHash P ⟨#[115,111,114,116,101,100]⟩,(.str ⟨#[115,111,114,116,101,100]⟩ 47),(.builtin "sorted")⟩,⟨PyData.keyHash P ⟨#[115,117,109]⟩,(.str ⟨#[115,117,109]⟩ 48),(.builtin "sum")⟩,⟨PyData.keyHash P ⟨#[118,97,114,115]⟩,(.str ⟨#[118,97,114,115]⟩ 49),(.builtin "vars")⟩,⟨PyData.keyHash P ⟨#[78,111,110,101]⟩,(.str ⟨#[78,111,110,101]⟩ 50),.none⟩,ge P Hs 51 .ellipsis,ge P Hy 52 .notImplemented,⟨PyData.keyHash P ⟨#[70,97,108,115,101]⟩,(.str ⟨#[70,97,108,115,101]⟩ 53),(.bool false)⟩,⟨PyData.keyHash P ⟨#[84,114,117,101]⟩,(.str ⟨#[84,114,117,101]⟩ 54),(.bool true)⟩,⟨PyData.keyHash P ⟨#[98,111,111,108]⟩,(.str ⟨#[98,111,111,108]⟩ 55),(.type "bool")⟩,ge P GU 56 (.type "memoryview"),ge P Gq 57 (.type "bytearray"),⟨PyData.keyHash P ⟨#[98,121,116,101,115]⟩,(.str ⟨#[98,121,116,101,115]⟩ 58),(.type "bytes")⟩,ge P HI 59 (.type "classmethod"),⟨PyData.keyHash P ⟨#[99,111,109,112,108,101,120]⟩,(.str ⟨#[99,111,109,112,108,101,120]⟩ 60),(.type "complex")⟩,⟨PyData.keyHash P ⟨#[100,105,99,116]⟩,(.str ⟨#[100,105,99,116]⟩ 61),(.type "dict")⟩,ge P HM 62 (.type "enumerate"),⟨PyData.keyHash P ⟨#[102,105,108,116,101,114]⟩,(.str ⟨#[102,105,108,116,101,114]⟩ 63),(.type "filter")⟩,⟨PyData.keyHash P ⟨#[102,108,111,97,116]⟩,(.str ⟨#[102,108,111,97,116]⟩ 64),(.type "float")⟩,ge P GO 65 (.type "frozenset"),ge P HB 66 (.type "property"),⟨PyData.keyHash P ⟨#[105,110,116]⟩,(.str ⟨#[105,110,116]⟩ 67),(.type "int")⟩,⟨PyData.keyHash P ⟨#[108,105,115,116]⟩,(.str ⟨#[108,105,115,116]⟩ 68),(.type "list")⟩,⟨PyData.keyHash P ⟨#[109,97,112]⟩,(.str ⟨#[109,97,112]⟩ 69),(.type "map")⟩,⟨PyData.keyHash P ⟨#[111,98,106,101,99,116]⟩,(.str ⟨#[111,98,106,101,99,116]⟩ 70),(.type "object")⟩,ge P ET 71 (.type "range"),ge P Gi 72 (.type "reversed"),⟨PyData.keyHash P ⟨#[115,101,116]⟩,(.str ⟨#[115,101,116]⟩ 73),(.type "set")⟩,⟨PyData.keyHash P ⟨#[115,108,105,99,101]⟩,(.str ⟨#[115,108,105,99,101]⟩ 74),(.type "slice")⟩,ge P Hh 75 (.type "staticmethod"),⟨PyData.keyHash P ⟨#[115,116,114]⟩,(.str ⟨#[115,116,114]⟩ 76),(.type "str")⟩,⟨PyData.keyHash P ⟨#[115,117,112,101,114]⟩,(.str ⟨#[115,117,112,101,114]⟩ 77),(.type "super")⟩,⟨PyData.keyHash P ⟨#[116,117,112,108,101]⟩,(.str ⟨#[116,117,112,108,101]⟩ 78),(.type "tuple")⟩,⟨PyData.keyHash P ⟨#[116,121,112,101]⟩,(.str ⟨#[116,121,112,101]⟩ 79),(.type "type")⟩,⟨PyData.keyHash P ⟨#[122,105,112]⟩,(.str ⟨#[122,105,112]⟩ 80),(.type "zip")⟩,ge P Gu 81 (.bool true),ge P F9 82 (.type "BaseException"),ge P Ic 83 (.type "BaseExceptionGroup"),ge P HZ 84 (.type "Exception"),ge P GA 85 (.type "GeneratorExit"),ge P Gv 86 (.type "KeyboardInterrupt"),ge P Ho 87 (.type "SystemExit"),ge P HL 88 (.type "ArithmeticError"),ge P Ge 89 (.type "AssertionError"),ge P Hi 90 (.type "AttributeError"),ge P G7 91 (.type "BufferError"),⟨PyData.keyHash P ⟨#[69,79,70,69,114,114,111,114]⟩,(.str ⟨#[69,79,70,69,114,114,111,114]⟩ 92),(.type "EOFError")⟩,ge P Hw 93 (.type "ImportError"),ge P Ib 94 (.type "LookupError"),ge P HV 95 (.type "MemoryError"),ge P Hl 96 (.type "NameError"),⟨PyData.keyHash P ⟨#[79,83,69,114,114,111,114]⟩,(.str ⟨#[79,83,69,114,114,111,114]⟩ 97),(.type "OSError")⟩,ge P GY 98 (.type "ReferenceError"),ge P GW 99 (.type "RuntimeError"),ge P GP 100 (.type "StopAsyncIteration"),ge P Hd 101 (.type "StopIteration"),ge P GI 102 (.type "SyntaxError"),ge P GJ 103 (.type "SystemError"),ge P GN 104 (.type "TypeError"),ge P Ii 105 (.type "ValueError"),⟨PyData.keyHash P ⟨#[87,97,114,110,105,110,103]⟩,(.str ⟨#[87,97,114,110,105,110,103]⟩ 106),(.type "Warning")⟩,ge P Ht 107 (.type "FloatingPointError"),ge P HK 108 (.type "OverflowError"),ge P HE 109 (.type "ZeroDivisionError"),ge P GB 110 (.type "BytesWarning"),ge P Gw 111 (.type "DeprecationWarning"),ge P GK 112 (.type "EncodingWarning"),ge P Ie 113 (.type "FutureWarning"),ge P Ga 114 (.type "ImportWarning"),ge P Ik 115 (.type "PendingDeprecationWarning"),ge P HS 116 (.type "ResourceWarning"),ge P Gd 117 (.type "RuntimeWarning"),ge P HC 118 (.type "SyntaxWarning"),ge P Gf 119 (.type "UnicodeWarning"),ge P Ig 120 (.type "UserWarning"),ge P Ij 121 (.type "BlockingIOError"),ge P F7 122 (.type "ChildProcessError"),ge P HJ 123 (.type "ConnectionError"),ge P Gy 124 (.type "FileExistsError"),ge P Il 125 (.type "FileNotFoundError"),ge P GZ 126 (.type "InterruptedError"),ge P HQ 127 (.type "IsADirectoryError"),ge P Hj 128 (.type "NotADirectoryError"),ge P Gz 129 (.type "PermissionError"),ge P Ha 130 (.type "ProcessLookupError"),ge P Hr 131 (.type "TimeoutError"),ge P HP 132 (.type "IndentationError"),ge P HH 133 (.type "_IncompleteInputError"),ge P Ia 134 (.type "IndexError"),ge P Ee 135 (.type "KeyError"),ge P Fk 136 (.type "ModuleNotFoundError"),ge P ED 137 (.type "NotImplementedError"),ge P EI 138 (.type "PythonFinalizationError"),ge P Fm 139 (.type "RecursionError"),ge P ES 140 (.type "UnboundLocalError"),ge P Fs 141 (.type "UnicodeError"),ge P ER 142 (.type "BrokenPipeError"),ge P Em 143 (.type "ConnectionAbortedError"),ge P Et 144 (.type "ConnectionRefusedError"),ge P Fw 145 (.type "ConnectionResetError"),⟨PyData.keyHash P ⟨#[84,97,98,69,114,114,111,114]⟩,(.str ⟨#[84,97,98,69,114,114,111,114]⟩ 146),(.type "TabError")⟩,ge P EH 147 (.type "UnicodeDecodeError"),ge P En 148 (.type "UnicodeEncodeError"),ge P EV 149 (.type "UnicodeTranslateError"),ge P Fe 150 (.type "ExceptionGroup"),ge P EE 151 (.type "OSError"),⟨PyData.keyHash P ⟨#[73,79,69,114,114,111,114]⟩,(.str ⟨#[73,79,69,114,114,111,114]⟩ 152),(.type "OSError")⟩,⟨PyData.keyHash P ⟨#[111,112,101,110]⟩,(.str ⟨#[111,112,101,110]⟩ 153),(.builtin "open")⟩,⟨PyData.keyHash P ⟨#[113,117,105,116]⟩,(.str ⟨#[113,117,105,116]⟩ 154),(.builtin "builtins.quit#opaque")⟩,⟨PyData.keyHash P ⟨#[101,120,105,116]⟩,(.str ⟨#[101,120,105,116]⟩ 155),(.builtin "builtins.exit#opaque")⟩,ge P Es 156 (.builtin "builtins.copyright#opaque"),⟨PyData.keyHash P ⟨#[99,114,101,100,105,116,115]⟩,(.str ⟨#[99,114,101,100,105,116,115]⟩ 157),(.builtin "builtins.credits#opaque")⟩,⟨PyData.keyHash P ⟨#[108,105,99,101,110,115,101]⟩,(.str ⟨#[108,105,99,101,110,115,101]⟩ 158),(.builtin "builtins.license#opaque")⟩,⟨PyData.keyHash P ⟨#[104,101,108,112]⟩,(.str ⟨#[104,101,108,112]⟩ 159),(.builtin "builtins.help#opaque")⟩] 159
abbrev o1:ll:=λP=>gD #[ge P Ew 162 (gr 4),ge P zu 163 (gr 5)] 2
abbrev o2:ll:=λP=>⟨.none,none,(.dict #[] 0),#[]⟩
abbrev o3:ll:=λP=>gD #[ge P GV 165 (.str zu 164),ge P Hf 166 .none,ge P F8 167 .none,ge P GL 168 (.builtin "__main__.__loader__#opaque"),ge P Gr 169 .none,ge P Ff 170 (gr 6),ge P DW 171 (gr 4),ge P Ez 173 (.str Dy 172),ge P Fo 174 .none] 9
abbrev o4:ll:=λP=>⟨(.type "module"),(some 0),.plain,#[]⟩
abbrev o5:ll:=λP=>⟨(.type "module"),(some 3),.plain,#[]⟩
abbrev o6:ll:=λP=>gD #[] 0
abbrev o7:ll:=λP=>Iy 0
abbrev o8:ll:=λP=>gF #[]
abbrev o9:ll:=λP=>gK yp 176 yp 177 Dy 178 1 0 0 0 0 7 false 175 8 .none .none .none .none 179 1 Dy 180
abbrev j0:ll:=λP=>⟨(.type "frame"),none,.plain,#[(some (gr 9)),(some (gr 3)),(some (gr 3)),none,(some (.str zu 164)),none,(some (gr 0))]⟩
abbrev GH:yi:=nb o0 (nb o1 (nM o3 o7) (nM o5 o9)) (nb o2 (nM o4 o8) (nM o6 j0))
abbrev S0(w:World)(os:OsState):SharedT:=⟨GH w.params,11,{},JV [],boot_drawn,181,os⟩
abbrev lC:ll:=λP=>Iy 0
abbrev IG:ll:=λP=>gF #[]
abbrev Im:ll:=λP=>gK yp 182 yp 183 Dy 184 1 0 0 0 0 11 false 181 12 .none .none .none .none 185 1 Dy 186
abbrev IB:ll:=λP=>⟨(.type "frame"),none,.plain,#[(some (gr 13)),(some (gr 3)),(some (gr 3)),none,(some (.str zu 164)),none,(some (gr 0))]⟩
abbrev Jd:yi:=nb o0 (nb o1 (nB o3 o7 lC) (nB o5 o9 Im)) (nb o2 (nB o4 o8 IG) (nB o6 j0 IB))
abbrev Sb(w:World)(os:OsState):SharedT:=⟨Jd w.params,15,{},JV [],boot_drawn,187,os⟩
abbrev IW:ll:=λP=>gD #[ge P GV 165 (.str ⟨#[119,104,111,115,101,99,97,110,99,101,108,46,114,117,108,101,115]⟩ 187),ge P Hf 166 .none,ge P F8 167 .none,ge P GL 168 (.builtin "__main__.__loader__#opaque"),ge P Gr 169 .none,ge P Ff 170 (gr 6),ge P DW 171 (gr 4),ge P Ez 173 (.str Dy 172),ge P Fo 174 .none] 9
abbrev IJ:yi:=nb o0 (nb o1 (nB IW o7 lC) (nB o5 o9 Im)) (nb o2 (nB o4 o8 IG) (nB o6 j0 IB))
abbrev S1(w:World)(os:OsState):SharedT:=⟨IJ w.params,15,{},JV [],boot_drawn,189,os⟩
theorem yf (w:World):((boot_heap w.params).isNs mainGlobals && (JV []:Array GenState).size == 0,(boot_heap w.params).objs.size,(boot_heap w.params).nsMap mainGlobals "__annotations__")=(true,n0,ann):=by kernel_rfl
theorem HG(w:World):putAll (boot_heap w.params).objs.toList .nil 0=some (GH w.params,n0):=by kernel_rfl
theorem HX(w:World)(os:OsState):EW (t8 Pg w) n0 ann 12 ⟨GH w.params,n0,(boot_heap w.params).life,JV [],boot_drawn,boot_toks,os⟩ (topStub Pg)=some (Sb w os,⟨denQ tabQ cE,cE,(⟨0,0,0,0⟩:Pos),[topFrame fq]⟩):=by kernel_rfl
theorem Gb(w:World)(os:OsState):An (t8 Pg w) n0 ann 1 (Sb w os) (blockOf bE env cE (⟨0,0,0,0⟩:Pos) [topFrame fq])=some (.next,Sb w os,cE,(⟨0,0,0,0⟩:Pos)):=by kernel_rfl
theorem g1(w:World)(os:OsState):An (t8 Pg w) n0 ann 10 (Sb w os) (piecesOf (sl Pg 0 1) env cE (⟨0,0,0,0⟩:Pos) [topFrame fq])=some (.next,S1 w os,cE,(⟨1,0,1,8⟩:Pos)):=by kernel_rfl
abbrev qv:Program:=view Pg [8]
abbrev loose:List Jh:=([aa,Ek,EG,vL,xn,wX]:List Jh)
abbrev Rw:PySem.W.OpenRow:=Nc K9
abbrev Xt(s:Shared):Bool:=xlAt qv [] s && recOk Rw.toRowW.records s
abbrev adr:List Addr:=[3,123,0,6,22,51,53,61,63,71,73,122,29,36,43,50,60,70,80,88,96,104,112,120,134,141,148,155,160,165,4,28,35,42,49,52,59,62,69,72,79,81,87,89,95,97,103,105,111,113,119,121,124,125,133,140,147,154,159,164,2]
abbrev EY:M9:=Iv adr L.facts L.fn L.ts L.ex L.cx
theorem big(w:World)(os:OsState):((An (t8 Pg w) n0 ann 1472 (S1 w os) (piecesOf (sl Pg 1 8) env cE (⟨1,0,1,8⟩:Pos) [topFrame fq])).bind fun r=>(goF (t8 Pg w) n0 ann 2 r.2.1 ⟨doneF .next,cE,(⟨90,0,109,15⟩:Pos),[topFrame fq]⟩).map fun s=>((r.1,r.2.2),(looksF Pg (boot_heap w.params) s.abs,seenQ qv loose (importedModules Pg.main.body) Xt s.abs,C9 adr L.facts L.fn L.ts L.ex L.cx (getT s))))=some ((.next,(cE,(⟨90,0,109,15⟩:Pos))),(true,openGood qv loose,EY.val w)):=by kernel_rfl
theorem left:LeftO Rw.prog qv loose Xt EY.obs EY.val (12+(1+(10+(1472+2)))+600) true :=
  w9 (by kernel_rfl) (fun s=>by kernel_rfl) yf fun w os=>by
    obtain⟨s,r,x⟩:=vE (by kernel_rfl) (big w os)
    exact⟨s.abs,pX (HG w) (HX w os) (Gb w os) (lG (g1 w os) r),congrArg (fun z=>z.1) x,(seenQ_eq qv loose (importedModules Pg.main.body) Xt _).trans (congrArg (fun z=>z.2.1) x),Aw.symm.trans (congrArg (fun z=>z.2.2) x)⟩
end
end K08
open PySem PySem.W PySem.Calls PyProof.Rows
theorem PySem.Challenge.cw_whosecancel_k08_rules_as_data_holds : PySem.Challenge.rw_whosecancel_k08_rules_as_data.Holds := by
  w_on; o_law
  refine holds_open (q:=K08.qv) (kwd:=[])
    (d:=HandSHeadRun.topDef K08.Pg 8)
    K08.left K08.EY.of K08.EY.keeps
    (fun s z => xl_of s (Bool.and_eq_true_iff.mp z).1)
    XL.keeps (by kernel_rfl) (by kernel_rfl) (by kernel_rfl)
    (fun s z => recFacts_of (Bool.and_eq_true_iff.mp z).2)
    (by rfl) (by first | assumption | decide +kernel)
    (by decide +kernel) ⟨rfl,rfl,rfl,rfl,rfl,by decide +kernel⟩
    ?hw ?hc
  case hw => w_witness2
  case hc =>
    refine WC.xf (l:=PySem.Challenge.rw_whosecancel_k08_rules_as_data) (n:=63) (k:=121) (x:=K08.ph.ps.headD "") (CX:=L2.CX0) rfl (by decide) (by kernel_rfl) ⟨rfl,by decide,by decide⟩ ?F (fun _ _ _ _ z => z)
    intro w mg fa h Y G hmg
    exact WC.FJ (L:=K08.L) (T:=K08.T) (k:=120) (i:=17) (D:=K08.ph) (nsz:=63) K08.comp K08.st K08.sc K08.sh rfl K08.FL rfl (by decide +kernel) K08.hb K08.hG K08.run Y G hmg
