import PyProof.Rows.All
import Wide.All
import OpenK.AllK
import KE.KIntText
import PyProof.SumWalkG
import PyProof.SeqI3
import KE.KDictOf
import PyProof.AttrMissHeap
import PyProof.NsDelKeeps
import PyProof.CompFree
import PyProof.CompUse
import PyProof.StrWalks
import PyProof.WalksMore
import PyProof.InstStoreFacts
import Wide.FinOn
import Lean
import PySem.Challenge.RW_pq1113_01
set_option Elab.async false
set_option linter.all false
set_option maxRecDepth 100000
set_option maxHeartbeats 0
set_option compiler.extract_closed false
set_option genSizeOf false
set_option genInjectivity false
set_option tactic.hygienic false
set_option bootstrap.genMatcherCode false
set_option backward.match.sparseCases false
namespace Mine.Internal
open Int renaming fdiv→rO,fmod→Af,ofNat_lt→P1,lt_of_le_of_lt→Gi,ne_of_gt→JD,le_of_lt→JJ,lt_trans→jK,casesOn→JN,natCast_nonneg→V3,lt_of_lt_of_le→Ad,not_lt→kr,eq_ofNat_of_zero_le→rY,ofNat_le→fx,sub_zero→FF,ofNat→JI,add_zero→QJ,toNat_natCast→jR,natAbs_natCast→FE,fmod_nonneg_of_pos→xt,fmod_lt_of_pos→wX
open Nat renaming blt→Gg,succ→jM,casesOn→oA,lt_of_lt_of_le→M6,not_lt→ae,le_trans→d3,le_of_not_lt→kt,le_refl→i0,le_succ→w7,lt_succ_self→oC,le_of_eq→w2,le_antisymm→JF,le_of_lt_succ→QF,lt_of_lt_of_eq→JH,zero_le→T3,succ_le_succ→Z1,le_of_succ_le_succ→QM,lt_of_le_of_lt→J7,add_le_add→dJ,le_add_right→A7,min_le_left→JL,le_succ_of_le→fy,le_of_ble_eq_true→Ag,sub_le→vc,ne_of_lt→Ab,le_of_lt→rN,succ_pos→uZ,zero_add→gC,add_right_comm→Ai,lt_trans→Ga,sub_self→I3,le_of_succ_le→dO,add_le_add_right→T1,pos_of_ne_zero→bD,not_lt_zero→P9,lt_of_succ_lt_succ→Z7,add_assoc→A2,lt_irrefl→FH,succ_ne_self→Gc,not_succ_le_zero→KG,min_le_right→wZ,sub_le_of_le_add→rV,add_comm→G3,sub_sub_self→Fx,add_sub_cancel'→rT,add_left_cancel→Ld,min_eq_left→gi,add_sub_cancel_left→dR,add_le_add_left→X3,le_add_left→N7,eq_of_beq_eq_true→xC,le_sub_one_of_lt→Lg,min_eq_right→Gf,mul_le_mul_left→FB,lt_of_succ_lt→me,lt_add_of_pos_right→Lf,succ_mul→lX,mul_le_mul_right→jQ
open List renaming range→rW,replicate→dW,rec→A3,length→oB,length_map→u7,getElem?_eq_getElem→bt,length_append→u3,getElem?_append_left→cg,getElem?_concat_length→JM,length_set→vb,getElem?_set_ne→QK,casesOn→H7,forall_mem_cons→uY,contains_eq_mem→QE,size_toArray→QD,length_eq_zero_iff→QR,append_nil→P0,getElem?_toArray→QP,drop→Ah,take_of_length_le→QI,length_range→FM,length_drop→oD,length_take_le→Vz,filterMap_cons→QO,dropWhile_cons→QN,mem_cons_self→D6,takeWhile_cons→Ae,mem_cons_of_mem→F1,reverse_reverse→QG,all_eq_true→aO,getElem?_map→br,getElem?_eq_some_iff→U6,set_append_right→dY,getElem?_drop→FR,mem_cons→x8,mem_of_getElem?→xq,cons_append→C5,append_assoc→e7,cons_ne_nil→L5,map_eq_nil_iff→rU,mem_map→O1,map_map→wV,nodup_nil→xu,nodup_cons→xr,lookup→jO,getElem?_set_self→xy,mem_filterMap→Le,length_filterMap_le→KZ,filterMap_cons_some→KQ,cons→FK,set_comm→xz,contains_cons→mf,forIn_cons→FA,lookup_cons→K8,map_cons→Q0,getElem?_append_right→I2,zip_cons_cons→KV,getElem_mem→dX,filter_eq_nil_iff→KS,length_take→gj,getElem?_eq_none→KW,getElem?_replicate→KP,length_cons→G2,nil_append→H1,getElem?_take→KM,take_left→rX,isEmpty_iff→FD,not_mem_nil→H2,take_append_drop→jL,mem_append→dP,filter_cons→dU,take_length→ma,drop_eq_nil_of_le→Ge,mem_of_mem_drop→wW,mem_singleton→U5,mem_filter→xB,getElem?_cons_zero→La,mem_of_mem_take→FP,length_nil→O2,map_append→aP,length_singleton→lW,foldl_cons→Gb,map_nil→wY,length_filter_le→FY,map_inj_left→Fy,drop_eq_getElem_cons→KH,sum_cons→rS,append_eq_nil_iff→FZ,dropLast_concat_getLast→FV,getLast?_append→xn,length_pos_iff→KI,sum_append→FW
open Bool renaming and_eq_true_iff→q7,false_ne_true→O0,casesOn→kq,not_eq_true'→FT,or_eq_true_iff→QQ,or_true→Fz,eq_false_iff→FO,false_eq_true→bF,not_true→xg,and_eq_true→Z6,noConfusion→S9,true_and→FJ,or_eq_true→xb
open Option renaming map→dK,some→gD,casesOn→aQ,map_eq_some_iff→ch,bind→QH,getD_some→QS,map_eq_none_iff→Lb,isSome_iff_exists→xd,isSome→rP,join→FC,isSome_map→KU,isSome_some→Li,map_some→xx,isNone→FS,isSome_none→KN,bind_some→FL,isNone_iff_eq_none→lU
open Option.some renaming inj→k7,injEq→Lc
open Eq renaming ndrec→V4,symm→dS,trans→JK
open Array renaming mem_toList_iff→JG,toList_append→Vx,isEmpty_iff_size_eq_zero→Vy,getElem?_toList→Ac,getElem?_eq_some_iff→FX,size_push→JE,toList_inj→QL,size_modify→KY,toArray_toList→KJ,length_toList→xA,any_eq_false'→KT,getElem?_setIfInBounds_self_of_lt→Lh
open List.cons renaming inj→xD
open Option renaming some→b6,none→b8
local macro_rules
  | `(s! $i) => do
    let l := ((i.raw.getArgs[0]!.isInterpolatedStrLit?).getD "").toList.toArray.map fun c => (Lean.quote c.toNat : Lean.Term)
    `([$l,*])
local macro_rules (kind:=Lean.Parser.Command.declaration)
 | s=>if (s[1].isOfKind ``Lean.Parser.Command.definition||s[1].isOfKind ``Lean.Parser.Command.abbrev)&&s[0][4].isNone then pure (s.setArg 0 (s[0].setArg 4 (Lean.mkNullNode #[Lean.mkNode ``Lean.Parser.Command.noncomputable #[Lean.mkAtom "noncomputable"]]))) else Lean.Macro.throwUnsupported
theorem iP.{u} {c:Prop} {h:Decidable c} (a:c) {α:Sort u} {t e:α}:@ite α c h t e=t:=if_pos a
theorem iN.{u} {c:Prop} {h:Decidable c} (a:¬c) {α:Sort u} {t e:α}:@ite α c h t e=e:=if_neg a
theorem cG.{u,v} {α:Sort u} {β:Sort v} {a a₂:α} (f:α→β) (h:a=a₂):f a=f a₂:=congrArg f h
section
structure Exc where
 why:List Nat
 row:Int
 col:Int
 deriving DecidableEq
inductive BI | len | range | enumerate | tuple | list | dict | str | int | min | sum | exc
 deriving DecidableEq
inductive BM | split | find | lower | join | index | strip | append | pop | get
 deriving DecidableEq
inductive BOp | add | sub | mul | fdiv | mod | pow | shr
 deriving DecidableEq
inductive COp | eq | ne | lt | le | gt | ge | isin | notin | is | isnot
 deriving DecidableEq
inductive V where
 | none
 | bool (b:Bool)
 | int (i:Int)
 | str (s:List Nat)
 | tup (l:List V)
 | range (lo hi:Int)
 | ref (n:Nat)
 | inst (c n:Nat)
 | fn (a:Nat)
 | cls (a:Nat)
 | bi (b:BI)
 | exc (n:Nat)
set_option genCtorIdx false
section
variable {γ:Type}
def V.onB (v:V) (s:γ) (f:Bool→γ):γ:=match v with | .bool b=>f b | _=>s
def V.onInt (v:V) (s:γ) (f:Int→γ):γ:=match v with | .int i=>f i | _=>s
def V.onStr (v:V) (s:γ) (f:List Nat→γ):γ:=match v with | .str x=>f x | _=>s
def V.onTup (v:V) (s:γ) (f:List V→γ):γ:=match v with | .tup l=>f l | _=>s
def V.onRef (v:V) (s:γ) (f:Nat→γ):γ:=match v with | .ref n=>f n | _=>s
def V.onNone (v:V) (s f:γ):γ:=match v with | .none=>f | _=>s
def V.onSeq (v:V) (s:γ) (f:List Nat→γ) (a:List V→γ) (fr:Nat→γ):γ:=match v with | .str x=>f x | .tup l=>a l | .ref n=>fr n | _=>s
def c8 {α:Type} (o:Option α) (s:γ) (f:α→γ):γ:=match o with | some a=>f a | none=>s
def yT {α:Type} (l:List α) (s f:γ):γ:=match l with | []=>f | _=>s
def N5 {α:Type} (l:List α) (s:γ) (f:α→γ):γ:=match l with | [a]=>f a | _=>s
def tt {α:Type} (l:List α) (s:γ) (f:α→α→γ):γ:=match l with | [a,b]=>f a b | _=>s
def T4 (b:Bool) (A B:γ):γ:=match b with | true=>A | false=>B
def aa (v:V) (a b c:γ):γ:=v.onB c λq=>T4 q a b
end
def V.isN (v:V):Bool:=match v with
 | .bool _ | .int _ | .str _ | .tup _=>false
 | _=>true
mutual
noncomputable def V.beq:V→V→Bool
 | .bool a,w=>(match w with
  | .bool b=>a==b
  | .int b=>(if a then 1 else 0)==b
  | _=>false)
 | .int a,w=>(match w with
  | .bool b=>a==(if b then 1 else 0)
  | .int b=>a==b
  | _=>false)
 | .str a,w=>w.onStr false λb=>decide (a=b)
 | .tup a,w=>w.onTup false λb=>V.beqs a b
 | _,w=>w.isN
noncomputable def V.beqs:List V→List V→Bool
 | [],l=>yT l false true
 | a :: r,l=>match l with
  | []=>false
  | b :: s=>V.beq a b&&V.beqs r s
end
mutual
noncomputable def V.flat:V→Bool
 | .ref _ | .inst _ _ | .exc _=>false
 | .tup l=>V.flats l
 | _=>true
noncomputable def V.flats:List V→Bool
 | []=>true
 | a :: r=>a.flat&&V.flats r
end
--plain data,at most d deep:b8,bools,ints,strs,tuples of such
mutual
noncomputable def V.data (d:Nat):V→Bool
 | .none | .bool _ | .int _=>true
 | .str s=>s.all (· < 1114112)
 | .tup l=>match d with
  | 0=>false
  | d+1=>V.datas d l
 | _=>false
noncomputable def V.datas (d:Nat):List V→Bool
 | []=>true
 | a :: r=>a.data d&&V.datas d r
end
mutual
noncomputable def V.shift (k:Nat):V→V
 | .ref n=> .ref (k+n)
 | .inst c n=> .inst c (k+n)
 | .exc n=> .exc (k+n)
 | .tup l=> .tup (V.shifts k l)
 | v=>v
noncomputable def V.shifts (k:Nat):List V→List V
 | []=> []
 | a :: r=>a.shift k :: V.shifts k r
end
inductive AObj where
 | list (l:List V)
 | dict (es:List (List Nat×V))
 | idict (es:List (Int×V))
 | ns (es:List (List Nat×V))
def X9 {K:Type} (k:Nat) (p:K×V):K×V:=(p.1,p.2.shift k)
def AObj.shift (k:Nat):AObj→AObj
 | .list l=> .list (V.shifts k l)
 | .dict es=> .dict (es.map (X9 k))
 | .idict es=> .idict (es.map (X9 k))
 | .ns es=> .ns (es.map (X9 k))
abbrev St:=List AObj
abbrev Loc:=List (Option V)
inductive Res where
 | ok (v:V) (st:St)
 | mk (e:Exc) (st:St)
 | bad (e:Exc) (st:St)
 | stuck
inductive ResL where
 | ok (vs:List V) (st:St)
 | bad (e:Exc) (st:St)
 | stuck
inductive Out where
 | next (ρ:Loc) (st:St)
 | brk (ρ:Loc) (st:St)
 | ret (v:V) (st:St)
 | retmk (e:Exc) (st:St)
 | bad (e:Exc) (ρ:Loc) (st:St)
 | stuck
def Res.bind (r:Res) (f:V→St→Res):Res:=match r with
 | .ok v st=>f v st
 | .bad e st=> .bad e st
 | .mk _ _=> .stuck
 | .stuck=> .stuck
theorem Hr {v:V} {st:St} {f:V→St→Res}:(Res.ok v st).bind f=f v st:=rfl
def ResL.bind (r:ResL) (f:List V→St→Res):Res:=match r with
 | .ok vs st=>f vs st
 | .bad e st=> .bad e st
 | .stuck=> .stuck
def Res.bindL (r:Res) (f:V→St→ResL):ResL:=match r with
 | .ok v st=>f v st
 | .bad e st=> .bad e st
 | .mk _ _=> .stuck
 | .stuck=> .stuck
def ResL.cons (v:V) (r:ResL):ResL:=match r with
 | .ok vs st=> .ok (v :: vs) st
 | .bad e st=> .bad e st
 | .stuck=> .stuck
def Res.bindO (r:Res) (ρ:Loc) (f:V→St→Out):Out:=match r with
 | .ok v st=>f v st
 | .bad e st=> .bad e ρ st
 | .mk _ _=> .stuck
 | .stuck=> .stuck
section
variable {γ:Type}
def yP {α:Type} (l:List α) (s:γ) (f:α→γ) (g:α→α→γ):γ:=match l with | [a]=>f a | [a,b]=>g a b | _=>s
def IY {α:Type} (l:List α) (s:γ) (f:α→α→α→γ):γ:=match l with | [a,b,c]=>f a b c | _=>s
def AObj.onL (o:AObj) (s:γ) (f:List V→γ):γ:=match o with | .list l=>f l | _=>s
def AObj.onD (o:AObj) (s:γ) (f:List (List Nat×V)→γ):γ:=match o with | .dict es=>f es | _=>s
def AObj.onN (o:AObj) (s:γ) (f:List (List Nat×V)→γ):γ:=match o with | .ns es=>f es | _=>s
def AObj.onLD (o:AObj) (s:γ) (f:List V→γ) (g:List (List Nat×V)→γ):γ:=match o with | .list l=>f l | .dict es=>g es | _=>s
def AObj.onLI (o:AObj) (s:γ) (f:List V→γ) (g:List (Int×V)→γ):γ:=match o with | .list l=>f l | .idict es=>g es | _=>s
def r6 (st:St) (n:Nat) (s:γ) (f:List V→γ):γ:=c8 st[n]? s λo=>o.onL s f
def O7 (st:St) (n:Nat) (s:γ) (f:List (List Nat×V)→γ):γ:=c8 st[n]? s λo=>o.onD s f
def nU (st:St) (n:Nat) (s:γ) (f:List (List Nat×V)→γ):γ:=c8 st[n]? s λo=>o.onN s f
def onLD (st:St) (n:Nat) (s:γ) (f:List V→γ) (g:List (List Nat×V)→γ):γ:=c8 st[n]? s λo=>o.onLD s f g
def onLI (st:St) (n:Nat) (s:γ) (f:List V→γ) (g:List (Int×V)→γ):γ:=c8 st[n]? s λo=>o.onLI s f g
end
mutual
inductive CE where
 | cst (v:V)
 | loc (i:Nat)
 | bop (S:Bool) (es:CEs)
 | not (a:CE)
 | neg (a:CE)
 | bin (op:BOp) (a b:CE)
 | ite (t a b:CE)
 | cmp1 (op:COp) (a b:CE)
 | cmp2 (op1 op2:COp) (a b c:CE)
 | call (f:CE) (args:CEs)
 | bm (m:BM) (o:CE) (args:CEs)
 | im (name:List Nat) (o:CE) (args:CEs)
 | attr (name:List Nat) (o:CE)
 | sub (o i:CE)
 | slice (o lo hi step:CE)
 | list (es:CEs)
 | tup (es:CEs)
 | dict (kvs:CEs)
 | comp (elt it:CE)
 | compIf (elt it cond:CE)
 | fmt (e:CE)
 | fstr (ps:CEs)
inductive CEs where
 | nil
 | cons (e:CE) (r:CEs)
end
mutual
inductive CT where
 | name (i:Nat)
 | tup (ts:CTs)
inductive CTs where
 | nil
 | cons (t:CT) (r:CTs)
end
mutual
inductive CS where
 | expr (e:CE)
 | set (t:CT) (e:CE)
 | setAttr (name:List Nat) (o e:CE)
 | setSub (o i e:CE)
 | augName (i:Nat) (op:BOp) (e:CE)
 | augAttr (name:List Nat) (o:CE) (op:BOp) (e:CE)
 | augSub (o i:CE) (op:BOp) (e:CE)
 | ite (t:CE) (a b:CSs)
 | whl (t:CE) (body:CSs)
 | for (t:CT) (it:CE) (body:CSs)
 | forEnum (t:CT) (it:CE) (body:CSs)
 | ret (e:CE)
 | raise (e:CE)
 | brk
 | try (body:CSs) (name:Nat) (handler:CSs)
inductive CSs where
 | nil
 | cons (s:CS) (r:CSs)
end
def sizeLim:Nat:=16777216
def look? {K:Type} [DecidableEq K]:List (K×V)→K→Option V
 | [],_=>b8
 | p :: r,k=>if p.1=k then b6 p.2 else look? r k
theorem pu {K:Type} [DecidableEq K] {p:K×V} {r:List (K×V)} {k:K}:look? (p :: r) k=if p.1=k then b6 p.2 else look? r k:=rfl
def A4 {K:Type} [DecidableEq K]:List (K×V)→K→V→List (K×V)
 | [],k,v=> [(k,v)]
 | p :: r,k,v=>if p.1=k then (k,v) :: r else p :: A4 r k v
theorem Jk {K:Type} [DecidableEq K] {p:K×V} {r:List (K×V)} {k:K} {v:V}:A4 (p :: r) k v=if p.1=k then (k,v) :: r else p :: A4 r k v:=rfl
def strs?:List V→Option (List (List Nat))
 | []=>b6 []
 | v :: r=>v.onStr b8 λs=>(strs? r).map (s :: ·)
def ints?:List V→Option (List Int)
 | []=>b6 []
 | v :: r=>v.onInt b8 λs=>(ints? r).map (s :: ·)
def rF (c:Nat) (s:List Nat):Bool:=s.contains c
def rr (f:V→Option Bool):List V→Option Bool
 | []=>b6 false
 | v :: r=>c8 (f v) b8 λb=>(rr f r).map (b||·)
def M5 (x:List Nat) (l:List V):Option Bool:=rr (λv=>v.onStr b8 λs=>b6 (decide (s=x))) l
def OQ (x:Int) (l:List V):Option Bool:=rr (λv=>v.onInt b8 λs=>b6 (decide (s=x))) l
def nV (x:List Nat):List V→Option Nat
 | []=>b8
 | v :: r=>v.onStr b8 λs=>if s=x then b6 0 else (nV x r).map (·+1)
def Pd (a b:V):Option Bool:=if a.data 20&&b.data 20 then b6 (V.beq a b) else b8
def Nd (st:St) (a b:V):Option Bool:=match a with
 | .str x=>(match b with
  | .str y=>b6 (decide (x=y))
  | _=>Pd a b)
 | .ref n=>b.onRef b8 λm=>r6 st n b8 λx=>r6 st m b8 λy=>if V.datas 20 x&&V.datas 20 y then b6 (V.beqs x y) else b8
 | _=>Pd a b
def nP (st:St) (x c:V):Option Bool:=c.onSeq b8 (λs=>x.onStr b8 λt=>N5 t b8 λk=>b6 (rF k s))
 (λl=>match x with
  | .str k=>M5 k l
  | .int k=>OQ k l
  | .none=>rr (λv=>v.onStr b8 λz=>b6 false) l
  | _=>b8)
 λn=>x.onStr b8 λk=>onLD st n b8 (λl=>M5 k l) λes=>b6 (look? es k).isSome
def ow:V→Bool
 | .none=>true
 | _=>false
def DC (f:Int→Int→Bool) (a b:V):Option Bool:=a.onInt b8 λx=>b.onInt b8 λy=>b6 (f x y)
def l7 (st:St) (op:COp) (a b:V):Option Bool:=match op with
 | .eq=>Nd st a b
 | .ne=>(Nd st a b).map (!·)
 | .isin=>nP st a b
 | .notin=>(nP st a b).map (!·)
 | .is=>b.onNone b8 (b6 (ow a))
 | .isnot=>b.onNone b8 (b6 (!ow a))
 | .lt=>DC (λx y=>decide (x < y)) a b
 | .le=>DC (λx y=>decide (x≤y)) a b
 | .gt=>DC (λx y=>decide (x > y)) a b
 | .ge=>DC (λx y=>decide (x≥y)) a b
def Y0 (st:St):Option Bool→Res
 | some b=> .ok (.bool b) st
 | none=> .stuck
def intLim:Nat:=2 ^ 1900
def Kx (st:St) (f:Int→Int→Int) (a b:V):Res:=a.onInt .stuck λx=>b.onInt .stuck λy=> .ok (.int (f x y)) st
def fc (st:St) (g:Int→Int→Bool) (f:Int→Int→Int) (a b:V):Res:=a.onInt .stuck λx=>b.onInt .stuck λy=>if g x y then .ok (.int (f x y)) st else .stuck
def Se (a b:V) (st:St):Res:=match a with
 | .int x=>b.onInt .stuck λy=> .ok (.int (x+y)) st
 | .str x=>b.onStr .stuck λy=>if x.length+y.length≤sizeLim then .ok (.str (x++y)) st else .stuck
 | .tup x=>b.onTup .stuck λy=>if x.length+y.length≤sizeLim then .ok (.tup (x++y)) st else .stuck
 | .ref x=>b.onRef .stuck λy=>r6 st x .stuck λp=>r6 st y .stuck λq=>if p.length+q.length≤sizeLim then .ok (.ref st.length) (st++ [.list (p++q)]) else .stuck
 | _=> .stuck
def u6 (op:BOp) (a b:V) (st:St):Res:=match op with
 | .add=>Se a b st
 | .sub=>Kx st (·- ·) a b
 | .mul=>fc st (λx y=>decide (x.natAbs < intLim∧y.natAbs < intLim)) (·* ·) a b
 | .fdiv=>fc st (λz y=>decide (0 < y∧y < 1000000000)) rO a b
 | .mod=>fc st (λz y=>decide (0 < y)) Af a b
 | .pow=>fc st (λx y=>decide (0≤y∧y≤64∧0≤x∧x≤1024)) (λx y=>x ^ y.toNat) a b
 | .shr=>fc st (λz y=>decide (0≤y∧y≤64)) (λx y=>rO x (2 ^ y.toNat)) a b
def L8 (op:BOp) (a b:V) (st:St):Res:=match op with
 | .add=>(match a with
  | .int x=>b.onInt .stuck λy=> .ok (.int (x+y)) st
  | .str x=>b.onStr .stuck λy=>if x.length+y.length≤sizeLim then .ok (.str (x++y)) st else .stuck
  | _=> .stuck)
 | _=> .stuck
def X1 (n:Nat) (i:Int):Option Nat:=
 let j:=if i < 0 then i+n else i
 if 0≤j&&j < n then b6 j.toNat else b8
def S7 (i:Int):Bool:=match i with
 | .ofNat n=>Gg n 1000000
 | .negSucc _=>false
def small (i:Int):Bool:=match i with
 | .ofNat n=>Gg n 1000000
 | .negSucc n=>Gg n 999999
def jW (o:Option V) (st:St):Res:=c8 o .stuck λv=> .ok v st
def HX (l:List V) (i:Int) (st:St):Res:=if S7 i then jW l[i.toNat]? st else .stuck
def s8 (o i:V) (st:St):Res:=o.onSeq .stuck
 (λs=>i.onInt .stuck λi=>if small i then c8 (X1 s.length i) .stuck λk=>c8 s[k]? .stuck λc=> .ok (.str [c]) st else .stuck)
 (λl=>i.onInt .stuck λi=>HX l i st)
 λn=>match i with
  | .int i=>onLI st n .stuck (λl=>HX l i st) λes=>jW (look? es i) st
  | .str k=>O7 st n .stuck λes=>jW (look? es k) st
  | _=> .stuck
def bu (k a:Int) (l:List V):List V:=((rW (if max 0 (min a l.length) < l.length then (l.length-max 0 (min a l.length)+k-1) / k else 0).toNat).map λ(i:Nat)=>(max 0 (min a l.length)+k*(i:Int)).toNat).filterMap (l[·]?)
def ub (n:Nat) (d:Nat):V→Option Nat
 | .none=>b6 d
 | .int i=>if 0≤i then b6 (min i.toNat n) else b8
 | _=>b8
def E9 {α:Type} (lo hi:Nat) (l:List α):List α:=(l.take hi).drop lo
def Eh (n:Nat) (lo hi:V) (f:Nat→Nat→Res):Res:=c8 (ub n 0 lo) .stuck λa=>c8 (ub n n hi) .stuck λb=>f a b
def I9 (o lo hi step:V) (st:St):Res:=o.onSeq .stuck
 (λs=>step.onNone .stuck (if s.length≤sizeLim then Eh s.length lo hi λa b=> .ok (.str (E9 a b s)) st else .stuck))
 (λl=>step.onNone .stuck (lo.onNone .stuck (hi.onInt .stuck λb=>if 0≤b∧b < l.length∧l.length≤1000 then .ok (.tup (l.take b.toNat)) st else .stuck)))
 λn=>r6 st n .stuck λl=>if l.length≤sizeLim then (match step with
  | .none=>Eh l.length lo hi λa b=> .ok (.ref st.length) (st++ [.list (E9 a b l)])
  | .int k=>lo.onInt .stuck λa=>hi.onNone .stuck (if 0 < k∧0≤a then .ok (.ref st.length) (st++ [.list (bu k a l)]) else .stuck)
  | _=> .stuck) else .stuck
def j3 (c:Nat):List Nat→List (List Nat)
 | []=> [[]]
 | x :: r=>if x=c then [] :: j3 c r else match j3 c r with
  | []=> [[x]]
  | p :: q=>(x :: p) :: q
theorem jV {c x:Nat} {r:List Nat}:j3 c (x :: r)=if x=c then [] :: j3 c r else match j3 c r with | []=> [[x]] | p :: q=>(x :: p) :: q:=rfl
def A8 (c:Nat):List Nat→Option Nat
 | []=>b8
 | x :: r=>if x=c then b6 0 else (A8 c r).map (·+1)
theorem CW {c x:Nat} {r:List Nat}:A8 c (x :: r)=if x=c then b6 0 else (A8 c r).map (·+1):=rfl
def iR (c:Nat):Nat:=if 65≤c∧c≤90 then c+32 else c
def v8 (sep:List Nat):List (List Nat)→List Nat
 | []=> []
 | [x]=>x
 | x :: r=>x++sep++v8 sep r
def l0:List (List Nat)→Nat
 | []=>0
 | x :: r=>x.length+l0 r
def Y5 (cs s:List Nat):List Nat:=((s.dropWhile cs.contains).reverse.dropWhile cs.contains).reverse
def JY (st:St) (sep:List Nat) (l:List V):Res:=c8 (strs? l) .stuck λss=>if l0 ss+sep.length*ss.length≤sizeLim then .ok (.str (v8 sep ss)) st else .stuck
def Mt (o:V) (args:List V) (f:List Nat→Nat→Res):Res:=o.onStr .stuck λs=>N5 args .stuck λv=>v.onStr .stuck λt=>N5 t .stuck λc=>f s c
def o8 (m:BM) (o:V) (args:List V) (st:St):Res:=match m with
 | .split=>Mt o args λs c=>if s.length≤100000 then .ok (.ref st.length) (st++ [.list ((j3 c s).map V.str)]) else .stuck
 | .find=>Mt o args λs c=> .ok (.int (match A8 c s with | some i=>(i:Int) | none=> -1)) st
 | .lower=>o.onStr .stuck λs=>yT args .stuck (if s.all (· < 128)∧s.length≤100000 then .ok (.str (s.map iR)) st else .stuck)
 | .strip=>o.onStr .stuck λs=>N5 args .stuck λv=>v.onStr .stuck λcs=>if s.length≤100000 then .ok (.str (Y5 cs s)) st else .stuck
 | .join=>o.onStr .stuck λsep=>N5 args .stuck λv=>v.onSeq .stuck (λz=> .stuck) (JY st sep) λn=>r6 st n .stuck (JY st sep)
 | .index=>o.onSeq .stuck (λs=>N5 args .stuck λv=>v.onStr .stuck λt=>N5 t .stuck λc=>c8 (A8 c s) .stuck λi=> .ok (.int i) st) (λz=> .stuck)
   λn=>N5 args .stuck λv=>v.onStr .stuck λx=>r6 st n .stuck λl=>if l.length≤100000∧(M5 x l).isSome=true then c8 (nV x l) .stuck λi=> .ok (.int i) st else .stuck
 | .append=>o.onRef .stuck λn=>N5 args .stuck λv=>r6 st n .stuck λl=>if l.length < sizeLim∧v.flat=true then .ok .none (st.set n (.list (l++ [v]))) else .stuck
 | .pop=>o.onRef .stuck λn=>N5 args .stuck λv=>v.onInt .stuck λi=>if i=0 then r6 st n .stuck λl=>(match l with
   | v :: l=>if l.length≤100000 then .ok v (st.set n (.list l)) else .stuck
   | []=> .stuck) else .stuck
 | .get=>o.onRef .stuck λn=>tt args .stuck λv d=>v.onStr .stuck λk=>O7 st n .stuck λes=> .ok ((look? es k).getD d) st
def Q5 (m:BM) (o:V) (st:St):Bool:=match m with
 | .split | .find | .lower | .join | .strip=>o.onStr false λz=>true
 | .index=>o.onSeq false (λz=>true) (λz=>false) λn=>r6 st n false λz=>true
 | .append | .pop=>o.onRef false λn=>r6 st n false λz=>true
 | .get=>o.onRef false λn=>O7 st n false λz=>true
def E2 (c:Nat):Option Nat:=
 if 48≤c∧c≤57 then b6 (c-48) else if 97≤c∧c≤102 then b6 (c-87) else if 65≤c∧c≤70 then b6 (c-55) else b8
def j7 (b:Nat):Nat→List Nat→Option Nat
 | acc,[]=>b6 acc
 | acc,c :: r=>match E2 c with
  | some d=>if d < b then j7 b (acc*b+d) r else b8
  | none=>b8
theorem Nl {b a c:Nat} {r:List Nat}:j7 b a (c :: r)=match E2 c with | some d=>if d < b then j7 b (a*b+d) r else b8 | none=>none:=rfl
def iw (n:Nat):List Nat:=(Nat.toDigits 10 n).map Char.toNat
def p6 (i:Int):List Nat:=if i < 0 then 45 :: iw i.natAbs else iw i.natAbs
def n4 (lo hi:Int):List V:=(rW (hi-lo).toNat).map λ(k:Nat)=>V.int (lo+(k:Int))
def pairs?:List V→Option (List (List Nat×V))
 | []=>b6 []
 | v :: r=>v.onTup b8 λl=>tt l b8 λa b=>a.onStr b8 λk=>b.onInt b8 λi=>(pairs? r).map ((k,.int i) :: ·)
def sF (es:List (List Nat×V)):List (List Nat×V)→List (List Nat×V)
 | []=>es
 | (k,v) :: r=>sF (A4 es k v) r
def MR (n:Nat) (st:St):Res:=if n≤sizeLim then .ok (.int n) st else .stuck
def jY (b:Nat) (s:List Nat) (st:St):Res:=if s.length≤600∧s≠ [] then c8 (j7 b 0 s) .stuck λn=> .ok (.int n) st else .stuck
def iU (st:St) (args:List V) (f:List V→Res):Res:=N5 args .stuck λv=>v.onRef .stuck λn=>r6 st n .stuck f
def A1 (b:BI) (args:List V) (st:St):Res:=match b with
 | .len=>N5 args .stuck λv=>v.onSeq .stuck (λs=>MR s.length st) (λl=>MR l.length st) λn=>r6 st n .stuck λl=>MR l.length st
 | .range=>yP args .stuck (λv=>v.onInt .stuck λn=>if n < 100000∧-100000 < n then .ok (.range 0 n) st else .stuck)
  λv w=>v.onInt .stuck λa=>w.onInt .stuck λb=>if b < 100000∧-100000 < b∧a < 100000∧-100000 < a then .ok (.range a b) st else .stuck
 | .tuple=>iU st args λl=>if l.length≤sizeLim then .ok (.tup l) st else .stuck
 | .list=>iU st args λl=>if l.length≤sizeLim then .ok (.ref st.length) (st++ [.list l]) else .stuck
 | .dict=>iU st args λl=>c8 (pairs? l) .stuck λps=>if ps.length≤16 then .ok (.ref st.length) (st++ [.dict (sF [] ps)]) else .stuck
 | .str=>N5 args .stuck λv=>(match v with
  | .str s=> .ok (.str s) st
  | .int i=>if i.natAbs < intLim then .ok (.str (p6 i)) st else .stuck
  | _=> .stuck)
 | .int=>yP args .stuck (λv=>v.onStr .stuck λs=>jY 10 s st)
  λv w=>v.onStr .stuck λs=>w.onInt .stuck λb=>if b=10 then jY 10 s st else if b=16 then jY 16 s st else .stuck
 | .min=>tt args .stuck λv w=>v.onInt .stuck λa=>w.onInt .stuck λb=> .ok (.int (if b < a then b else a)) st
 | .sum=>iU st args λl=>c8 (ints? l) .stuck λis=>if l.length≤1000 then .ok (.int is.sum) st else .stuck
 | _=> .stuck
def uF (v:V) (st:St):Res:=match v with
 | .str s=>if s.length≤sizeLim then .ok (.str s) st else .stuck
 | .int i=>if i.natAbs < intLim then .ok (.str (p6 i)) st else .stuck
 | _=> .stuck
def setSub (o i v:V) (st:St):Option St:=o.onRef b8 λn=>i.onStr b8 λk=>O7 st n b8 λes=>if es.length < 1000∧v.flat=true then b6 (st.set n (.dict (A4 es k v))) else b8
structure Tabs where
 meths:List (List Nat×Nat×Nat)
 attrs:List (Nat×List Nat)
 xattrs:List (List Nat)
def getAttr (T:Tabs) (name:List Nat) (o:V) (st:St):Res:=match o with
 | .inst c n=>if (c,name)∈T.attrs then nU st n .stuck λes=>jW (look? es name) st else .stuck
 | .exc n=>if name∈T.xattrs then nU st n .stuck λes=>jW (look? es name) st else .stuck
 | _=> .stuck
def setAttr (T:Tabs) (self:Option Nat) (name:List Nat) (o v:V) (st:St):Option St:=match o with
 | .inst c n=>if (c,name)∈T.attrs then nU st n b8 λes=>if (v.flat=true∨self=b6 n)∧es.length < 1000 then b6 (st.set n (.ns (A4 es name v))) else b8 else b8
 | _=>b8
def kvs? {K:Type} [DecidableEq K] (key:V→Option K):List V→Option (List (K×V))
 | []=>b6 []
 | k :: r=>match r with
  | []=>b8
  | v :: r=>c8 (key k) b8 λk=>c8 (kvs? key r) b8 λes=>if (look? es k).isSome then b8 else b6 ((k,v) :: es)
def uV (v:V):Option (List Nat):=v.onStr b8 b6
def uj (v:V):Option Int:=v.onInt b8 b6
def dictOf? (l:List V):Option AObj:=match l with
 | []=>b6 (.dict [])
 | v :: _=>match v with
  | .str _=>(kvs? uV l).map .dict
  | .int _=>(kvs? uj l).map .idict
  | _=>b8
inductive Src where
 | fix (l:List V)
 | live (n:Nat)
def P7 (v:V) (st:St):Option Src:=match v with
 | .str s=>b6 (.fix (s.map λc=>V.str [c]))
 | .tup l=>b6 (.fix l)
 | .range lo hi=>if -100000 < lo∧lo < 100000∧-100000 < hi∧hi < 100000 then b6 (.fix (n4 lo hi)) else b8
 | .ref n=>r6 st n b8 λz=>b6 (.live n)
 | _=>b8
def Src.at (s:Src) (st:St) (k:Nat):Option (Option V):=match s with
 | .fix l=>b6 l[k]?
 | .live n=>r6 st n b8 λl=>b6 l[k]?
abbrev d7:=Nat→List V→St→Res
def Res.thenN (r:Res) (f:St→Res):Res:=match r with
 | .ok v st=>v.onNone .stuck (f st)
 | _=> .stuck
def cH (get:St→Nat→Option (Option V)) (body:V→St→Res) (n:Nat):Nat→Nat→St→Res
 | 0,_,_=> .stuck
 | f+1,k,st=>c8 (get st k) .stuck λo=>c8 o (.ok (.ref n) st) λx=>(body x st).thenN λst'=>cH get body n f (k+1) st'
def apply (Φ:d7) (f:V) (args:List V) (st:St):Res:=match f with
 | .fn a=>Φ a args st
 | .cls a=>Φ a args st
 | .bi b=>A1 b args st
 | _=> .stuck
def fW (e:Exc):List (List Nat×V):= [([119,104,121],.str e.why),([97,116],.int (-1)),([114,111,119],.int e.row),([99,111,108,117,109,110],.int e.col)]
def D7 (e:Exc):AObj:= .ns (fW e)
def aK:List (List Nat×Nat×Nat)→List Nat→Nat→Option Nat
 | [],_,_=>b8
 | (n,c,a) :: r,m,k=>if n=m∧c=k then b6 a else aK r m k
theorem WB {n m:List Nat} {c a k:Nat} {r:List (List Nat×Nat×Nat)}:aK ((n,c,a) :: r) m k=if n=m∧c=k then b6 a else aK r m k:=rfl
def Y4 (T:Tabs) (name:List Nat) (o:V) (st:St):Option Nat:=match o with
 | .inst c n=>nU st n b8 λes=>(match look? es name with
   | some _=>b8
   | none=>aK T.meths name c)
 | _=>b8
def NB (v:V) (st:St):Res:=v.onB .stuck λb=> .ok (.bool !b) st
def LL (v:V) (st:St):Res:=v.onInt .stuck λi=> .ok (.int (-i)) st
def E6 (vs:List V) (st:St):Res:=c8 (dictOf? vs) .stuck λo=> .ok (.ref st.length) (st++ [o])
def kF (r:ResL):Res:=match r with
 | .ok vs st=>c8 (strs? vs) .stuck λss=>if l0 ss≤sizeLim then .ok (.str (v8 [] ss)) st else .stuck
 | _=> .stuck
def C6 (ρ:Loc) (i:Nat) (st:St):Res:=c8 ρ[i]? .stuck λo=>jW o st
mutual
noncomputable def i4 (T:Tabs) (N:Nat) (Φ:d7):CE→Loc→St→Res
 | .cst v,_,st=> .ok v st
 | .loc i,ρ,st=>C6 ρ i st
 | .bop S es,ρ,st=>evalB T N Φ S es ρ st
 | .not a,ρ,st=>(i4 T N Φ a ρ st).bind λv st=>NB v st
 | .neg a,ρ,st=>(i4 T N Φ a ρ st).bind λv st=>LL v st
 | .bin op a b,ρ,st=>(i4 T N Φ a ρ st).bind λx st=>(i4 T N Φ b ρ st).bind λy st=>u6 op x y st
 | .ite t a b,ρ,st=>(i4 T N Φ t ρ st).bind λv st=>v.onB .stuck λq=>T4 q (i4 T N Φ a ρ st) (i4 T N Φ b ρ st)
 | .cmp1 op a b,ρ,st=>(i4 T N Φ a ρ st).bind λx st=>(i4 T N Φ b ρ st).bind λy st=>Y0 st (l7 st op x y)
 | .cmp2 p r a b c,ρ,st=>(i4 T N Φ a ρ st).bind λx st=>(i4 T N Φ b ρ st).bind λy st=>c8 (l7 st p x y) .stuck λq=>T4 q ((i4 T N Φ c ρ st).bind λz st=>Y0 st (l7 st r y z)) (.ok (.bool false) st)
 | .call f args,ρ,st=>if N=0 then .stuck else (i4 T N Φ f ρ st).bind λfv st=>(evalEs T N Φ args ρ st).bind λvs st=>apply Φ fv vs st
 | .bm m o args,ρ,st=>if N=0 then .stuck else (i4 T N Φ o ρ st).bind λd st=>T4 (Q5 m d st) ((evalEs T N Φ args ρ st).bind λvs st=>o8 m d vs st) .stuck
 | .im name o args,ρ,st=>if N=0 then .stuck else (i4 T N Φ o ρ st).bind λd st=>c8 (Y4 T name d st) .stuck λa=>(evalEs T N Φ args ρ st).bind λvs st=>Φ a (d :: vs) st
 | .attr name o,ρ,st=>(i4 T N Φ o ρ st).bind λd st=>getAttr T name d st
 | .sub o i,ρ,st=>(i4 T N Φ o ρ st).bind λd st=>(i4 T N Φ i ρ st).bind λs st=>s8 d s st
 | .slice o lo hi step,ρ,st=>(i4 T N Φ o ρ st).bind λd st=>(i4 T N Φ lo ρ st).bind λl st=>
   (i4 T N Φ hi ρ st).bind λh st=>(i4 T N Φ step ρ st).bind λk st=>I9 d l h k st
 | .list es,ρ,st=>(evalEs T N Φ es ρ st).bind λvs st=> .ok (.ref st.length) (st++ [.list vs])
 | .tup es,ρ,st=>(evalEs T N Φ es ρ st).bind λvs st=> .ok (.tup vs) st
 | .dict n,ρ,st=>(evalEs T N Φ n ρ st).bind λvs st=>E6 vs st
 | .comp g j,ρ,st=>(i4 T N Φ j ρ st).bind λv st=>c8 (P7 v st) .stuck λsrc=>
   cH src.at (λx st'=>(i4 T N Φ g (ρ++ [b6 x]) st').bind λy st'=>o8 .append (.ref st.length) [y] st') st.length N 0 (st++ [.list []])
 | .compIf g j cond,ρ,st=>(i4 T N Φ j ρ st).bind λv st=>c8 (P7 v st) .stuck λsrc=>
   cH src.at (λx st'=>(i4 T N Φ cond (ρ++ [b6 x]) st').bind λc st'=>c.onB .stuck λq=>T4 q ((i4 T N Φ g (ρ++ [b6 x]) st').bind λy st'=>o8 .append (.ref st.length) [y] st') (.ok .none st')) st.length N 0 (st++ [.list []])
 | .fmt e,ρ,st=>(i4 T N Φ e ρ st).bind λv st=>uF v st
 | .fstr ps,ρ,st=>kF (evalEs T N Φ ps ρ st)
noncomputable def evalEs (T:Tabs) (N:Nat) (Φ:d7):CEs→Loc→St→ResL
 | .nil,_,st=> .ok [] st
 | .cons e r,ρ,st=>(i4 T N Φ e ρ st).bindL λv st=>(evalEs T N Φ r ρ st).cons v
noncomputable def evalB (T:Tabs) (N:Nat) (Φ:d7) (S:Bool):CEs→Loc→St→Res
 | .nil,_,_=> .stuck
 | .cons e r,ρ,st=>match r with
  | .nil=>i4 T N Φ e ρ st
  | .cons _ _=>(i4 T N Φ e ρ st).bind λv st=>v.onB .stuck λb=>T4 (b==S) (evalB T N Φ S r ρ st) (.ok (.bool b) st)
end
mutual
noncomputable def n7:CT→V→Loc→Option Loc
 | .name i,v,ρ=>if i < ρ.length then b6 (ρ.set i (b6 v)) else b8
 | .tup ts,v,ρ=>v.onTup b8 λl=>bindTs ts l ρ
noncomputable def bindTs:CTs→List V→Loc→Option Loc
 | .nil,l,ρ=>yT l b8 (b6 ρ)
 | .cons t r,l,ρ=>match l with
  | []=>b8
  | v :: l=>c8 (n7 t v ρ) b8 λρ'=>bindTs r l ρ'
end
def CT.isTup:CT→Bool
 | .name _=>false
 | .tup _=>true
def Out.turn (o:Out) (f:Loc→St→Out):Out:=match o with
 | .next ρ st=>f ρ st
 | .brk ρ st=> .next ρ st
 | o=>o
def Out.seq (o:Out) (f:Loc→St→Out):Out:=match o with
 | .next ρ st=>f ρ st
 | o=>o
def Out.caught (o:Out) (f:Exc→Loc→St→Out):Out:=match o with
 | .bad e ρ st=>f e ρ st
 | .next ρ st=> .next ρ st
 | .ret v st=> .ret v st
 | _=> .stuck
def Out.unset (o:Out) (i:Nat):Out:=match o with
 | .next ρ st=> .next (ρ.set i b8) st
 | .ret v st=> .ret v st
 | _=> .stuck
def GE (ρ:Loc) (r:Res):Out:=match r with
 | .ok v st=> .ret v st
 | .mk e st=> .retmk e st
 | .bad e st=> .bad e ρ st
 | .stuck=> .stuck
def nA (ρ:Loc) (r:Res):Out:=match r with
 | .mk e st=> .bad e ρ st
 | .bad e st=> .bad e ρ st
 | _=> .stuck
def wJ (t:Loc→St→Res) (body:Loc→St→Out):Nat→Loc→St→Out
 | 0,_,_=> .stuck
 | f+1,ρ,st=>(t ρ st).bindO ρ λv st=>v.onB .stuck λq=>T4 q ((body ρ st).turn λρ' st'=>wJ t body f ρ' st') (.next ρ st)
def nO (n:Nat) (st:St) (k:Nat):Option (Option V):=r6 st n b8 λl=>b6 (l[k]?.map λx=> .tup [.int k,x])
def fX (get:St→Nat→Option (Option V)) (body:V→Loc→St→Out):Nat→Nat→Loc→St→Out
 | 0,_,_,_=> .stuck
 | f+1,k,ρ,st=>c8 (get st k) .stuck λo=>c8 o (.next ρ st) λx=>(body x ρ st).turn λρ' st'=>fX get body f (k+1) ρ' st'
mutual
noncomputable def exec (T:Tabs) (N:Nat) (Φ:d7) (self:Option Nat):CS→Loc→St→Out
 | .expr e,ρ,st=>(i4 T N Φ e ρ st).bindO ρ λz st=> .next ρ st
 | .set t e,ρ,st=>if N=0∧t.isTup=true then .stuck else (i4 T N Φ e ρ st).bindO ρ λv st=>c8 (n7 t v ρ) .stuck λρ'=> .next ρ' st
 | .setAttr name o e,ρ,st=>(i4 T N Φ e ρ st).bindO ρ λv st=>(i4 T N Φ o ρ st).bindO ρ λd st=>c8 (Internal.setAttr T self name d v st) .stuck λst'=> .next ρ st'
 | .setSub o i e,ρ,st=>(i4 T N Φ e ρ st).bindO ρ λv st=>(i4 T N Φ o ρ st).bindO ρ λd st=>(i4 T N Φ i ρ st).bindO ρ λs st=>c8 (Internal.setSub d s v st) .stuck λst'=> .next ρ st'
 | .augName i op e,ρ,st=>c8 ρ[i]? .stuck λo=>c8 o .stuck λc=>(i4 T N Φ e ρ st).bindO ρ λv st=>(L8 op c v st).bindO ρ λnew st=> .next (ρ.set i (b6 new)) st
 | .augAttr name o op e,ρ,st=>(i4 T N Φ o ρ st).bindO ρ λd st=>(Internal.getAttr T name d st).bindO ρ λc st=>
   (i4 T N Φ e ρ st).bindO ρ λv st=>(L8 op c v st).bindO ρ λnew st=>c8 (Internal.setAttr T self name d new st) .stuck λst'=> .next ρ st'
 | .augSub o i op e,ρ,st=>(i4 T N Φ o ρ st).bindO ρ λd st=>(i4 T N Φ i ρ st).bindO ρ λs st=>(s8 d s st).bindO ρ λc st=>
   (i4 T N Φ e ρ st).bindO ρ λv st=>(L8 op c v st).bindO ρ λnew st=>c8 (Internal.setSub d s new st) .stuck λst'=> .next ρ st'
 | .ite t a b,ρ,st=>(i4 T N Φ t ρ st).bindO ρ λv st=>v.onB .stuck λq=>T4 q (execs T N Φ self a ρ st) (execs T N Φ self b ρ st)
 | .whl t body,ρ,st=>wJ (λρ st=>i4 T N Φ t ρ st) (λρ st=>execs T N Φ self body ρ st) N ρ st
 | .for t j body,ρ,st=>(i4 T N Φ j ρ st).bindO ρ λv st=>c8 (P7 v st) .stuck λsrc=>
   fX src.at (λx ρ st=>c8 (n7 t x ρ) .stuck λρ'=>execs T N Φ self body ρ' st) N 0 ρ st
 | .forEnum t j body,ρ,st=>(i4 T N Φ j ρ st).bindO ρ λv st=>v.onRef .stuck λn=>r6 st n .stuck λz=>
   fX (nO n) (λx ρ st=>c8 (n7 t x ρ) .stuck λρ'=>execs T N Φ self body ρ' st) N 0 ρ st
 | .ret e,ρ,st=>GE ρ (i4 T N Φ e ρ st)
 | .raise e,ρ,st=>if N=0 then .stuck else nA ρ (i4 T N Φ e ρ st)
 | .brk,ρ,st=> .brk ρ st
 | .try body i h,ρ,st=>(execs T N Φ self body ρ st).caught λe ρ' st'=>if i < ρ'.length then
   (execs T 0 (λz z z=> .stuck) self h (ρ'.set i (b6 (.exc st'.length))) (st'++ [D7 e])).unset i else .stuck
noncomputable def execs (T:Tabs) (N:Nat) (Φ:d7) (self:Option Nat):CSs→Loc→St→Out
 | .nil,ρ,st=> .next ρ st
 | .cons s r,ρ,st=>(exec T N Φ self s ρ st).seq λρ' st'=>execs T N Φ self r ρ' st'
end
structure CFn where
 npar:Nat
 nloc:Nat
 dflt:List V
 body:CSs
def F8 (f:CFn) (args:List V):Option Loc:=
 if args.length≤f.npar∧f.npar≤args.length+f.dflt.length∧f.npar≤f.nloc then
  b6 ((args++f.dflt.drop (f.dflt.length-(f.npar-args.length))).map b6++dW (f.nloc-f.npar) b8)
 else b8
structure Prog where
 tabs:Tabs
 fns:List (Nat×CFn)
 clss:List (Nat×Nat)
 exc:Nat
def C7 {α:Type}:List (Nat×α)→Nat→Option α
 | [],_=>b8
 | p :: r,k=>if p.1=k then b6 p.2 else C7 r k
theorem Xk {α:Type} {p:Nat×α} {r:List (Nat×α)} {k:Nat}:C7 (p :: r) k=if p.1=k then b6 p.2 else C7 r k:=rfl
def Out.res (o:Out):Res:=match o with
 | .next _ st'=> .ok .none st'
 | .ret v st'=> .ok v st'
 | .retmk e st'=> .mk e st'
 | .bad e _ st'=> .bad e st'
 | _=> .stuck
def P6 (P:Prog) (N:Nat) (Φ:d7) (self:Option Nat) (f:CFn) (args:List V) (st:St):Res:=c8 (F8 f args) .stuck λρ=>(execs P.tabs N Φ self f.body ρ st).res
def Res.trim (k:Nat):Res→Res
 | .ok v st=> .ok v (if v.flat then st.take k else st)
 | .mk e st=> .mk e (st.take k)
 | .bad e st=> .bad e (st.take k)
 | .stuck=> .stuck
def Res.lay (st:St):Res→Res
 | .ok v st'=>if v.flat then .ok v st else .ok (v.shift st.length) (st++st'.map (AObj.shift st.length))
 | .mk e _=> .mk e st
 | .bad e _=> .bad e st
 | .stuck=> .stuck
def qb (c n:Nat) (r:Res):Res:=match r with
 | .ok v st=>v.onNone .stuck (.ok (.inst c n) st)
 | _=> .stuck
def Lw (args:List V) (st:St):Res:=IY args .stuck λv w x=>v.onStr .stuck λa=>w.onInt .stuck λr=>x.onInt .stuck λc=> .mk ⟨a,r,c⟩ st
def c0 (P:Prog) (N:Nat):Nat→d7
 | 0=>λz z z=> .stuck
 | d+1=>λa args st=>match C7 P.fns a with
  | some f=>T4 (V.flats args) ((P6 P N (c0 P N d) b8 f args []).lay st) ((P6 P N (c0 P N d) b8 f args st).trim st.length)
  | none=>match C7 P.clss a with
   | some i=>c8 (C7 P.fns i) .stuck λf=>qb a st.length (P6 P N (c0 P N d) (b6 st.length) f (V.inst a st.length :: args) (st++ [.ns []]))
   | none=>if a=P.exc∧d≠0 then Lw args st else .stuck
end
section
open CE renaming loc→L,cst→C,call→A,cmp1→K,bin→B,im→M,bm→Y,bop→O,slice→Z
open V renaming int→I,fn→F
open CT renaming name→N
open CS renaming set→S,ret→R,expr→E,raise→W
local macro_rules
  | `([$xs,*]) => do
    let mut r ← `(.nil)
    for x in xs.getElems.reverse do r ← `(.cons $x $r)
    return r
local macro_rules
  | `(f! $i) => do
    let l := ((i.raw.getArgs[0]!.isInterpolatedStrLit?).getD "").toList.toArray.map λc => (Lean.quote c.toNat : Lean.Term)
    `(.cst (.str [$l,*]))
def XO:CFn:=⟨2,3,[],[.ite (K .eq (L 0) f!"bridge") [S (N 2) (.dict [f!"filter",.neg (C (I 200))]),.ite (K .eq (L 1) f!"prerouting") [.setSub (L 2) f!"dstnat" (.neg (C (I 300)))] [],.ite (K .eq (L 1) f!"output") [.setSub (L 2) f!"out" (C (I 100))] [],.ite (K .eq (L 1) f!"postrouting") [.setSub (L 2) f!"srcnat" (C (I 300))] [],R (L 2)] [],S (N 2) (.dict [f!"filter",C (I 0)]),.ite (K .isin (L 0) (.tup [f!"ip",f!"ip6",f!"inet"])) [.setSub (L 2) f!"raw" (.neg (C (I 300))),.setSub (L 2) f!"mangle" (.neg (C (I 150))),.setSub (L 2) f!"security" (C (I 50)),.ite (K .isin (L 1) (.tup [f!"prerouting",f!"output"])) [.setSub (L 2) f!"dstnat" (.neg (C (I 100)))] [],.ite (K .isin (L 1) (.tup [f!"postrouting",f!"input"])) [.setSub (L 2) f!"srcnat" (C (I 100))] []] [],R (L 2)]⟩
def zP:CFn:=⟨2,3,[],[E (M s!"__init__" (C (.bi .exc)) [L 0,L 1]),.setAttr s!"why" (L 0) (L 1),.setAttr s!"at" (L 0) (.neg (C (I 1)))]⟩
def AP:CFn:=⟨4,5,[I 0,I 0],[E (M s!"__init__" (C (.cls 38)) [L 0,L 1]),.setAttr s!"row" (L 0) (L 2),.setAttr s!"column" (L 0) (L 3)]⟩
def DE:CFn:=⟨2,5,[],[.ite (K .eq (L 0) (C (.str []))) [R (C .none)] [],S (N 2) (C (I 0)),.for (N 3) (L 0) [S (N 4) (Y .find f!"0123456789abcdef" [Y .lower (L 3) []]),.ite (O false [K .lt (L 4) (C (I 0)),K .ge (L 4) (L 1)]) [R (C .none)] [],S (N 2) (B .add (B .mul (L 2) (L 1)) (L 4))],R (L 2)]⟩
def OM:CFn:=⟨1,2,[],[.ite (K .eq (Z (L 0) (C .none) (C (I 2)) (C .none)) f!"0x") [R (A (C (F 129)) [Z (L 0) (C (I 2)) (C .none) (C .none),C (I 16)])] [],R (A (C (F 129)) [L 0,C (I 10)])]⟩
def Xh:CFn:=⟨0,0,[],[R (.tup [.tup [f!"d",C (I 86400000)],.tup [f!"h",C (I 3600000)],.tup [f!"m",C (I 60000)],.tup [f!"s",C (I 1000)],.tup [f!"ms",C (I 1)]])]⟩
def XJ:CFn:=⟨3,4,[],[.whl (O true [K .lt (L 1) (A (C (.bi .len)) [L 0]),K .eq (K .isin (.sub (L 0) (L 1)) f!"0123456789") (L 2)]) [.augName 1 .add (C (I 1))],R (L 1)]⟩
def VY:CFn:=⟨1,16,[],[S (N 1) (A (C (F 129)) [L 0,C (I 10)]),.ite (K .isnot (L 1) (C .none)) [R (B .mul (L 1) (C (I 1000)))] [],.ite (K .eq (L 0) (C (.str []))) [R (C .none)] [],S (N 2) (A (C (F 143)) []),S (N 3) (C (I 0)),S (N 4) (C (I 0)),S (N 5) (C (I 0)),.whl (K .lt (L 5) (A (C (.bi .len)) [L 0])) [S (N 6) (A (C (F 150)) [L 0,L 5,C (.bool true)]),S (N 7) (A (C (F 150)) [L 0,L 6,C (.bool false)]),S (N 8) (A (C (F 129)) [Z (L 0) (L 5) (L 6) (C .none),C (I 10)]),S (N 9) (.neg (C (I 1))),.for (N 10) (A (C (.bi .range)) [L 4,A (C (.bi .len)) [L 2]]) [.ite (K .eq (.sub (.sub (L 2) (L 10)) (C (I 0))) (Z (L 0) (L 6) (L 7) (C .none))) [S (N 9) (L 10)] []],.ite (O false [K .is (L 8) (C .none),K .lt (L 9) (C (I 0))]) [R (C .none)] [],.augName 3 .add (B .mul (L 8) (.sub (.sub (L 2) (L 9)) (C (I 1)))),S (N 4) (B .add (L 9) (C (I 1))),S (N 5) (L 7)],R (L 3)]⟩
def On:CFn:=⟨3,12,[],[S (N 3) (.sub (L 0) (C (I 2))),.ite (K .isin (L 2) (.sub (L 0) (C (I 3)))) [S (N 4) (.sub (.sub (L 0) (C (I 3))) (L 2))] [.ite (K .eq (L 3) f!"ip4") [S (N 4) (A (C (F 94)) [L 2])] [.ite (K .eq (L 3) f!"ip6") [S (N 4) (A (C (F 108)) [L 2])] [.ite (K .eq (L 3) f!"mac") [S (N 4) (A (C (F 115)) [L 2])] [.ite (K .eq (L 3) f!"name") [S (N 4) (A (C (F 171)) [L 2])] [.ite (K .eq (L 3) f!"time") [S (N 4) (A (C (F 157)) [L 2])] [.ite (K .eq (L 3) f!"mask") [S (N 4) (A (C (F 178)) [.sub (L 0) (C (I 3)),L 2])] [S (N 4) (A (C (F 136)) [L 2])]]]]]]],.ite (O true [K .isnot (L 4) (C .none),K .ne (B .shr (L 4) (L 1)) (C (I 0))]) [R (.neg (C (I 1)))] [],R (L 4)]⟩
def PZ:CFn:=⟨1,1,[],[.ite (K .eq (.sub (L 0) (C (I 0))) f!"eof") [R f!"end of file"] [],.ite (K .eq (.sub (L 0) (C (I 0))) f!"end") [.ite (K .eq (.sub (L 0) (C (I 1))) f!"\n") [R f!"newline"] [],R f!";"] [],R (B .add (B .add f!"'" (.sub (L 0) (C (I 1)))) f!"'")]⟩
def LK:CFn:=⟨2,5,[],[S (N 2) (B .add (B .add (B .add f!"syntax error, unexpected " (A (C (F 192)) [L 0])) f!", expecting ") (L 1)),R (A (C (.cls 71)) [L 2,.sub (L 0) (C (I 2)),.sub (L 0) (C (I 3))])]⟩
def Lr:CFn:=⟨3,3,[],[.setAttr s!"tokens" (L 0) (L 1),.setAttr s!"at" (L 0) (C (I 0)),.setAttr s!"tongue" (L 0) (L 2),.setAttr s!"known" (L 0) (.dict []),.setAttr s!"family" (L 0) (C (.str [])),.setAttr s!"table" (L 0) (C (.str []))]⟩
def GL:CFn:=⟨2,4,[I 0],[S (N 2) (B .add (.attr s!"at" (L 0)) (L 1)),.ite (K .ge (L 2) (A (C (.bi .len)) [.attr s!"tokens" (L 0)])) [S (N 2) (B .sub (A (C (.bi .len)) [.attr s!"tokens" (L 0)]) (C (I 1)))] [],R (.sub (.attr s!"tokens" (L 0)) (L 2))]⟩
def PH:CFn:=⟨1,2,[],[S (N 1) (M s!"look" (L 0) []),.augAttr s!"at" (L 0) .add (C (I 1)),R (L 1)]⟩
def Nb:CFn:=⟨2,3,[],[S (N 2) (M s!"look" (L 0) []),R (O true [K .eq (.sub (L 2) (C (I 0))) f!"sign",K .eq (.sub (L 2) (C (I 1))) (L 1)])]⟩
def LZ:CFn:=⟨2,3,[],[S (N 2) (M s!"look" (L 0) []),R (O true [K .eq (.sub (L 2) (C (I 0))) f!"word",K .eq (.sub (L 2) (C (I 1))) (L 1)])]⟩
def MB:CFn:=⟨2,2,[],[.ite (.not (M s!"is_sign" (L 0) [L 1])) [R (C (.bool false))] [],.augAttr s!"at" (L 0) .add (C (I 1)),R (C (.bool true))]⟩
def Mz:CFn:=⟨2,3,[],[.ite (.not (M s!"skip_sign" (L 0) [L 1])) [W (A (C (F 291)) [L 0,B .add (B .add f!"'" (L 1)) f!"'"])] []]⟩
def Qx:CFn:=⟨1,2,[],[.ite (K .ne (.sub (M s!"look" (L 0) []) (C (I 0))) f!"word") [W (A (C (F 291)) [L 0,f!"string"])] [],R (.sub (M s!"take" (L 0) []) (C (I 1)))]⟩
def zu:CFn:=⟨1,1,[],[.whl (O true [K .eq (.sub (M s!"look" (L 0) []) (C (I 0))) f!"end",K .eq (.sub (M s!"look" (L 0) []) (C (I 1))) f!"\n"]) [.augAttr s!"at" (L 0) .add (C (I 1))]]⟩
def LR:CFn:=⟨2,4,[],[S (N 2) (M s!"look" (L 0) []),R (A (C (.cls 71)) [L 1,.sub (L 2) (C (I 2)),.sub (L 2) (C (I 3))])]⟩
def Qp:CFn:=⟨2,3,[],[R (A (C (F 199)) [M s!"look" (L 0) [],L 1])]⟩
def Mr:CFn:=⟨1,5,[],[S (N 1) (M s!"look" (L 0) []),S (N 2) (C .none),.ite (K .eq (.sub (L 1) (C (I 0))) f!"word") [S (N 2) (A (C (F 136)) [.sub (L 1) (C (I 1))])] [],.ite (K .is (L 2) (C .none)) [W (A (C (F 291)) [L 0,f!"number"])] [],E (M s!"take" (L 0) []),R (L 2)]⟩
def Qq:CFn:=⟨2,3,[],[.ite (.not (M s!"is_word" (L 0) [L 1])) [W (A (C (F 291)) [L 0,L 1])] [],E (M s!"take" (L 0) [])]⟩
def Ot:CFn:=⟨3,3,[],[R (M s!"fault" (L 0) [.fstr [f!"Value ",.fmt (L 1),f!" exceeds valid range 0-",.fmt (L 2)]])]⟩
def MS:CFn:=⟨2,7,[],[S (N 2) (M s!"look" (L 0) []),.ite (K .eq (.sub (L 2) (C (I 0))) f!"word") [S (N 3) (A (C (F 136)) [.sub (L 2) (C (I 1))]),.ite (O true [K .isnot (L 3) (C .none),K .gt (L 3) (L 1)]) [W (A (C (F 312)) [L 0,.sub (L 2) (C (I 1)),L 1])] []] [],R (A (C (F 298)) [L 0])]⟩
def Nw:CFn:=⟨1,2,[],[.ite (K .notin (.sub (M s!"look" (L 0) []) (C (I 0))) (.tup [f!"string",f!"word"])) [W (A (C (F 291)) [L 0,f!"string"])] [],R (.sub (M s!"take" (L 0) []) (C (I 1)))]⟩
def NS:CFn:=⟨1,6,[],[S (N 1) (M s!"look" (L 0) []),S (N 2) (.ite (K .eq (.sub (L 1) (C (I 0))) f!"word") (A (C (F 157)) [.sub (L 1) (C (I 1))]) (C .none)),.ite (K .is (L 2) (C .none)) [W (A (C (F 291)) [L 0,f!"time"])] [],.ite (K .ne (B .shr (L 2) (C (I 64))) (C (I 0))) [W (A (C (F 312)) [L 0,.sub (L 1) (C (I 1)),B .sub (B .pow (C (I 2)) (C (I 64))) (C (I 1))])] [],E (M s!"take" (L 0) []),R (L 2)]⟩
def EB:CFn:=⟨2,3,[],[.ite (K .notin (L 1) (.attr s!"types" (.attr s!"tongue" (L 0)))) [W (A (C (.cls 51)) [.fstr [f!"unknown type '",.fmt (L 1),f!"'"]])] [],R (.sub (.attr s!"types" (.attr s!"tongue" (L 0))) (L 1))]⟩
def uz:CFn:=⟨4,5,[],[.ite (K .is (L 3) (C .none)) [W (M s!"fault" (L 0) [.fstr [f!"Could not resolve '",.fmt (L 2),f!"' as ",.fmt (.sub (L 1) (C (I 0)))]])] [],.ite (K .eq (L 3) (.neg (C (I 1)))) [W (A (C (F 312)) [L 0,L 2,B .sub (B .pow (C (I 2)) (.sub (L 1) (C (I 1)))) (C (I 1))])] [],R (L 3)]⟩
def MM:CFn:=⟨3,6,[],[R (A (C (F 347)) [L 0,L 1,L 2,A (C (F 185)) [A (C (F 340)) [L 0,.sub (L 1) (C (I 0))],.sub (L 1) (C (I 1)),L 2]])]⟩
def Ph:CFn:=⟨3,7,[],[S (N 3) (M s!"look" (L 0) []),.ite (K .notin (.sub (L 3) (C (I 0))) (.tup [f!"word",f!"string"])) [W (A (C (F 291)) [L 0,f!"value"])] [],S (N 4) (A (C (F 354)) [L 0,L 1,.sub (L 3) (C (I 1))]),.ite (K .lt (L 4) (L 2)) [W (M s!"fault" (L 0) [f!"Range negative size"])] [],E (M s!"take" (L 0) []),R (L 4)]⟩
def NW:CFn:=⟨2,3,[],[R (A (C (F 361)) [L 0,L 1,C (I 0)])]⟩
def BD:CFn:=⟨2,3,[],[S (N 2) (Z (.list [f!"bytes",f!"kbytes",f!"mbytes",f!"gbytes"]) (C .none) (L 1) (C .none)),R (.ite (K .isin (L 0) (L 2)) (B .pow (C (I 1024)) (Y .index (L 2) [L 0])) (C (I 0)))]⟩
def Oz:CFn:=⟨3,5,[],[.ite (K .ge (B .mul (L 1) (L 2)) (B .pow (C (I 2)) (C (I 64)))) [W (A (C (F 312)) [L 0,A (C (.bi .str)) [B .mul (L 1) (L 2)],B .sub (B .pow (C (I 2)) (C (I 64))) (C (I 1))])] [],R (B .mul (L 1) (L 2))]⟩
def Ms:CFn:=⟨2,10,[I 4],[S (N 2) (A (C (F 319)) [L 0,B .sub (B .pow (C (I 2)) (C (I 64))) (C (I 1))]),S (N 3) (M s!"look" (L 0) []),S (N 4) (.ite (K .eq (.sub (L 3) (C (I 0))) f!"word") (A (C (F 375)) [.sub (L 3) (C (I 1)),L 1]) (C (I 0))),.ite (K .eq (L 4) (C (I 0))) [W (A (C (F 291)) [L 0,.ite (K .eq (L 1) (C (I 3))) f!"bytes, kbytes or mbytes" f!"bytes, kbytes, mbytes or gbytes"])] [],S (N 5) (A (C (F 382)) [L 0,L 2,L 4]),E (M s!"take" (L 0) []),R (L 5)]⟩
def Ou:CFn:=⟨1,2,[],[S (N 1) (M s!"is_word" (L 0) [f!"over"]),.ite (O false [L 1,M s!"is_word" (L 0) [f!"until"]]) [E (M s!"take" (L 0) [])] [],R (L 1)]⟩
def Mw:CFn:=⟨1,4,[],[.ite (.not (M s!"is_word" (L 0) [f!"packets"])) [R (.tup [C (I 0),C (I 0)])] [],E (M s!"take" (L 0) []),S (N 1) (A (C (F 319)) [L 0,B .sub (B .pow (C (I 2)) (C (I 64))) (C (I 1))]),E (A (C (F 305)) [L 0,f!"bytes"]),R (.tup [L 1,A (C (F 319)) [L 0,B .sub (B .pow (C (I 2)) (C (I 64))) (C (I 1))]])]⟩
def Mf:CFn:=⟨1,5,[],[S (N 1) (A (C (F 397)) [L 0]),S (N 2) (A (C (F 390)) [L 0]),.ite (.not (M s!"is_word" (L 0) [f!"used"])) [R (.tup [L 1,L 2,C (I 0)])] [],E (M s!"take" (L 0) []),R (.tup [L 1,L 2,A (C (F 390)) [L 0]])]⟩
def OI:CFn:=⟨1,3,[],[S (N 1) (M s!"look" (L 0) []),.ite (K .ne (.sub (L 1) (C (I 0))) f!"word") [R (.tup [C (.str []),C .none])] [],S (N 2) (Y .find (.sub (L 1) (C (I 1))) [f!"/"]),.ite (K .lt (L 2) (C (I 0))) [R (.tup [.sub (L 1) (C (I 1)),C .none])] [],R (.tup [Z (.sub (L 1) (C (I 1))) (C .none) (L 2) (C .none),Z (.sub (L 1) (C (I 1))) (B .add (L 2) (C (I 1))) (C .none) (C .none)])]⟩
def Mh:CFn:=⟨1,1,[],[R (O true [K .isin (.sub (L 0) (C (I 0))) (.tup [f!"sign",f!"word"]),K .eq (Z (.sub (L 0) (C (I 1))) (C .none) (C (I 1)) (C .none)) f!"/"])]⟩
def My:CFn:=⟨2,4,[],[.ite (O true [K .is (L 1) (C .none),A (C (F 425)) [M s!"look" (L 0) [C (I 1)]]]) [E (M s!"take" (L 0) []),S (N 1) (Z (.sub (M s!"look" (L 0) []) (C (I 1))) (C (I 1)) (C .none) (C .none))] [],.ite (O true [K .eq (L 1) (C (.str [])),K .eq (.sub (M s!"look" (L 0) [C (I 1)]) (C (I 0))) f!"word"]) [E (M s!"take" (L 0) []),S (N 1) (.sub (M s!"look" (L 0) []) (C (I 1)))] [],.ite (K .notin (L 1) (.tup [f!"second",f!"minute",f!"hour",f!"day",f!"week"])) [W (A (C (F 291)) [L 0,f!"second, minute, hour, day or week"])] [],E (M s!"take" (L 0) []),R (L 1)]⟩
def PL:CFn:=⟨1,14,[],[S (.tup [N 1,N 2]) (A (C (F 418)) [L 0]),S (N 3) (A (C (F 136)) [L 1]),.ite (K .is (L 3) (C .none)) [W (A (C (F 291)) [L 0,f!"number"])] [],.ite (K .ge (L 3) (B .pow (C (I 2)) (C (I 64)))) [W (A (C (F 312)) [L 0,L 1,B .sub (B .pow (C (I 2)) (C (I 64))) (C (I 1))])] [],S (N 4) (C (I 0)),.ite (O true [K .is (L 2) (C .none),.not (A (C (F 425)) [M s!"look" (L 0) [C (I 1)]])]) [E (M s!"take" (L 0) []),S (.tup [N 1,N 2]) (A (C (F 418)) [L 0]),S (N 4) (A (C (F 375)) [L 1,C (I 3)]),.ite (K .eq (L 4) (C (I 0))) [W (A (C (F 291)) [L 0,f!"'/'"])] [],S (N 3) (A (C (F 382)) [L 0,L 3,L 4])] [],S (N 5) (A (C (F 432)) [L 0,L 2]),R (.tup [L 3,L 5,K .gt (L 4) (C (I 0))])]⟩
def Ma:CFn:=⟨1,11,[],[E (A (C (F 305)) [L 0,f!"rate"]),S (N 1) (A (C (F 397)) [L 0]),S (.tup [N 2,N 3,N 4]) (A (C (F 439)) [L 0]),.ite (.not (M s!"is_word" (L 0) [f!"burst"])) [R (.tup [L 1,L 2,L 3,.ite (L 4) (C (I 0)) (C (I 5)),L 4])] [],E (M s!"take" (L 0) []),.ite (L 4) [R (.tup [L 1,L 2,L 3,A (C (F 390)) [L 0,C (I 3)],L 4])] [],S (N 5) (A (C (F 319)) [L 0,B .sub (B .pow (C (I 2)) (C (I 32))) (C (I 1))]),E (A (C (F 305)) [L 0,f!"packets"]),R (.tup [L 1,L 2,L 3,L 5,L 4])]⟩
def zx:CFn:=⟨1,1,[],[.whl (K .eq (.sub (M s!"look" (L 0) []) (C (I 0))) f!"end") [E (M s!"take" (L 0) [])]]⟩
def Qv:CFn:=⟨1,3,[],[.ite (O true [K .notin (.sub (M s!"look" (L 0) []) (C (I 0))) (.tup [f!"end",f!"eof"]),.not (M s!"is_sign" (L 0) [f!"}"])]) [W (A (C (F 291)) [L 0,f!"newline or semicolon"])] [],E (A (C (F 453)) [L 0])]⟩
def QB:CFn:=⟨1,2,[],[E (M s!"want_sign" (L 0) [f!"\{"]),E (A (C (F 453)) [L 0])]⟩
def Lp:CFn:=⟨2,3,[],[S (N 2) (M s!"look" (L 0) []),.ite (O true [K .eq (.sub (L 2) (C (I 0))) f!"word",K .isin (.sub (L 2) (C (I 1))) (L 1)]) [R (.sub (L 2) (C (I 1)))] [],R (C (.str []))]⟩
def Ls:CFn:=⟨3,5,[],[S (N 3) (A (C (F 474)) [L 0,L 1]),.ite (K .eq (L 3) (C (.str []))) [W (M s!"fault" (L 0) [L 2])] [],E (M s!"take" (L 0) []),R (L 3)]⟩
def PW:CFn:=⟨1,3,[],[S (N 1) (M s!"look" (L 0) []),.ite (K .ne (.sub (L 1) (C (I 0))) f!"word") [W (A (C (F 291)) [L 0,f!"string"])] [],.ite (K .notin (.sub (L 1) (C (I 1))) (.attr s!"types" (.attr s!"tongue" (L 0)))) [W (M s!"fault" (L 0) [B .add (B .add f!"unknown datatype '" (.sub (L 1) (C (I 1)))) f!"'"])] [],.ite (K .eq (.sub (.sub (.attr s!"types" (.attr s!"tongue" (L 0))) (.sub (L 1) (C (I 1)))) (C (I 0))) (C (I 0))) [W (M s!"fault" (L 0) [B .add (B .add f!"unqualified type '" (.sub (L 1) (C (I 1)))) f!"' specified in set definition"])] [],E (M s!"take" (L 0) []),R (.sub (L 1) (C (I 1)))]⟩
def zH:CFn:=⟨1,4,[],[S (N 1) (.list [A (C (F 488)) [L 0]]),.whl (M s!"skip_sign" (L 0) [f!"."]) [E (Y .append (L 1) [A (C (F 488)) [L 0]])],R (A (C (.bi .tuple)) [L 1])]⟩
def yF:CFn:=⟨1,6,[],[S (N 1) (.tup [f!"constant",f!"dynamic",f!"interval",f!"timeout"]),S (N 2) (.dict []),S (N 3) (C (.bool true)),.whl (L 3) [.setSub (L 2) (A (C (F 481)) [L 0,L 1,f!"unknown set flag"]) (C (.bool true)),S (N 3) (M s!"skip_sign" (L 0) [f!","])],R (A (C (.bi .tuple)) [.compIf (L 6) (L 1) (K .isin (L 6) (L 2))])]⟩
def jX:CFn:=⟨2,9,[],[S (N 2) (M s!"is_sign" (L 0) [f!"\{"]),.ite (L 2) [E (A (C (F 467)) [L 0])] [],.ite (K .eq (L 1) f!"counter") [S (N 3) (A (C (F 404)) [L 0])] [.ite (K .eq (L 1) f!"quota") [S (N 3) (A (C (F 411)) [L 0])] [S (N 3) (A (C (F 446)) [L 0])]],.ite (L 2) [E (A (C (F 453)) [L 0]),E (M s!"want_sign" (L 0) [f!"}"])] [],R (L 3)]⟩
def Q7:CFn:=⟨1,12,[],[S (N 1) (.dict [f!"ip",C (I 2),f!"ip6",C (I 10)]),S (N 2) (.tup [f!"protocol",f!"dport",f!"timeout",f!"size",f!"l3proto"]),S (N 3) (.dict [f!"l3proto",Y .get (L 1) [.attr s!"family" (L 0),C (I 0)]]),E (A (C (F 467)) [L 0]),.whl (.not (M s!"skip_sign" (L 0) [f!"}"])) [S (N 4) (A (C (F 481)) [L 0,L 2,B .add f!"an expectation has " (Y .join f!", " [L 2])]),.ite (K .eq (L 4) f!"protocol") [.setSub (L 3) (L 4) (A (C (F 368)) [L 0,.tup [f!"inet_proto",C (I 8)]])] [.ite (K .eq (L 4) f!"dport") [.setSub (L 3) (L 4) (A (C (F 368)) [L 0,.tup [f!"inet_service",C (I 16)]])] [.ite (K .eq (L 4) f!"timeout") [.setSub (L 3) (L 4) (A (C (F 333)) [L 0])] [.ite (K .eq (L 4) f!"size") [.setSub (L 3) (L 4) (A (C (F 319)) [L 0,B .sub (B .pow (C (I 2)) (C (I 32))) (C (I 1))])] [.setSub (L 3) (L 4) (.sub (L 1) (A (C (F 481)) [L 0,.tup [f!"ip",f!"ip6"],f!"l3proto is ip or ip6"]))]]]],E (A (C (F 460)) [L 0])],.for (N 4) (L 2) [.ite (K .notin (L 4) (L 3)) [W (M s!"fault" (L 0) [B .add f!"expectation definition does not specify " (L 4)])] []],R (A (C (.bi .tuple)) [.comp (.sub (L 3) (L 12)) (L 2)])]⟩
def bN:CFn:=⟨1,4,[],[E (M s!"want_sign" (L 0) [f!"\{"]),E (M s!"skip_rows" (L 0) []),S (N 1) (.list []),.whl (.not (M s!"is_sign" (L 0) [f!"}"])) [E (Y .append (L 1) [A (C (F 326)) [L 0]]),E (M s!"skip_rows" (L 0) []),.ite (.not (M s!"skip_sign" (L 0) [f!","])) [.brk] [],E (M s!"skip_rows" (L 0) [])],E (M s!"want_sign" (L 0) [f!"}"]),R (A (C (.bi .tuple)) [L 1])]⟩
def BY:CFn:=⟨1,4,[],[S (N 1) (M s!"look" (L 0) []),.ite (O false [K .ne (.sub (L 1) (C (I 0))) f!"word",K .isin (.sub (.sub (L 1) (C (I 1))) (C (I 0))) f!"0123456789-/"]) [W (A (C (F 291)) [L 0,f!"string"])] [],.for (N 2) (.sub (L 1) (C (I 1))) [.ite (K .isin (L 2) f!":*+") [W (A (C (F 291)) [L 0,f!"string"])] []],E (M s!"take" (L 0) []),R (.sub (L 1) (C (I 1)))]⟩
def PK:CFn:=⟨1,3,[],[S (N 1) (A (C (F 474)) [L 0,.tup [f!"ip",f!"ip6",f!"inet",f!"arp",f!"bridge",f!"netdev"]]),.ite (K .eq (L 1) (C (.str []))) [R f!"ip"] [],E (M s!"take" (L 0) []),R (L 1)]⟩
def VF:CFn:=⟨1,3,[],[S (N 1) (.tup [f!"chain",f!"set",f!"map",f!"counter",f!"quota",f!"limit",f!"ct expectation",f!"flowtable"]),S (N 2) (.dict [f!"block",L 1,f!"insert",.tup [f!"rule"],f!"replace",.tup [f!"rule"],f!"flush",.tup [f!"ruleset",f!"table",f!"chain",f!"set",f!"map"],f!"rename",.tup [f!"chain"],f!"reset",.tup [f!"counter",f!"quota"]]),R (Y .get (L 2) [L 0,B .add (.tup [f!"table",f!"rule",f!"element"]) (L 1)])]⟩
def Ln:CFn:=⟨2,8,[],[S (N 2) (A (C (F 540)) [L 1]),.ite (O true [K .isin f!"ct expectation" (L 2),M s!"is_word" (L 0) [f!"ct"]]) [E (M s!"take" (L 0) []),E (A (C (F 305)) [L 0,f!"expectation"]),R f!"expectation"] [],S (N 3) (A (C (F 474)) [L 0,L 2]),.ite (K .eq (L 3) (C (.str []))) [W (A (C (F 291)) [L 0,Y .join f!" or " [L 2]])] [],E (M s!"take" (L 0) []),.ite (O true [K .eq (L 3) f!"map",K .eq (L 1) f!"flush"]) [R f!"set"] [],R (L 3)]⟩
def bW:CFn:=⟨2,9,[],[S (N 2) (C (I 0)),.whl (O true [K .lt (L 2) (A (C (.bi .len)) [L 1]),K .notin (.sub (L 1) (L 2)) f!"+-"]) [.augName 2 .add (C (I 1))],S (N 3) (Z (L 1) (C .none) (L 2) (C .none)),S (N 4) (Z (L 1) (L 2) (C .none) (C .none)),.ite (O true [K .eq (L 4) (C (.str [])),K .notin (L 3) (L 0)]) [R (A (C (F 136)) [L 3])] [],.ite (O true [K .ne (L 3) (C (.str [])),K .notin (L 3) (L 0)]) [R (C .none)] [],.ite (O true [K .eq (L 3) (C (.str [])),K .eq (.sub (L 4) (C (I 0))) f!"+"]) [R (C .none)] [],S (N 5) (Y .get (L 0) [L 3,C (I 0)]),.ite (K .eq (L 4) (C (.str []))) [R (L 5)] [],S (N 6) (A (C (F 136)) [Z (L 4) (C (I 1)) (C .none) (C .none)]),.ite (K .is (L 6) (C .none)) [R (C .none)] [],.ite (K .eq (.sub (L 4) (C (I 0))) f!"+") [R (B .add (L 5) (L 6))] [],R (B .sub (L 5) (L 6))]⟩
def bQ:CFn:=⟨3,8,[],[S (N 3) (.attr s!"at" (L 0)),S (N 4) (M s!"want_word" (L 0) []),.whl (O true [K .eq (.sub (M s!"look" (L 0) []) (C (I 0))) f!"word",O false [K .isin (.sub (L 4) (.neg (C (I 1)))) f!"+-",K .isin (.sub (.sub (M s!"look" (L 0) []) (C (I 1))) (C (I 0))) f!"+-"]]) [.augName 4 .add (.sub (M s!"take" (L 0) []) (C (I 1)))],S (N 5) (A (C (F 554)) [A (C (F 21)) [L 1,L 2],L 4]),.ite (O false [K .is (L 5) (C .none),.not (.cmp2 .le .lt (.neg (B .pow (C (I 2)) (C (I 31)))) (L 5) (B .pow (C (I 2)) (C (I 31))))]) [.setAttr s!"at" (L 0) (L 3),W (M s!"fault" (L 0) [B .add (B .add f!"'" (L 4)) f!"' is invalid priority in this context."])] [],R (L 5)]⟩
def OD:CFn:=⟨1,9,[],[E (A (C (F 305)) [L 0,f!"type"]),S (N 1) (A (C (F 481)) [L 0,.tup [f!"filter",f!"nat",f!"route"],f!"unknown chain type"]),E (A (C (F 305)) [L 0,f!"hook"]),S (N 2) (.tup [f!"prerouting",f!"input",f!"forward",f!"output",f!"postrouting",f!"ingress"]),S (N 3) (A (C (F 481)) [L 0,L 2,f!"unknown chain hook"]),S (N 4) (C (.str [])),.ite (M s!"is_word" (L 0) [f!"device"]) [E (M s!"take" (L 0) []),S (N 4) (A (C (F 326)) [L 0])] [],E (A (C (F 305)) [L 0,f!"priority"]),R (.tup [L 1,L 3,A (C (F 561)) [L 0,.attr s!"family" (L 0),L 3],L 4])]⟩
def bp:CFn:=⟨1,9,[],[S (N 1) (C .none),S (N 2) (.tup []),E (A (C (F 467)) [L 0]),.whl (.not (M s!"skip_sign" (L 0) [f!"}"])) [.ite (K .eq (A (C (F 481)) [L 0,.tup [f!"hook",f!"devices"],f!"a flowtable has hook and devices"]) f!"hook") [E (A (C (F 305)) [L 0,f!"ingress"]),E (A (C (F 305)) [L 0,f!"priority"]),S (N 1) (A (C (F 561)) [L 0,.attr s!"family" (L 0),f!"ingress"])] [E (M s!"want_sign" (L 0) [f!"="]),S (N 2) (A (C (F 519)) [L 0])],E (A (C (F 460)) [L 0])],.ite (K .is (L 1) (C .none)) [W (M s!"fault" (L 0) [f!"missing hook and priority in flowtable declaration"])] [],R (.tup [L 1,L 2])]⟩
def tB:CFn:=⟨1,5,[],[S (N 1) (.dict [f!"chain",C (I 1),f!"set",C (I 2),f!"map",C (I 2),f!"element",C (I 3),f!"rule",C (I 4)]),S (N 2) (.list []),.for (N 3) (.tup [C (I 0),C (I 1),C (I 2),C (I 3),C (I 4)]) [.for (N 4) (L 0) [.ite (K .eq (Y .get (L 1) [.sub (L 4) (C (I 1)),C (I 0)]) (L 3)) [E (Y .append (L 2) [L 4])] []]],R (L 2)]⟩
def Qi:CFn:=⟨3,3,[],[.setAttr s!"fields" (L 0) (L 1),.setAttr s!"types" (L 0) (L 2)]⟩
def Xy:CFn:=⟨0,0,[],[R (.list [.list [C (I 0),C (I 0),C (I 0),C (I 0),C (I 0),C (I 1),C (I 4),C (I 1),C (I 2)],.list [C (I 1),C (I 1),C (I 0),C (I 0),C (I 0),C (I 1),C (I 2),C (I 0),C (I 0),C (I 1),C (I 1),C (I 2)],.list [C (I 2),C (I 2),C (I 0),C (I 0),C (I 0),C (I 5),C (I 0),C (I 0),C (I 1),C (I 1),C (I 2),C (I 2),C (I 3),C (I 0),C (I 4),C (I 1)],.list [C (I 3),C (I 0),C (I 0),C (I 0),C (I 0),C (I 1),C (I 1),C (I 2),C (I 1),C (I 3)],.list [C (I 4),C (I 0),C (I 0),C (I 0),C (I 0),C (I 1),C (I 3),C (I 1),C (I 2)],.list [C (I 5),C (I 1),C (I 0),C (I 0),C (I 0),C (I 7),C (I 1),C (I 1)],.list [C (I 6),C (I 0),C (I 0),C (I 0),C (I 0),C (I 2),C (I 0),C (I 1),C (I 2),C (I 1),C (I 3)],.list [C (I 0),C (I 3),C (I 0),C (I 0),C (I 0),C (I 0),C (I 0),C (I 0),C (I 8)]])]⟩
def Il:CFn:=⟨2,4,[],[S (N 2) (.ite (K .ne (.sub (L 0) f!"row") (.list [])) (Y .pop (.sub (L 0) f!"row") [C (I 0)]) (C (I 0))),S (N 3) (B .mod (B .add (L 2) (.sub (L 0) f!"rest")) (L 1)),.setSub (L 0) f!"rest" (B .fdiv (.sub (L 0) f!"rest") (L 1)),R (L 3)]⟩
def NJ:CFn:=⟨2,4,[],[R (.sub (L 1) (A (C (F 617)) [L 0,A (C (.bi .len)) [L 1]]))]⟩
def W5:CFn:=⟨1,4,[],[S (N 1) (.list []),.for (N 2) (Y .split (L 0) [f!" "]) [S (N 3) (.ite (K .isin (L 2) (.tup [f!"\{",f!"}",f!"=",f!",",f!"."])) f!"sign" (.ite (K .isin (L 2) (.tup [f!";",f!"\n"])) f!"end" f!"word")),.ite (K .ne (L 2) (C (.str []))) [E (Y .append (L 1) [.ite (K .eq (.sub (L 2) (C (I 0))) f!"!") (.tup [f!"string",Z (L 2) (C (I 1)) (C .none) (C .none)]) (.tup [L 3,L 2])])] []],R (L 1)]⟩
def Wl:CFn:=⟨0,0,[],[R (.list [f!"ip",f!"inet",f!"ip6",f!"bridge",f!"arp",f!"netdev"])]⟩
def Wq:CFn:=⟨0,0,[],[R (.list [f!"prerouting",f!"input",f!"forward",f!"output",f!"postrouting",f!"ingress"])]⟩
def Xf:CFn:=⟨0,0,[],[R (.list [f!"filter",f!"filter + 3",f!"srcnat -5",f!"-300",f!"0x10",f!"raw - 0x5",f!"dstnat",f!"mangle-7",f!"+5",f!"5 +3",f!"out",f!"filter -"])]⟩
def Oa:CFn:=⟨1,6,[],[S (N 1) (B .add (B .add (B .add f!"type " (A (C (F 624)) [L 0,.list [f!"filter",f!"nat",f!"route"]])) f!" hook ") (A (C (F 624)) [L 0,A (C (F 645)) []])),S (N 1) (B .add (L 1) (.sub (.list [C (.str []),f!" device eth0",f!" device !lo"]) (A (C (F 617)) [L 0,C (I 3)]))),R (B .add (B .add (B .add (L 1) f!" priority ") (A (C (F 624)) [L 0,A (C (F 652)) []])) f!" ;")]⟩
def QA:CFn:=⟨1,2,[],[R (A (C (F 624)) [L 0,.list [f!" \n ",f!" ; ",f!" ; \n "]])]⟩
def gy:CFn:=⟨1,8,[],[S (N 1) f!"\{ \n ",.for (N 2) (A (C (.bi .range)) [B .add (C (I 1)) (A (C (F 617)) [L 0,C (I 3)])]) [.ite (K .eq (A (C (F 617)) [L 0,C (I 2)]) (C (I 0))) [S (N 1) (B .add (B .add (L 1) f!"hook ingress priority ") (A (C (F 624)) [L 0,A (C (F 652)) []]))] [S (N 1) (B .add (B .add (B .add (L 1) f!"devices = \{ ") (A (C (F 624)) [L 0,.list [f!"eth0",f!"eth0 , !lo",f!"\n a , \n b , \n",C (.str [])]])) f!" }")],S (N 1) (B .add (L 1) (A (C (F 666)) [L 0]))],R (B .add (L 1) f!"} ;")]⟩
def gV:CFn:=⟨1,9,[],[S (N 1) f!"\{",.for (N 2) (A (C (.bi .range)) [A (C (F 617)) [L 0,C (I 7)]]) [S (N 3) (A (C (F 624)) [L 0,.list [f!"protocol",f!"dport",f!"timeout",f!"size",f!"l3proto"]]),S (N 4) (.sub (.dict [f!"protocol",.list [f!"tcp",f!"17",f!"300",f!"nope"],f!"dport",.list [f!"ftp",f!"0x15",f!"70000",f!"!ssh"],f!"timeout",.list [f!"2s",f!"90",f!"1m30s",f!"x"],f!"size",.list [f!"5",f!"0x10",f!"-1",f!"70000"],f!"l3proto",.list [f!"ip",f!"ip6",f!"arp",f!"ip"]]) (L 3)),S (N 1) (B .add (B .add (B .add (B .add (B .add (L 1) f!" ") (L 3)) f!" ") (A (C (F 624)) [L 0,L 4])) (A (C (F 666)) [L 0]))],R (B .add (L 1) f!" } ;")]⟩
def O5:CFn:=⟨2,7,[],[S (N 2) (K .eq (A (C (F 617)) [L 0,C (I 2)]) (C (I 1))),.ite (K .eq (L 1) f!"counter") [S (N 3) (A (C (F 624)) [L 0,.list [C (.str []),f!"packets 5 bytes 0x10",f!"packets 18446744073709551616 bytes 1",f!"packets 7"]])] [.ite (K .eq (L 1) f!"quota") [S (N 3) (B .add (A (C (F 624)) [L 0,.list [C (.str []),f!"over ",f!"until "]]) (A (C (F 624)) [L 0,.list [f!"5 bytes",f!"70000 gbytes",f!"18446744073709551615 kbytes",f!"9"]])),S (N 3) (B .add (L 3) (A (C (F 624)) [L 0,.list [C (.str []),f!" used 3 mbytes",f!" used 1 packets"]]))] [S (N 3) (B .add f!"rate " (A (C (F 624)) [L 0,.list [C (.str []),f!"over ",f!"until "]])),S (N 3) (B .add (L 3) (A (C (F 624)) [L 0,.list [f!"5/second",f!"0x10/minute",f!"9 kbytes/hour",f!"7/fortnight",f!"8 gbytes/day",f!"6 mbytes"]])),S (N 3) (B .add (L 3) (A (C (F 624)) [L 0,.list [C (.str []),f!" burst 4 packets",f!" burst 4 kbytes",f!" burst 4294967296 packets",f!" burst 2 gbytes"]]))]],R (.ite (L 2) (B .add (B .add (B .add f!"\{ " (L 3)) (A (C (F 666)) [L 0])) f!"} ;") (B .add (L 3) f!" ;"))]⟩
def Wt:CFn:=⟨0,0,[],[R (.list [f!"add",f!"block",f!"insert",f!"flush",f!"rename",f!"reset",f!"delete",f!"replace",f!"create"])]⟩
def Qj:CFn:=⟨1,3,[],[S (N 1) (A (C (F 624)) [L 0,.list [f!"table",f!"chain",f!"set",f!"map",f!"rule",f!"ct expectation",f!"ruleset",f!"counter",f!"limit",f!"element",f!"ct x"]]),S (N 1) (B .add (B .add (L 1) f!" ") (A (C (F 624)) [L 0,.list [C (.str []),f!"inet",f!"bridge",f!"ip6"]])),R (B .add (B .add (B .add (L 1) f!" ") (A (C (F 624)) [L 0,.list [f!"t1",f!"my-chain",f!"9x",f!"a:b",f!"c*",f!"ip",f!"!s"]])) f!" ;")]⟩
def Dk:CFn:=⟨1,6,[],[S (N 1) (.comp (A (C (F 624)) [L 0,.list [f!"ipv4_addr",f!"inet_service",f!"inet_proto",f!"foo",f!"integer"]]) (A (C (.bi .range)) [B .add (C (I 1)) (A (C (F 617)) [L 0,C (I 3)])])),S (N 2) (.comp (A (C (F 624)) [L 0,.list [f!"interval",f!"timeout",f!"constant",f!"dynamic",f!"odd"]]) (A (C (.bi .range)) [B .add (C (I 1)) (A (C (F 617)) [L 0,C (I 3)])])),R (B .add (B .add (B .add (Y .join f!" . " [L 1]) (A (C (F 666)) [L 0])) (Y .join f!" , " [L 2])) f!" ;")]⟩
def Qo:CFn:=⟨4,9,[],[S (N 4) (B .mod (L 2) (A (C (.bi .len)) [L 0])),S (N 5) (.sub (A (C (F 631)) [f!"\{ } ; \n = , . type hook priority ingress devices ip inet 5 70000 tcp over bytes kbytes used +3 ct !s dport"]) (L 3)),S (N 6) (.sub (.list [Z (L 0) (L 4) (B .add (L 4) (C (I 1))) (C .none),.list [],.list [.sub (L 0) (L 4),.sub (L 0) (L 4)],.list [L 5]]) (L 1)),R (B .add (B .add (Z (L 0) (C .none) (L 4) (C .none)) (L 6)) (Z (L 0) (B .add (L 4) (C (I 1))) (C .none) (C .none)))]⟩
def xM:CFn:=⟨1,8,[],[S (.tup [N 1,N 2]) (.tup [.list [],C (I 1)]),.forEnum (.tup [N 3,.tup [N 4,N 5]]) (L 0) [E (Y .append (L 1) [.tup [L 4,L 5,L 2,B .add (B .mul (C (I 3)) (L 3)) (C (I 1))]]),S (N 2) (B .add (L 2) (.ite (K .eq (L 5) f!"\n") (C (I 1)) (C (I 0))))],R (B .add (L 1) (.list [.tup [f!"eof",C (.str []),L 2,B .add (B .mul (C (I 3)) (A (C (.bi .len)) [L 0])) (C (I 1))]]))]⟩
def ML:CFn:=⟨1,3,[],[R (.sub (.sub (L 0) f!"tokens") (A (C (.bi .min)) [.sub (L 0) f!"at",B .sub (A (C (.bi .len)) [.sub (L 0) f!"tokens"]) (C (I 1))]))]⟩
def PG:CFn:=⟨2,4,[],[R (A (C (.cls 71)) [L 1,.sub (A (C (F 727)) [L 0]) (C (I 2)),.sub (A (C (F 727)) [L 0]) (C (I 3))])]⟩
def Ly:CFn:=⟨2,7,[],[S (.tup [N 2,N 3]) (Z (A (C (F 727)) [L 0]) (C .none) (C (I 2)) (C .none)),S (N 4) (Y .get (.dict [f!"eof",f!"end of file",f!"end",.ite (K .eq (L 3) f!"\n") f!"newline" f!";"]) [L 2,B .add (B .add f!"'" (L 3)) f!"'"]),R (A (C (F 734)) [L 0,B .add (B .add (B .add f!"syntax error, unexpected " (L 4)) f!", expecting ") (L 1)])]⟩
def MC:CFn:=⟨3,4,[],[R (K .eq (Z (A (C (F 727)) [L 0]) (C .none) (C (I 2)) (C .none)) (.tup [L 1,L 2]))]⟩
def Mj:CFn:=⟨1,1,[],[.augSub (L 0) f!"at" .add (C (I 1)),R (.sub (.sub (.sub (L 0) f!"tokens") (B .sub (.sub (L 0) f!"at") (C (I 1)))) (C (I 1)))]⟩
def Br:CFn:=⟨3,5,[],[.ite (.not (A (C (F 748)) [L 0,L 1,L 2])) [W (A (C (F 741)) [L 0,.ite (K .eq (L 1) f!"sign") (B .add (B .add f!"'" (L 2)) f!"'") (L 2)])] [],.augSub (L 0) f!"at" .add (C (I 1))]⟩
def Fv:CFn:=⟨3,6,[],[.ite (O false [K .ne (.sub (A (C (F 727)) [L 0]) (C (I 0))) f!"word",K .notin (.sub (A (C (F 727)) [L 0]) (C (I 1))) (L 1)]) [W (A (C (F 734)) [L 0,L 2])] [],R (A (C (F 755)) [L 0])]⟩
def Lk:CFn:=⟨1,4,[],[.ite (K .notin (.sub (A (C (F 727)) [L 0]) (C (I 0))) (.tup [f!"word",f!"string"])) [W (A (C (F 741)) [L 0,f!"string"])] [],R (A (C (F 755)) [L 0])]⟩
def je:CFn:=⟨2,3,[],[.whl (O true [K .eq (.sub (A (C (F 727)) [L 0]) (C (I 0))) f!"end",K .isin (.sub (A (C (F 727)) [L 0]) (C (I 1))) (L 1)]) [.augSub (L 0) f!"at" .add (C (I 1))]]⟩
def OG:CFn:=⟨1,5,[],[.ite (O true [K .notin (.sub (A (C (F 727)) [L 0]) (C (I 0))) (.tup [f!"end",f!"eof"]),.not (A (C (F 748)) [L 0,f!"sign",f!"}"])]) [W (A (C (F 741)) [L 0,f!"newline or semicolon"])] [],E (A (C (F 783)) [L 0,f!";\n"])]⟩
def ms:CFn:=⟨1,4,[],[S (.tup [N 1,N 2]) (.ite (K .eq (Z (L 0) (C .none) (C (I 2)) (C .none)) f!"0x") (.tup [Z (L 0) (C (I 2)) (C .none) (C .none),C (I 16)]) (.tup [L 0,C (I 10)])),.ite (O false [K .eq (L 1) (C (.str [])),K .ne (.compIf (L 4) (L 1) (K .notin (L 4) (Z f!"0123456789abcdefABCDEF" (C .none) (.ite (K .eq (L 2) (C (I 16))) (B .add (L 2) (C (I 6))) (C (I 10))) (C .none)))) (.list [])]) [R (C .none)] [],R (A (C (.bi .int)) [L 1,L 2])]⟩
def PJ:CFn:=⟨3,5,[],[R (A (C (F 734)) [L 0,B .add (B .add (B .add f!"Value " (A (C (.bi .str)) [L 1])) f!" exceeds valid range 0-") (A (C (.bi .str)) [L 2])])]⟩
def Eb:CFn:=⟨2,7,[],[S (N 2) (.ite (K .eq (.sub (A (C (F 727)) [L 0]) (C (I 0))) f!"word") (A (C (F 795)) [.sub (A (C (F 727)) [L 0]) (C (I 1))]) (C .none)),.ite (K .is (L 2) (C .none)) [W (A (C (F 741)) [L 0,f!"number"])] [],.ite (O true [K .gt (L 1) (C (I 0)),K .gt (L 2) (L 1)]) [W (A (C (F 802)) [L 0,.sub (A (C (F 727)) [L 0]) (C (I 1)),L 1])] [],.augSub (L 0) f!"at" .add (C (I 1)),R (L 2)]⟩
def Ut:CFn:=⟨2,5,[],[.ite (K .eq (L 0) f!"bridge") [S (N 2) (.dict [f!"prerouting",.tup [f!"dstnat",.neg (C (I 300))],f!"output",.tup [f!"out",C (I 100)],f!"postrouting",.tup [f!"srcnat",C (I 300)]]),R (A (C (.bi .dict)) [B .add (.list [.tup [f!"filter",.neg (C (I 200))]]) (.ite (K .isin (L 1) (L 2)) (.list [.sub (L 2) (L 1)]) (.list []))])] [],.ite (K .isin (L 0) (.tup [f!"arp",f!"netdev"])) [R (.dict [f!"filter",C (I 0)])] [],S (N 3) (.dict [f!"raw",.neg (C (I 300)),f!"mangle",.neg (C (I 150)),f!"filter",C (I 0),f!"security",C (I 50)]),.ite (K .isin (L 1) (.tup [f!"prerouting",f!"output"])) [.setSub (L 3) f!"dstnat" (.neg (C (I 100)))] [],.ite (K .isin (L 1) (.tup [f!"postrouting",f!"input"])) [.setSub (L 3) f!"srcnat" (C (I 100))] [],R (L 3)]⟩
def M3:CFn:=⟨2,16,[],[S (N 2) (.sub (L 0) f!"at"),.ite (K .ne (.sub (A (C (F 727)) [L 0]) (C (I 0))) f!"word") [W (A (C (F 741)) [L 0,f!"string"])] [],S (N 3) (A (C (F 755)) [L 0]),.whl (O true [K .eq (.sub (A (C (F 727)) [L 0]) (C (I 0))) f!"word",O false [K .isin (.sub (L 3) (.neg (C (I 1)))) f!"+-",K .isin (.sub (.sub (A (C (F 727)) [L 0]) (C (I 1))) (C (I 0))) f!"+-"]]) [S (N 3) (B .add (L 3) (A (C (F 755)) [L 0]))],S (N 4) (A (C (F 816)) [.sub (L 0) f!"family",L 1]),S (N 5) (.sub (Y .split (.sub (Y .split (L 3) [f!"+"]) (C (I 0))) [f!"-"]) (C (I 0))),S (N 6) (Z (L 3) (A (C (.bi .len)) [L 5]) (C .none) (C .none)),S (N 7) (.ite (K .ne (L 6) (C (.str []))) (A (C (F 795)) [Z (L 6) (C (I 1)) (C .none) (C .none)]) (C (I 0))),S (N 8) (Y .get (L 4) [L 5,.ite (O true [K .eq (L 5) (C (.str [])),K .eq (Z (L 6) (C .none) (C (I 1)) (C .none)) f!"-"]) (C (I 0)) (C .none)]),.ite (O true [K .eq (L 6) (C (.str [])),K .is (L 8) (C .none)]) [S (N 8) (A (C (F 795)) [L 5])] [],.ite (O false [K .is (L 8) (C .none),K .is (L 7) (C .none)]) [.setSub (L 0) f!"at" (L 2),W (A (C (F 734)) [L 0,B .add (B .add f!"'" (L 3)) f!"' is invalid priority in this context."])] [],R (B .add (L 8) (.ite (K .eq (Z (L 6) (C .none) (C (I 1)) (C .none)) f!"+") (L 7) (.neg (L 7))))]⟩
def LG:CFn:=⟨1,10,[],[E (A (C (F 762)) [L 0,f!"word",f!"type"]),S (N 1) (A (C (F 769)) [L 0,.tup [f!"filter",f!"nat",f!"route"],f!"unknown chain type"]),E (A (C (F 762)) [L 0,f!"word",f!"hook"]),S (.tup [N 2,N 3]) (.tup [A (C (F 769)) [L 0,A (C (F 645)) [],f!"unknown chain hook"],C (.str [])]),.ite (A (C (F 748)) [L 0,f!"word",f!"device"]) [.augSub (L 0) f!"at" .add (C (I 1)),S (N 3) (A (C (F 776)) [L 0])] [],E (A (C (F 762)) [L 0,f!"word",f!"priority"]),R (.tup [L 1,L 2,A (C (F 823)) [L 0,L 2],L 3])]⟩
def bT:CFn:=⟨1,8,[],[E (A (C (F 762)) [L 0,f!"sign",f!"\{"]),S (.tup [N 1,N 2]) (.tup [.list [],C (.bool true)]),E (A (C (F 783)) [L 0,f!"\n"]),.whl (O true [L 2,.not (A (C (F 748)) [L 0,f!"sign",f!"}"])]) [E (Y .append (L 1) [A (C (F 776)) [L 0]]),E (A (C (F 783)) [L 0,f!"\n"]),S (N 2) (A (C (F 748)) [L 0,f!"sign",f!","]),.ite (L 2) [.augSub (L 0) f!"at" .add (C (I 1)),E (A (C (F 783)) [L 0,f!"\n"])] []],E (A (C (F 762)) [L 0,f!"sign",f!"}"]),R (A (C (.bi .tuple)) [L 1])]⟩
def ND:CFn:=⟨1,3,[],[E (A (C (F 762)) [L 0,f!"sign",f!"\{"]),E (A (C (F 783)) [L 0,f!";\n"])]⟩
def bM:CFn:=⟨1,11,[],[S (N 1) (.dict [f!"hook",C .none,f!"devices",.tup []]),E (A (C (F 844)) [L 0]),.whl (.not (A (C (F 748)) [L 0,f!"sign",f!"}"])) [S (N 2) (A (C (F 769)) [L 0,.tup [f!"hook",f!"devices"],f!"a flowtable has hook and devices"]),.ite (K .eq (L 2) f!"hook") [E (A (C (F 762)) [L 0,f!"word",f!"ingress"]),E (A (C (F 762)) [L 0,f!"word",f!"priority"]),.setSub (L 1) (L 2) (A (C (F 823)) [L 0,f!"ingress"])] [E (A (C (F 762)) [L 0,f!"sign",f!"="]),.setSub (L 1) (L 2) (A (C (F 837)) [L 0])],E (A (C (F 790)) [L 0])],.augSub (L 0) f!"at" .add (C (I 1)),.ite (K .is (.sub (L 1) f!"hook") (C .none)) [W (A (C (F 734)) [L 0,f!"missing hook and priority in flowtable declaration"])] [],R (.tup [.sub (L 1) f!"hook",.sub (L 1) f!"devices"])]⟩
def mN:CFn:=⟨2,12,[],[S (.tup [N 2,N 3]) (.sub (.dict [f!"inet_proto",.tup [C (I 8),.dict [f!"tcp",C (I 6),f!"udp",C (I 17)]],f!"inet_service",.tup [C (I 16),.dict [f!"ftp",C (I 21),f!"ssh",C (I 22)]]]) (L 1)),S (.tup [N 4,N 5]) (Z (A (C (F 727)) [L 0]) (C .none) (C (I 2)) (C .none)),.ite (K .notin (L 4) (.tup [f!"word",f!"string"])) [W (A (C (F 741)) [L 0,f!"value"])] [],S (N 6) (Y .get (L 3) [L 5,A (C (F 795)) [L 5]]),.ite (K .is (L 6) (C .none)) [W (A (C (F 734)) [L 0,B .add (B .add (B .add f!"Could not resolve '" (L 5)) f!"' as ") (L 1)])] [],.ite (K .ge (L 6) (B .pow (C (I 2)) (L 2))) [W (A (C (F 802)) [L 0,L 5,B .sub (B .pow (C (I 2)) (L 2)) (C (I 1))])] [],.augSub (L 0) f!"at" .add (C (I 1)),R (L 6)]⟩
def NG:CFn:=⟨1,7,[],[S (.tup [N 1,N 2]) (Z (A (C (F 727)) [L 0]) (C .none) (C (I 2)) (C .none)),S (N 3) (Y .get (.dict [f!"2s",C (I 2000),f!"1m30s",C (I 90000)]) [L 2,C .none]),.ite (O true [K .is (L 3) (C .none),K .ne (L 2) (C (.str [])),K .eq (Y .strip (L 2) [f!"0123456789"]) (C (.str []))]) [S (N 3) (B .mul (C (I 1000)) (A (C (.bi .int)) [L 2]))] [],.ite (O false [K .ne (L 1) f!"word",K .is (L 3) (C .none)]) [W (A (C (F 741)) [L 0,f!"time"])] [],.augSub (L 0) f!"at" .add (C (I 1)),R (L 3)]⟩
def R9:CFn:=⟨1,13,[],[S (N 1) (.tup [f!"protocol",f!"dport",f!"timeout",f!"size",f!"l3proto"]),S (N 2) (.dict [f!"l3proto",Y .get (.dict [f!"ip",C (I 2),f!"ip6",C (I 10)]) [.sub (L 0) f!"family",C (I 0)]]),E (A (C (F 844)) [L 0]),.whl (.not (A (C (F 748)) [L 0,f!"sign",f!"}"])) [S (N 3) (A (C (F 769)) [L 0,L 1,f!"an expectation has protocol, dport, timeout, size, l3proto"]),.ite (K .isin (L 3) (.tup [f!"protocol",f!"dport"])) [.setSub (L 2) (L 3) (A (C (F 858)) [L 0,.ite (K .eq (L 3) f!"protocol") f!"inet_proto" f!"inet_service"])] [.ite (K .eq (L 3) f!"timeout") [.setSub (L 2) (L 3) (A (C (F 865)) [L 0])] [.ite (K .eq (L 3) f!"size") [.setSub (L 2) (L 3) (A (C (F 809)) [L 0,C (I 0)])] [.setSub (L 2) (L 3) (.ite (K .eq (A (C (F 769)) [L 0,.tup [f!"ip",f!"ip6"],f!"l3proto is ip or ip6"]) f!"ip") (C (I 2)) (C (I 10)))]]],E (A (C (F 790)) [L 0])],.augSub (L 0) f!"at" .add (C (I 1)),.for (N 3) (L 1) [.ite (K .notin (L 3) (L 2)) [W (A (C (F 734)) [L 0,B .add f!"expectation definition does not specify " (L 3)])] []],R (A (C (.bi .tuple)) [.comp (.sub (L 2) (L 13)) (L 1)])]⟩
def MZ:CFn:=⟨3,4,[],[.ite (K .ge (B .mul (L 1) (L 2)) (B .pow (C (I 2)) (C (I 64)))) [W (A (C (F 802)) [L 0,B .mul (L 1) (L 2),B .sub (B .pow (C (I 2)) (C (I 64))) (C (I 1))])] [],R (B .mul (L 1) (L 2))]⟩
def Nk:CFn:=⟨2,10,[],[S (N 2) (A (C (F 809)) [L 0,B .sub (B .pow (C (I 2)) (C (I 64))) (C (I 1))]),S (N 3) (.dict [f!"bytes",C (I 1),f!"kbytes",C (I 1024),f!"mbytes",C (I 1048576),f!"gbytes",.ite (L 1) (C (I 0)) (C (I 1073741824))]),S (N 4) (.ite (K .eq (.sub (A (C (F 727)) [L 0]) (C (I 0))) f!"word") (Y .get (L 3) [.sub (A (C (F 727)) [L 0]) (C (I 1)),C (I 0)]) (C (I 0))),.ite (K .eq (L 4) (C (I 0))) [W (A (C (F 741)) [L 0,.ite (L 1) f!"bytes, kbytes or mbytes" f!"bytes, kbytes, mbytes or gbytes"])] [],S (N 5) (A (C (F 877)) [L 0,L 2,L 4]),.augSub (L 0) f!"at" .add (C (I 1)),R (L 5)]⟩
def NF:CFn:=⟨1,2,[],[.ite (A (C (F 748)) [L 0,f!"word",f!"over"]) [.augSub (L 0) f!"at" .add (C (I 1)),R (C (.bool true))] [],.augSub (L 0) f!"at" .add (.ite (A (C (F 748)) [L 0,f!"word",f!"until"]) (C (I 1)) (C (I 0))),R (C (.bool false))]⟩
def Oe:CFn:=⟨1,4,[],[S (.tup [N 1,N 2]) (Z (A (C (F 727)) [L 0]) (C .none) (C (I 2)) (C .none)),.ite (K .ne (L 1) f!"word") [R (.tup [C (.str []),C .none])] [],R (.tup [.sub (Y .split (L 2) [f!"/"]) (C (I 0)),.ite (K .isin f!"/" (L 2)) (Z (L 2) (B .add (Y .index (L 2) [f!"/"]) (C (I 1))) (C .none) (C .none)) (C .none)])]⟩
def LD:CFn:=⟨1,10,[],[S (.tup [N 1,N 2]) (A (C (F 898)) [L 0]),S (.tup [N 3,N 4]) (.tup [A (C (F 795)) [L 1],C (I 0)]),.ite (K .is (L 3) (C .none)) [W (A (C (F 741)) [L 0,f!"number"])] [],.ite (K .ge (L 3) (B .pow (C (I 2)) (C (I 64)))) [W (A (C (F 802)) [L 0,L 1,B .sub (B .pow (C (I 2)) (C (I 64))) (C (I 1))])] [],.ite (K .is (L 2) (C .none)) [.augSub (L 0) f!"at" .add (C (I 1)),S (.tup [N 1,N 2]) (A (C (F 898)) [L 0]),S (N 4) (Y .get (.dict [f!"bytes",C (I 1),f!"kbytes",C (I 1024),f!"mbytes",C (I 1048576)]) [L 1,C (I 0)]),.ite (K .eq (L 4) (C (I 0))) [W (A (C (F 741)) [L 0,f!"'/'"])] [],S (N 3) (A (C (F 877)) [L 0,L 3,L 4])] [],.ite (K .notin (L 2) (.tup [f!"second",f!"minute",f!"hour",f!"day",f!"week"])) [W (A (C (F 741)) [L 0,f!"second, minute, hour, day or week"])] [],.augSub (L 0) f!"at" .add (C (I 1)),R (.tup [L 3,L 2,K .gt (L 4) (C (I 0))])]⟩
def uf:CFn:=⟨2,16,[],[.ite (K .eq (L 1) f!"counter") [.ite (.not (A (C (F 748)) [L 0,f!"word",f!"packets"])) [R (.tup [C (I 0),C (I 0)])] [],.augSub (L 0) f!"at" .add (C (I 1)),S (N 2) (A (C (F 809)) [L 0,B .sub (B .pow (C (I 2)) (C (I 64))) (C (I 1))]),E (A (C (F 762)) [L 0,f!"word",f!"bytes"]),R (.tup [L 2,A (C (F 809)) [L 0,B .sub (B .pow (C (I 2)) (C (I 64))) (C (I 1))]])] [],.ite (K .eq (L 1) f!"quota") [S (.tup [N 3,N 4,N 5]) (.tup [A (C (F 891)) [L 0],A (C (F 884)) [L 0,C (.bool false)],C (I 0)]),.ite (A (C (F 748)) [L 0,f!"word",f!"used"]) [.augSub (L 0) f!"at" .add (C (I 1)),S (N 5) (A (C (F 884)) [L 0,C (.bool false)])] [],R (.tup [L 3,L 4,L 5])] [],E (A (C (F 762)) [L 0,f!"word",f!"rate"]),S (N 3) (A (C (F 891)) [L 0]),S (.tup [N 6,N 7,N 8]) (A (C (F 905)) [L 0]),S (N 9) (.ite (L 8) (C (I 0)) (C (I 5))),.ite (A (C (F 748)) [L 0,f!"word",f!"burst"]) [.augSub (L 0) f!"at" .add (C (I 1)),S (N 9) (.ite (L 8) (A (C (F 884)) [L 0,C (.bool true)]) (A (C (F 809)) [L 0,B .sub (B .pow (C (I 2)) (C (I 32))) (C (I 1))])),.ite (.not (L 8)) [E (A (C (F 762)) [L 0,f!"word",f!"packets"])] []] [],R (.tup [L 3,L 6,L 7,L 9,L 8])]⟩
def Qh:CFn:=⟨2,9,[],[S (N 2) (A (C (F 748)) [L 0,f!"sign",f!"\{"]),.ite (L 2) [E (A (C (F 844)) [L 0])] [],S (N 3) (A (C (F 912)) [L 0,L 1]),.ite (L 2) [E (A (C (F 783)) [L 0,f!";\n"]),E (A (C (F 762)) [L 0,f!"sign",f!"}"])] [],R (L 3)]⟩
def N4:CFn:=⟨2,15,[],[S (N 2) (.list [f!"chain",f!"set",f!"map",f!"counter",f!"quota",f!"limit",f!"ct expectation",f!"flowtable"]),S (N 3) (.dict [f!"block",L 2,f!"insert",.list [f!"rule"],f!"replace",.list [f!"rule"],f!"flush",.list [f!"ruleset",f!"table",f!"chain",f!"set",f!"map"],f!"rename",.list [f!"chain"],f!"reset",.list [f!"counter",f!"quota"]]),S (N 4) (Y .get (L 3) [L 1,B .add (.list [f!"table",f!"rule",f!"element"]) (L 2)]),.ite (O true [A (C (F 748)) [L 0,f!"word",f!"ct"],K .isin (.sub (L 2) (C (I 6))) (L 4)]) [.augSub (L 0) f!"at" .add (C (I 1)),E (A (C (F 762)) [L 0,f!"word",f!"expectation"]),S (N 5) f!"expectation"] [.ite (O true [K .eq (.sub (A (C (F 727)) [L 0]) (C (I 0))) f!"word",K .isin (.sub (A (C (F 727)) [L 0]) (C (I 1))) (L 4)]) [S (N 5) (A (C (F 755)) [L 0])] [W (A (C (F 741)) [L 0,Y .join f!" or " [L 4]])]],S (N 5) (.ite (O true [K .eq (L 5) f!"map",K .eq (L 1) f!"flush"]) f!"set" (L 5)),.ite (K .eq (L 5) f!"ruleset") [R (.tup [L 5,C (.str []),C (.str [])])] [],S (N 6) f!"ip",.ite (O true [K .eq (.sub (A (C (F 727)) [L 0]) (C (I 0))) f!"word",K .isin (.sub (A (C (F 727)) [L 0]) (C (I 1))) (A (C (F 638)) [])]) [S (N 6) (A (C (F 755)) [L 0])] [],S (.tup [N 7,N 8]) (Z (A (C (F 727)) [L 0]) (C .none) (C (I 2)) (C .none)),.ite (O false [K .ne (L 7) f!"word",K .isin (.sub (L 8) (C (I 0))) f!"0123456789-/",K .ne (.compIf (L 15) (L 8) (K .isin (L 15) f!":*+")) (.list [])]) [W (A (C (F 741)) [L 0,f!"string"])] [],R (.tup [L 5,L 6,A (C (F 755)) [L 0]])]⟩
def x6:CFn:=⟨1,13,[],[S (.tup [N 1,N 2]) (.tup [.list [],.list []]),.whl (O false [K .eq (L 1) (.list []),A (C (F 748)) [L 0,f!"sign",f!"."]]) [.augSub (L 0) f!"at" .add (.ite (K .ne (L 1) (.list [])) (C (I 1)) (C (I 0))),S (.tup [N 3,N 4]) (Z (A (C (F 727)) [L 0]) (C .none) (C (I 2)) (C .none)),.ite (K .ne (L 3) f!"word") [W (A (C (F 741)) [L 0,f!"string"])] [],.ite (K .notin (L 4) (.tup [f!"ipv4_addr",f!"inet_service",f!"inet_proto",f!"integer"])) [W (A (C (F 734)) [L 0,B .add (B .add f!"unknown datatype '" (L 4)) f!"'"])] [],.ite (K .eq (L 4) f!"integer") [W (A (C (F 734)) [L 0,f!"unqualified type 'integer' specified in set definition"])] [],E (Y .append (L 1) [A (C (F 755)) [L 0]])],E (A (C (F 790)) [L 0]),.whl (O false [K .eq (L 2) (.list []),A (C (F 748)) [L 0,f!"sign",f!","]]) [.augSub (L 0) f!"at" .add (.ite (K .ne (L 2) (.list [])) (C (I 1)) (C (I 0))),E (Y .append (L 2) [A (C (F 769)) [L 0,.tup [f!"constant",f!"dynamic",f!"interval",f!"timeout"],f!"unknown set flag"]])],R (.tup [A (C (.bi .tuple)) [L 1],A (C (.bi .tuple)) [.compIf (L 13) (.tup [f!"constant",f!"dynamic",f!"interval",f!"timeout"]) (K .isin (L 13) (L 2))]])]⟩
def Yx:CFn:=⟨0,0,[],[R (.dict [f!"inet_proto",.tup [C (I 8),f!"big",f!"number",.dict [f!"tcp",C (I 6),f!"udp",C (I 17)]],f!"inet_service",.tup [C (I 16),f!"big",f!"number",.dict [f!"ftp",C (I 21),f!"ssh",C (I 22)]],f!"ipv4_addr",.tup [C (I 32),f!"big",f!"ip4",.dict []],f!"integer",.tup [C (I 0),f!"big",f!"number",.dict []]])]⟩
def ay:CFn:=⟨3,15,[],[.ite (K .eq (L 1) (C (I 0))) [R (A (C (F 568)) [L 0])] [],.ite (K .eq (L 1) (C (I 1))) [R (A (C (F 575)) [L 0])] [],.ite (K .eq (L 1) (C (I 2))) [R (A (C (F 512)) [L 0])] [],.ite (K .lt (L 1) (C (I 6))) [R (A (C (F 507)) [L 0,.sub (.list [f!"counter",f!"quota",f!"limit"]) (B .sub (L 1) (C (I 3)))])] [],.ite (K .eq (L 1) (C (I 6))) [S (N 3) (A (C (F 547)) [L 0,L 2]),R (.ite (K .eq (L 3) f!"ruleset") (.tup [L 3,C (.str []),C (.str [])]) (.tup [L 3,A (C (F 533)) [L 0],A (C (F 526)) [L 0]]))] [],S (N 4) (A (C (F 495)) [L 0]),E (A (C (F 460)) [L 0]),R (.tup [L 4,A (C (F 500)) [L 0]])]⟩
def av:CFn:=⟨3,9,[],[.ite (K .isin (L 1) (.tup [C (I 3),C (I 4),C (I 5)])) [R (A (C (F 919)) [L 0,.sub (.list [f!"counter",f!"quota",f!"limit"]) (B .sub (L 1) (C (I 3)))])] [],.ite (K .eq (L 1) (C (I 6))) [R (A (C (F 924)) [L 0,L 2])] [],R (.ite (K .lt (L 1) (C (I 3))) (A (.sub (.list [C (F 830),C (F 851),C (F 870)]) (L 1)) [L 0]) (A (C (F 929)) [L 0]))]⟩
def gw:CFn:=⟨2,36,[],[S (N 2) (.dict [f!"row",A (C (.bi .list)) [L 0],f!"rest",L 1]),S (.tup [N 3,N 4,N 5]) (.tup [A (C (F 617)) [L 2,C (I 8)],.sub (A (C (F 638)) []) (A (C (F 617)) [L 2,C (I 6)]),A (C (F 617)) [L 2,C (I 4)]]),S (.tup [N 6,N 7,N 8]) (.tup [A (C (F 617)) [L 2,C (I 40)],A (C (F 617)) [L 2,C (I 25)],C (.str [])]),.ite (K .eq (L 3) (C (I 6))) [S (N 8) (A (C (F 624)) [L 2,A (C (F 694)) []])] [],.ite (K .isin (L 3) (.tup [C (I 3),C (I 4),C (I 5)])) [S (N 9) (A (C (F 687)) [L 2,.sub (.list [f!"counter",f!"quota",f!"limit"]) (B .sub (L 3) (C (I 3)))])] [S (N 9) (A (.sub (.dict [C (I 0),C (F 659),C (I 1),C (F 673),C (I 2),C (F 680),C (I 6),C (F 701),C (I 7),C (F 706)]) (L 3)) [L 2])],S (N 10) (A (C (F 720)) [A (C (F 713)) [A (C (F 631)) [L 9],L 5,L 6,L 7]]),S (.tup [N 11,N 12]) (.tup [A (C (.cls 280)) [L 10,A (C (.cls 599)) [.dict [],A (C (F 936)) []]],.dict [f!"tokens",L 10,f!"at",C (I 0),f!"family",L 4]]),.setAttr s!"family" (L 11) (L 4),.try [S (N 13) (.tup [f!"read",A (C (F 950)) [L 12,L 3,L 8],.sub (L 12) f!"at"])] 14 [S (N 13) (.tup [f!"bad",.attr s!"why" (L 14),.tup [.attr s!"row" (L 14),.attr s!"column" (L 14)]])],.try [S (N 15) (A (C (F 943)) [L 11,L 3,L 8]),R (K .eq (L 13) (.tup [f!"read",L 15,.attr s!"at" (L 11)]))] 14 [R (K .eq (L 13) (.tup [f!"bad",.attr s!"why" (L 14),.tup [.attr s!"row" (L 14),.attr s!"column" (L 14)]]))]]⟩
def sZ:CFn:=⟨1,7,[],[S (N 1) (.list [f!"rule",f!"set",f!"chain",f!"counter",f!"element",f!"map",f!"rule",f!"flowtable",f!"chain",f!"limit"]),S (N 2) (.comp (.tup [f!"add",.sub (L 1) (B .mod (B .add (L 7) (B .fdiv (L 0) (B .pow (C (I 10)) (L 7)))) (C (I 10))),f!"ip",f!"t",B .add f!"n" (A (C (.bi .str)) [L 7]),.tup []]) (A (C (.bi .range)) [C (I 8)])),S (N 3) (.list []),.for (N 4) (.list [.tup [f!"counter",f!"flowtable",f!"limit"],.tup [f!"chain"],.tup [f!"set",f!"map"],.tup [f!"element"],.tup [f!"rule"]]) [S (N 3) (B .add (L 3) (.compIf (L 7) (L 2) (K .isin (.sub (L 7) (C (I 1))) (L 4))))],R (K .eq (A (C (F 582)) [L 2]) (L 3))]⟩
def nG:CFn:=⟨1,8,[],[S (N 0) (Z (L 0) (C .none) (C (I 63)) (C .none)),.forEnum (.tup [N 1,N 2]) (A (C (F 610)) []) [.ite (.not (A (C (F 957)) [L 2,A (C (.bi .sum)) [Z (L 0) (L 1) (C .none) (C (I 8))]])) [R (C (.bool false))] []],R (A (C (F 962)) [B .mod (A (C (.bi .sum)) [L 0]) (B .pow (C (I 10)) (C (I 8)))])]⟩
def CA:List (List Nat×Nat×Nat):= [([108,111,111,107],280,221),([116,97,107,101],280,228),([105,115,95,115,105,103,110],280,235),([105,115,95,119,111,114,100],280,242),([115,107,105,112,95,115,105,103,110],280,249),([119,97,110,116,95,115,105,103,110],280,256),([119,97,110,116,95,119,111,114,100],280,263),([115,107,105,112,95,114,111,119,115],280,270),([102,97,117,108,116],280,277)]
def Iu:Tabs:=⟨CA,[(280,[116,111,107,101,110,115]),(280,[97,116]),(280,[116,111,110,103,117,101]),(280,[107,110,111,119,110]),(280,[102,97,109,105,108,121]),(280,[116,97,98,108,101]),(599,[102,105,101,108,100,115]),(599,[116,121,112,101,115])],[[119,104,121],[114,111,119],[99,111,108,117,109,110]]⟩
def PI:List (Nat×CFn):= [(21,XO),(129,DE),(136,OM),(143,Xh),(150,XJ),(157,VY),(185,On),(192,PZ),(199,LK),(213,Lr),(221,GL),(228,PH),(235,Nb),(242,LZ),(249,MB),(256,Mz),(263,Qx),(270,zu),(277,LR),(291,Qp),(298,Mr),(305,Qq),(312,Ot),(319,MS),(326,Nw),(333,NS),(340,EB),(347,uz),(354,MM),(361,Ph),(368,NW),(375,BD),(382,Oz),(390,Ms),(397,Ou),(404,Mw),(411,Mf),(418,OI),(425,Mh),(432,My),(439,PL),(446,Ma),(453,zx),(460,Qv),(467,QB),(474,Lp),(481,Ls),(488,PW),(495,zH),(500,yF),(507,jX),(512,Q7),(519,bN),(526,BY),(533,PK),(540,VF),(547,Ln),(554,bW),(561,bQ),(568,OD),(575,bp),(582,tB),(596,Qi),(610,Xy),(617,Il),(624,NJ),(631,W5),(638,Wl),(645,Wq),(652,Xf),(659,Oa),(666,QA),(673,gy),(680,gV),(687,O5),(694,Wt),(701,Qj),(706,Dk),(713,Qo),(720,xM),(727,ML),(734,PG),(741,Ly),(748,MC),(755,Mj),(762,Br),(769,Fv),(776,Lk),(783,je),(790,OG),(795,ms),(802,PJ),(809,Eb),(816,Ut),(823,M3),(830,LG),(837,bT),(844,ND),(851,bM),(858,mN),(865,NG),(870,R9),(877,MZ),(884,Nk),(891,NF),(898,Oe),(905,LD),(912,uf),(919,Qh),(924,N4),(929,x6),(936,Yx),(943,ay),(950,av),(957,gw),(962,sZ),(969,nG)]
def b7:Prog:=⟨Iu,PI,[(280,213),(599,596)],71⟩
def G6:List (List Nat×V):= [([108,101,110],(.bi .len)),([114,97,110,103,101],(.bi .range)),([101,110,117,109,101,114,97,116,101],(.bi .enumerate)),([116,117,112,108,101],(.bi .tuple)),([108,105,115,116],(.bi .list)),([100,105,99,116],(.bi .dict)),([115,116,114],(.bi .str)),([105,110,116],(.bi .int)),([109,105,110],(.bi .min)),([115,117,109],(.bi .sum)),([69,120,99,101,112,116,105,111,110],(.bi .exc)),([112,114,105,111,114,105,116,105,101,115],(F 21)),([87,97,108,108,70,97,117,108,116],(.cls 38)),([77,105,115,117,115,101,100],(.cls 51)),([66,97,100,84,101,120,116],(.cls 71)),([100,101,99,105,109,97,108,95,111,102],(F 80)),([104,101,120,95,111,102],(F 87)),([105,112,52,95,111,102],(F 94)),([103,114,111,117,112,115,95,111,102],(F 101)),([105,112,54,95,111,102],(F 108)),([109,97,99,95,111,102],(F 115)),([110,97,109,101,95,110,117,109,98,101,114],(F 122)),([98,97,115,101,100,95,110,117,109,98,101,114],(F 129)),([110,117,109,98,101,114,95,119,111,114,100],(F 136)),([116,105,109,101,95,117,110,105,116,115],(F 143)),([112,97,114,116,95,101,110,100],(F 150)),([116,105,109,101,95,119,111,114,100],(F 157)),([117,110,113,117,111,116,101,100],(F 164)),([110,97,109,101,95,119,111,114,100],(F 171)),([109,97,115,107,95,119,111,114,100],(F 178)),([118,97,108,117,101,95,111,102,95,119,111,114,100],(F 185)),([116,111,107,101,110,95,119,111,114,100,115],(F 192)),([117,110,101,120,112,101,99,116,101,100],(F 199)),([82,101,97,100,101,114],(.cls 280)),([101,120,112,101,99,116,101,100],(F 291)),([110,117,109,98,101,114,95,104,101,114,101],(F 298)),([107,101,121,119,111,114,100],(F 305)),([111,117,116,95,111,102,95,114,97,110,103,101],(F 312)),([110,117,109,98,101,114,95,116,111],(F 319)),([114,101,97,100,95,116,101,120,116],(F 326)),([114,101,97,100,95,116,105,109,101],(F 333)),([116,121,112,101,95,104,101,114,101],(F 340)),([114,101,115,111,108,118,101,100],(F 347)),([118,97,108,117,101,95,111,102,95,116,101,120,116],(F 354)),([114,101,97,100,95,102,114,111,109],(F 361)),([114,101,97,100,95,118,97,108,117,101],(F 368)),([115,105,122,101,95,117,110,105,116],(F 375)),([115,105,122,101,100],(F 382)),([114,101,97,100,95,115,105,122,101],(F 390)),([114,101,97,100,95,111,118,101,114],(F 397)),([114,101,97,100,95,99,111,117,110,116,101,114,95,98,111,100,121],(F 404)),([114,101,97,100,95,113,117,111,116,97,95,98,111,100,121],(F 411)),([99,117,116,95,119,111,114,100],(F 418)),([105,115,95,115,116,114,111,107,101],(F 425)),([114,101,97,100,95,117,110,105,116],(F 432)),([114,101,97,100,95,114,97,116,101],(F 439)),([114,101,97,100,95,108,105,109,105,116,95,98,111,100,121],(F 446)),([115,107,105,112,95,101,110,100,115],(F 453)),([119,97,110,116,95,101,110,100],(F 460)),([111,112,101,110,95,98,108,111,99,107],(F 467)),([119,111,114,100,95,105,110],(F 474)),([111,110,101,95,111,102],(F 481)),([114,101,97,100,95,116,121,112,101],(F 488)),([114,101,97,100,95,116,121,112,101,115],(F 495)),([114,101,97,100,95,115,101,116,95,102,108,97,103,115],(F 500)),([114,101,97,100,95,109,101,116,101,114],(F 507)),([114,101,97,100,95,101,120,112,101,99,116,97,116,105,111,110],(F 512)),([114,101,97,100,95,100,101,118,105,99,101,115],(F 519)),([110,97,109,101,95,104,101,114,101],(F 526)),([114,101,97,100,95,102,97,109,105,108,121],(F 533)),([107,105,110,100,115,95,102,111,114],(F 540)),([114,101,97,100,95,107,105,110,100],(F 547)),([112,114,105,111,114,105,116,121,95,111,102],(F 554)),([114,101,97,100,95,112,114,105,111,114,105,116,121],(F 561)),([114,101,97,100,95,98,97,115,101],(F 568)),([114,101,97,100,95,102,108,111,119,116,97,98,108,101],(F 575)),([105,110,95,114,97,110,107,115],(F 582)),([84,111,110,103,117,101],(.cls 599)),([95,108,97,119,95,114,111,119,115],(F 610)),([95,108,97,119,95,100,105,103,105,116],(F 617)),([95,108,97,119,95,112,105,99,107],(F 624)),([95,108,97,119,95,99,117,116],(F 631)),([95,108,97,119,95,102,97,109,105,108,105,101,115],(F 638)),([95,108,97,119,95,104,111,111,107,115],(F 645)),([95,108,97,119,95,119,114,105,116,116,101,110],(F 652)),([95,108,97,119,95,98,97,115,101],(F 659)),([95,108,97,119,95,101,110,100,115],(F 666)),([95,108,97,119,95,102,108,111,119,115],(F 673)),([95,108,97,119,95,101,120,112,101,99,116,101,100],(F 680)),([95,108,97,119,95,109,101,116,101,114],(F 687)),([95,108,97,119,95,118,101,114,98,115],(F 694)),([95,108,97,119,95,104,101,97,100],(F 701)),([95,108,97,119,95,107,105,110,100,115],(F 706)),([95,108,97,119,95,99,104,97,110,103,101,100],(F 713)),([95,108,97,119,95,112,108,97,99,101,100],(F 720)),([95,108,97,119,95,110,111,119],(F 727)),([95,108,97,119,95,102,97,117,108,116],(F 734)),([95,108,97,119,95,119,97,110,116,101,100],(F 741)),([95,108,97,119,95,105,115],(F 748)),([95,108,97,119,95,116,97,107,101,110],(F 755)),([95,108,97,119,95,110,101,101,100],(F 762)),([95,108,97,119,95,111,110,101],(F 769)),([95,108,97,119,95,116,101,120,116],(F 776)),([95,108,97,119,95,112,97,115,115],(F 783)),([95,108,97,119,95,114,111,119,95,101,110,100],(F 790)),([95,108,97,119,95,119,104,111,108,101],(F 795)),([95,108,97,119,95,112,97,115,116],(F 802)),([95,108,97,119,95,110,117,109,98,101,114],(F 809)),([95,108,97,119,95,110,97,109,101,115],(F 816)),([95,108,97,119,95,112,114,105,111,114,105,116,121],(F 823)),([95,108,97,119,95,111,119,110,95,98,97,115,101],(F 830)),([95,108,97,119,95,111,119,110,95,100,101,118,105,99,101,115],(F 837)),([95,108,97,119,95,98,101,103,117,110],(F 844)),([95,108,97,119,95,111,119,110,95,102,108,111,119,115],(F 851)),([95,108,97,119,95,118,97,108,117,101],(F 858)),([95,108,97,119,95,116,105,109,101],(F 865)),([95,108,97,119,95,111,119,110,95,101,120,112,101,99,116,101,100],(F 870)),([95,108,97,119,95,111,99,116,101,116,115],(F 877)),([95,108,97,119,95,115,105,122,101],(F 884)),([95,108,97,119,95,111,118,101,114],(F 891)),([95,108,97,119,95,104,97,108,118,101,115],(F 898)),([95,108,97,119,95,114,97,116,101],(F 905)),([95,108,97,119,95,111,119,110,95,98,111,100,121],(F 912)),([95,108,97,119,95,111,119,110,95,109,101,116,101,114],(F 919)),([95,108,97,119,95,111,119,110,95,104,101,97,100],(F 924)),([95,108,97,119,95,111,119,110,95,107,105,110,100,115],(F 929)),([95,108,97,119,95,116,121,112,101,115],(F 936)),([95,108,97,119,95,114,101,97,100],(F 943)),([95,108,97,119,95,111,119,110,95,114,101,97,100],(F 950)),([95,108,97,119,95,114,105,103,104,116],(F 957)),([95,108,97,119,95,114,97,110,107,101,100],(F 962)),([108,97,119],(F 969))]
end
section
open PySem PySem.W PyProof.Rows PySem.Calls
open PySem renaming wpAny_bind→d1,Value→c5,Shared→d0,wpAny_pure→g9,wpAny→c7,Heap→j5,wpAny_holding→v9,Addr→d4,NameKind→B0,Str→c9,wpAny_standAt→M0,Around→q8,mainGlobals→N9,holding→C9,wpAny_loadPart_at→dL,foldedSetIterable→dT,DictEntry→P8,Obj→f7,sizeLine→bH,compareOp→T2,binaryOp→N8,nsFind→E8,callEnvC→Q1,OsState→L9,sizeLine_eq→bG,wpAny_mono→aT,codeAny→O3,Params→I1,wpAny_execs_nil→jN,wpAny_truthy_bool→ml,wpAny_field→dQ,World→D8,Env→i5,wpAny_execs_cons→mi,standAt→S8,getMethod→aM,wpAny_isSubtype_exc→rQ,FuncData→Z8,wpAny_call→dN,treeTable→bI,Sem→j9,checkBuiltinCall→rR,attributeBase→mc,Pos→n5,Flow→C8,Expr→f6,Stmt→n6,Result→X2,typeIs_str→gh,Model→K9,model→J6,call_meets→jP,builtinsNs→jS,wpAny_newObj_type→xj,wpAny_getItem_list_slice→Gh,wpAny_loadPart→xm,wpAny_evalPart_none→FN,PyData→aN,Program→mj
open PySem.Heap renaming get?_push_of_some→I4,get?_update_self→aU,SameBut→aR,get?_push_size→aS,lt_size→gk,size_push→lZ,get?_update_ne→FI
open PySem.Heap.SameBut renaming update→gg
open PySem.Builtin.Str renaming occurrences→lV
open PySem.Value renaming ref→L6,none→bE
open PySem.NameKind renaming free→dZ,cell→xc
open PySem.Str renaming ofString→dM
open PySem.Builtin.Slice renaming slicePlaces→xp,sliceAdjust→FQ
open PySem.NumText renaming prefix?→mh
open PySem.Builtin.Range renaming rangeSize→KR
open PySem.F renaming plainAttrs_str→lY,slot_list_getattribute→FU,slot_str_split→xf
theorem e6 {α:Type} {a:α} {P:Prop} (e:b8=b6 a):P:=nomatch e
abbrev pg:Program:=PySem.Challenge.rw_pq1113_01.row.prog
abbrev XC:Addr:=71
abbrev c6 (s:List Nat):Str:=⟨s.toArray⟩
abbrev u8 (x:c9):List Nat:=x.cps.toList
def kX:BI→c5
 | .len=> .builtin "len"
 | .range=> .type "range"
 | .enumerate=> .type "enumerate"
 | .tuple=> .type "tuple"
 | .list=> .type "list"
 | .dict=> .type "dict"
 | .str=> .type "str"
 | .int=> .type "int"
 | .min=> .builtin "min"
 | .sum=> .builtin "sum"
 | .exc=> .type "Exception"
inductive Kn where
 | imm (o:f7)
 | own (o:f7)
 | fr (es:Array P8) (Y:Nat)
 | tr (n:Nat)
abbrev Wd:=d4→Option Kn
def Kn.sh:Kn→Prop:=Kn.rec (λz=>True) (λz=>False) (λz z=>False) λz=>True
def Sub (W W':Wd):Prop:=∀p k,k.sh→W p=b6 k→W' p=b6 k
inductive RInt (i:Int):c5→Prop
 | mk t:RInt i (.int i t)
inductive RStr (s:List Nat):c5→Prop
 | mk t:RStr s (.str (c6 s) t)
inductive RTup (W:Wd) (R:List c5→Prop):c5→Prop
 | mk (p o n xs):W p=b6 (.imm o)→o.cls= .type "tuple" →o.data= .seq xs n→R xs.toList→RTup W R (.ref p)
inductive RRange (W:Wd) (lo hi:Int):c5→Prop
 | mk (p t u v):W p=b6 (.imm {cls:= .type "range",data:= .fields #[.int lo t,.int hi u,.int 1 v]})→RRange W lo hi (.ref p)
inductive RRef (W:Wd) (n:Nat):c5→Prop
 | mk (p):W p=b6 (.tr n)→RRef W n (.ref p)
inductive RInst (W:Wd) (c n:Nat):c5→Prop
 | mk (p d):W p=b6 (.imm (instObj c d))→W d=b6 (.tr n)→RInst W c n (.ref p)
inductive RExc (W:Wd) (n:Nat):c5→Prop
 | mk (p o d):W p=b6 (.imm o)→W d=b6 (.tr n)→o.cls= .ref XC→o.dict=b6 d→notCls o=true→RExc W n (.ref p)
inductive RCons (P:c5→Prop) (Q:List c5→Prop):List c5→Prop
 | mk (x xs):P x→Q xs→RCons P Q (x :: xs)
mutual
noncomputable def VR (W:Wd):V→c5→Prop
 | .none,x=>x= .none
 | .bool b,x=>x= .bool b
 | .int i,x=>RInt i x
 | .str s,x=>RStr s x
 | .tup l,x=>RTup W (VRs W l) x
 | .range lo hi,x=>RRange W lo hi x
 | .ref n,x=>RRef W n x
 | .inst c n,x=>RInst W c n x
 | .fn a,x=>x= .ref a
 | .cls a,x=>x= .ref a
 | .bi b,x=>x=kX b
 | .exc n,x=>RExc W n x
noncomputable def VRs (W:Wd):List V→List c5→Prop
 | [],l=>l= []
 | v :: r,l=>RCons (VR W v) (VRs W r) l
end
mutual
noncomputable def V.und (k:Nat):V→Prop
 | .ref n=>n < k
 | .inst _ n=>n < k
 | .exc n=>n < k
 | .tup l=>V.unds k l
 | _=>True
noncomputable def V.unds (k:Nat):List V→Prop
 | []=>True
 | a :: r=>a.und k∧V.unds k r
end
section
variable {W W':Wd} {R R':List c5→Prop} {P P':c5→Prop} {x:c5} {xs:List c5} {n m c:Nat} {lo hi:Int}
theorem RTup.map (e:∀p o,W p=b6 (.imm o)→W' p=b6 (.imm o)) (f:∀l,R l→R' l) (h:RTup W R x):RTup W' R' x:=by
 cases h with | mk p o n xs a b c d=>exact .mk p o n xs (e _ _ a) b c (f _ d)
theorem RRange.map (e:∀p o,W p=b6 (.imm o)→W' p=b6 (.imm o)) (h:RRange W lo hi x):RRange W' lo hi x:=by
 cases h with | mk p t u v a=>exact .mk p t u v (e _ _ a)
theorem RRef.map (hT:∀p,W p=b6 (.tr n)→W' p=b6 (.tr m)) (h:RRef W n x):RRef W' m x:=by
 cases h with | mk p a=>exact .mk p (hT _ a)
theorem RInst.map (e:∀p o,W p=b6 (.imm o)→W' p=b6 (.imm o)) (hT:∀p,W p=b6 (.tr n)→W' p=b6 (.tr m)) (h:RInst W c n x):RInst W' c m x:=by
 cases h with | mk p d a b=>exact .mk p d (e _ _ a) (hT _ b)
theorem RExc.map (g:∀p o,W p=b6 (.imm o)→W' p=b6 (.imm o)) (hT:∀p,W p=b6 (.tr n)→W' p=b6 (.tr m)) (h:RExc W n x):RExc W' m x:=by
 cases h with | mk p o d a b c e f=>exact .mk p o d (g _ _ a) (hT _ b) c e f
theorem RCons.map {Q Q':List c5→Prop} (hP:∀x,P x→P' x) (hQ:∀l,Q l→Q' l) (h:RCons P Q xs):RCons P' Q' xs:=by
 cases h with | mk x xs a b=>exact .mk x xs (hP _ a) (hQ _ b)
theorem Sub.I (s:Sub W W'):∀p o,W p=b6 (.imm o)→W' p=b6 (.imm o):=λp o=>s p (.imm o) trivial
theorem Sub.T (s:Sub W W'):∀p,W p=b6 (.tr n)→W' p=b6 (.tr n):=λp=>s p (.tr n) trivial
theorem Sub.trans {W₁:Wd} (s:Sub W W₁) (a:Sub W₁ W'):Sub W W':=λp k h e=>a p k h (s p k h e)
theorem VR.mono (s:Sub W W'):∀{v x},VR W v x→VR W' v x:=λ{v x}=>
 V.rec (motive_1:=λv=>∀x,VR W v x→VR W' v x) (motive_2:=λl=>∀xs,VRs W l xs→VRs W' l xs)
  (λz h=>h) (λz z h=>h) (λz z h=>h) (λz z h=>h) (λz ih z h=>RTup.map s.I ih h) (λz z z h=>RRange.map s.I h) (λz z h=>RRef.map s.T h)
  (λz z z h=>RInst.map s.I s.T h) (λz z h=>h) (λz z h=>h) (λz z h=>h) (λz z h=>RExc.map s.I s.T h) (λz h=>h) (λz z i j z h=>RCons.map i j h) v x
theorem VRs.mono (s:Sub W W'):∀{l xs},VRs W l xs→VRs W' l xs:=λ{l xs}=>
 A3 (motive:=λl=>∀xs,VRs W l xs→VRs W' l xs) (λz h=>h) (λz z j z h=>RCons.map (λz=>VR.mono s) j h) l xs
theorem VR.cut {k:Nat} (e:∀p o,W p=b6 (.imm o)→W' p=b6 (.imm o)) (hT:∀p n,n < k→W p=b6 (.tr n)→W' p=b6 (.tr n)):∀{v x},v.und k→VR W v x→VR W' v x:=λ{v x}=>
 V.rec (motive_1:=λv=>∀x,v.und k→VR W v x→VR W' v x) (motive_2:=λl=>∀xs,V.unds k l→VRs W l xs→VRs W' l xs)
  (λz z h=>h) (λz z z h=>h) (λz z z h=>h) (λz z z h=>h) (λz ih z u h=>RTup.map e (λl=>ih l u) h) (λz z z z h=>RRange.map e h) (λn z u h=>RRef.map (λp=>hT p n u) h)
  (λz n z u h=>RInst.map e (λp=>hT p n u) h) (λz z z h=>h) (λz z z h=>h) (λz z z h=>h) (λn z u h=>RExc.map e (λp=>hT p n u) h) (λz z h=>h) (λz z i j z u h=>RCons.map (λx=>i x u.1) (λl=>j l u.2) h) v x
theorem VRs.cut {k:Nat} (e:∀p o,W p=b6 (.imm o)→W' p=b6 (.imm o)) (hT:∀p n,n < k→W p=b6 (.tr n)→W' p=b6 (.tr n)):∀{l xs},V.unds k l→VRs W l xs→VRs W' l xs:=λ{l xs}=>
 A3 (motive:=λl=>∀xs,V.unds k l→VRs W l xs→VRs W' l xs) (λz z h=>h) (λz z j z u h=>RCons.map (λz=>VR.cut e hT u.1) (λl=>j l u.2) h) l xs
theorem VR.shift {k:Nat} (e:∀p o,W p=b6 (.imm o)→W' p=b6 (.imm o)) (hT:∀p n,W p=b6 (.tr n)→W' p=b6 (.tr (k+n))):∀{v x},VR W v x→VR W' (v.shift k) x:=λ{v x}=>
 V.rec (motive_1:=λv=>∀x,VR W v x→VR W' (v.shift k) x) (motive_2:=λl=>∀xs,VRs W l xs→VRs W' (V.shifts k l) xs)
  (λz h=>h) (λz z h=>h) (λz z h=>h) (λz z h=>h) (λz ih z h=>RTup.map e ih h) (λz z z h=>RRange.map e h) (λn z h=>RRef.map (λp=>hT p n) h)
  (λz n z h=>RInst.map e (λp=>hT p n) h) (λz z h=>h) (λz z h=>h) (λz z h=>h) (λn z h=>RExc.map e (λp=>hT p n) h) (λz h=>h) (λz z i j z h=>RCons.map i j h) v x
theorem VRs.shift {k:Nat} (e:∀p o,W p=b6 (.imm o)→W' p=b6 (.imm o)) (hT:∀p n,W p=b6 (.tr n)→W' p=b6 (.tr (k+n))):∀{l xs},VRs W l xs→VRs W' (V.shifts k l) xs:=λ{l xs}=>
 A3 (motive:=λl=>∀xs,VRs W l xs→VRs W' (V.shifts k l) xs) (λz h=>h) (λz z j z h=>RCons.map (λz=>VR.shift e hT) j h) l xs
theorem V.und_flat {k:Nat}:∀{v:V},v.flat=true→v.und k:=λ{v}=>
 V.rec (motive_1:=λv=>v.flat=true→v.und k) (motive_2:=λl=>V.flats l=true→V.unds k l)
  (λz=>trivial) (λz z=>trivial) (λz z=>trivial) (λz z=>trivial) (λz ih h=>ih h) (λz z z=>trivial) (λz h=>nomatch h) (λz z h=>nomatch h)
  (λz z=>trivial) (λz z=>trivial) (λz z=>trivial) (λz h=>nomatch h) (λz=>trivial) (λz z i j h=>⟨i (q7.mp h).1,j (q7.mp h).2⟩) v
theorem V.unds_flat {k:Nat}:∀{l:List V},V.flats l=true→V.unds k l:=λ{l}=>
 A3 (motive:=λl=>V.flats l=true→V.unds k l) (λz=>trivial) (λz z j h=>⟨V.und_flat (q7.mp h).1,j (q7.mp h).2⟩) l
theorem VR.und {k:Nat} (hT:∀p n,W p=b6 (.tr n)→n < k):∀{v x},VR W v x→v.und k:=λ{v x}=>
 V.rec (motive_1:=λv=>∀x,VR W v x→v.und k) (motive_2:=λl=>∀xs,VRs W l xs→V.unds k l)
  (λz z=>trivial) (λz z z=>trivial) (λz z z=>trivial) (λz z z=>trivial) (λz ih x h=>by cases h with | mk p o n xs a b c d=>exact ih _ d) (λz z z z=>trivial)
  (λn x h=>by cases h with | mk p a=>exact hT p n a) (λz n x h=>by cases h with | mk p d a b=>exact hT d n b)
  (λz z z=>trivial) (λz z z=>trivial) (λz z z=>trivial) (λn x h=>by cases h with | mk p o d a b=>exact hT d n b) (λz z=>trivial) (λz z i j z h=>by cases h with | mk x xs a b=>exact ⟨i _ a,j _ b⟩) v x
theorem VRs.und {k:Nat} (hT:∀p n,W p=b6 (.tr n)→n < k):∀{l xs},VRs W l xs→V.unds k l:=λ{l xs}=>
 A3 (motive:=λl=>∀xs,VRs W l xs→V.unds k l) (λz z=>trivial) (λz z j z h=>by cases h with | mk x xs a b=>exact ⟨VR.und hT a,j _ b⟩) l xs
theorem VRs.length:∀{l:List V} {xs},VRs W l xs→xs.length=l.length:=λ{l xs}=>
 A3 (motive:=λl=>∀xs,VRs W l xs→xs.length=l.length) (λz h=>cG oB h) (λz z j z h=>by cases h with | mk x xs a b=>exact cG jM (j _ b)) l xs
inductive RGet (W:Wd):Option V→Option c5→Prop
 | nil:RGet W b8 b8
 | val (v x):VR W v x→RGet W (b6 v) (b6 x)
theorem VRs.get:∀{l:List V} {xs},VRs W l xs→∀(k:Nat),RGet W l[k]? xs[k]?:=λ{l xs}=>
 A3 (motive:=λl=>∀xs,VRs W l xs→∀(k:Nat),RGet W l[k]? xs[k]?) (λxs (h:xs= []) k=>h▸ .nil)
  (λv r j xs h k=>by cases h with | mk x xs a b=>exact oA k (.val v x a) (λk=>j _ b k)) l xs
theorem VRs.append {l l':List V} {xs c:List c5} (h:VRs W l xs) (f:VRs W l' c):VRs W (l++l') (xs++c):=
 A3 (motive:=λl=>∀xs,VRs W l xs→VRs W (l++l') (xs++c)) (λxs (h:xs= [])=>h▸f)
  (λv r j xs h=>by cases h with | mk x xs a b=>exact .mk x _ a (j _ b)) l xs h
theorem VRs.one {v:V} (e:VR W v x):VRs W [v] [x]:= .mk x [] e rfl
theorem VRs.take:∀(n:Nat) {l:List V} {xs},VRs W l xs→VRs W (l.take n) (xs.take n):=λn {l xs}=>
 A3 (motive:=λl=>∀n xs,VRs W l xs→VRs W (l.take n) (xs.take n)) (λn xs (h:xs= [])=>h▸oA n rfl λz=>rfl)
  (λv r j n xs h=>by cases h with | mk x xs a b=>exact oA n (rfl:VRs W [] []) (λk=> .mk x _ a (j k _ b))) l n xs
theorem VRs.drop:∀(n:Nat) {l:List V} {xs},VRs W l xs→VRs W (l.drop n) (xs.drop n):=λn {l xs}=>
 A3 (motive:=λl=>∀n xs,VRs W l xs→VRs W (l.drop n) (xs.drop n)) (λn xs (h:xs= [])=>h▸oA n rfl λz=>rfl)
  (λv r j n xs h=>oA (motive:=λn=>VRs W ((v :: r).drop n) (xs.drop n)) n h (λk=>by cases h with | mk x xs a b=>exact j k _ b)) l n xs
end
section
def V.glob:V→V→Bool
 | .fn a,v=>(match v with | .fn b=>Nat.beq a b | _=>false)
 | .cls a,v=>(match v with | .cls b=>Nat.beq a b | _=>false)
 | .bi a,v=>(match v with | .bi b=>decide (a=b) | _=>false)
 | _,_=>false
def U8 (g:List (List Nat×V)) (x:c9) (v:V):Bool:=match look? g (u8 x) with
 | some u=>V.glob u v
 | none=>false
def BB:V→Option c5
 | .fn a=>b6 (.ref a)
 | .cls a=>b6 (.ref a)
 | .bi b=>b6 (kX b)
 | _=>b8
section
open Builtin.ObjectAttr
def mB (K:Frag) (X:Nat) (n:c9):Bool:=decide (findIn K (.ref X) "__getattribute__" =b6 (b6 (.builtin "BaseException.__getattribute__")))&&decide (findIn K (.ref X) "__getattr__" =b6 b8)&&
 decide (mroIn K X (.type "BaseException")=b6 true)&&hasDictIn K X&&(match findIn K (.ref X) n with | some a=>noGet K a | none=>false)
def tx (K:Frag) (c:Nat) (n:c9):Bool:=plainGet K c n&&hasDictIn K c&&(match findIn K (.ref c) n with | some a=>noGet K a | none=>false)
def nZ (K:Frag) (c:Nat) (n:c9):Bool:=plainOver K c&&hasDictIn K c&&decide (takerIn K c n=b6 b8)&&decide (findIn K (.ref c) "__setattr__" =b6 (b6 (.builtin "object.__setattr__")))
def us (K:Frag) (c:Nat) (n:c9) (a:Nat):Bool:=plainGet K c n&&decide (findIn K (.ref c) n=b6 (b6 (.ref a)))&&isFn K (.ref a)
end
structure XD where
 nm:c9
 q:c9
 N:d4
 bs:List c5
 bm:List c5
 hdct:Bool
 sn:List c9
 sub:List c5
 ab:Bool
 col:Option Bool
 dd:Option d4
 k0:Option c5
 k1:Option c5
 k2:Option c5
 k3:Option c5
 k5:Option c5
abbrev XD.obj (x:XD) (X:d4):Obj:=excClassObj x.nm x.q X x.N x.bs x.bm x.hdct x.sn x.sub x.ab x.col x.dd x.k0 x.k1 x.k2 x.k3 x.k5 "Exception.__new__"
structure Cx where
 w:D8
 s₀:d0
 K:Frag
 kin:K.In s₀.heap
 lim:s₀.heap.NoLimit
 big:∃o,s₀.heap.get? 969=b6 o
 low:∀p,p≤3→∃o,s₀.heap.get? p=b6 o
 glob:∃mg mb,s₀.heap.Ns N9 mg∧s₀.heap.Ns jS mb∧∀x v,U8 G6 x v=true→
  ∃y,BB v=b6 y∧(mg x=b6 y∨(mg x=b8∧mb x=b6 y))
 attr:∀p∈b7.tabs.attrs,tx K p.1 (c6 p.2)=true∧nZ K p.1 (c6 p.2)=true
 xattr:∀n∈b7.tabs.xattrs,mB K XC (c6 n)=true
 meth:∀n c a,aK b7.tabs.meths n c=b6 a→us K c (c6 n) a=true
 isExc:mroIn K XC (.type "BaseException")=b6 true
 excType:typeIn K (.ref XC)=b6 (.type "type")
 xcls:∃x:XD,s₀.heap.get? XC=b6 (x.obj XC)∧x.bm.contains (.type "BaseException")=true∧x.bm.contains (.type "Exception")=true∧x.bm.contains (.type "AttributeError")=false∧x.bm.contains (.type "NameError")=false
abbrev Cx.M (C:Cx):Model:=J6 pg C.w
variable {C:Cx}
inductive RList (W:Wd) (h:j5) (p:d4) (l:List V):Prop
 | mk (xs n):h.get? p=b6 (listOf xs n)→VRs W l xs.toList→RList W h p l
inductive RDict {K K':Type} [DecidableEq K] [DecidableEq K'] (knd:KeyKind pg C.w K') (f:K→K') (W:Wd) (h:j5) (p:d4) (es:List (K×V)):Prop
 | mk (o ds Y):h.get? p=b6 o→o.ExactDict→o.data= .dict ds Y→KeysOf knd ds→ds.size≤es.length→(∀k,RGet W (look? es k) (findBy knd.is ds (f k)))→RDict knd f W h p es
inductive RNs (W:Wd) (h:j5) (p:d4) (es:List (List Nat×V)):Prop
 | mk (o ds Y):h.get? p=b6 o→o.cls= .type "dict" →o.data= .dict ds Y→StrKeys ds→ds.size≤es.length→(∀k,RGet W (look? es k) (E8 ds (c6 k)))→RNs W h p es
def OR (C:Cx) (W:Wd) (h:j5) (p:d4):AObj→Prop
 | .list l=>RList W h p l
 | .dict es=>RDict (strKind pg C.w) c6 W h p es
 | .idict es=>RDict (intKind pg C.w) id W h p es
 | .ns es=>RNs W h p es
def AObj.all (U:V→Prop) (Us:List V→Prop):AObj→Prop
 | .list l=>Us l
 | .dict es=>∀k v,look? es k=b6 v→U v
 | .idict es=>∀k v,look? es k=b6 v→U v
 | .ns es=>∀k v,look? es k=b6 v→U v
abbrev AObj.und (k:Nat):AObj→Prop:=AObj.all (V.und k) (V.unds k)
def OldK (k:Nat) (st:St):Prop:=∀i o,i < k→st[i]?=b6 o→o.und k
section
variable {W W':Wd} {h h':j5} {p:d4} {U:V→Prop} {Us:List V→Prop} {o:AObj} {a b:Option V} {x:Option c5}
theorem RGet.map (hv:∀v x,a=b6 v→VR W v x→VR W' v x) (r:RGet W a x):RGet W' a x:=by
 cases r with | nil=>exact .nil | val v x e=>exact .val v x (hv v x rfl e)
theorem OR.same (hg:∀o,h.get? p=b6 o→h'.get? p=b6 o) (hv:∀{v x},U v→VR W v x→VR W' v x) (g:∀{l xs},Us l→VRs W l xs→VRs W' l xs):∀{o:AObj},o.all U Us→OR C W h p o→OR C W' h' p o:=λ{o}=>
 AObj.casesOn o (λz u r=>by cases r with | mk xs n a b=>exact .mk xs n (hg _ a) (g u b))
  (λz u r=>by cases r with | mk o ds Y a b c d e f=>exact .mk o ds Y (hg _ a) b c d e λk=>(f k).map λv z e=>hv (u k v e))
  (λz u r=>by cases r with | mk o ds Y a b c d e f=>exact .mk o ds Y (hg _ a) b c d e λk=>(f k).map λv z e=>hv (u k v e))
  (λz u r=>by cases r with | mk o ds Y a b c d e f=>exact .mk o ds Y (hg _ a) b c d e λk=>(f k).map λv z e=>hv (u k v e))
theorem AObj.all_I (h:∀v,U v) (a:∀l,Us l):∀o:AObj,o.all U Us:=λo=>AObj.casesOn o a (λz z v z=>h v) (λz z v z=>h v) (λz z v z=>h v)
theorem OR.mono (hg:∀o,h.get? p=b6 o→h'.get? p=b6 o) (s:Sub W W') {o:AObj}:OR C W h p o→OR C W' h' p o:=
 OR.same (U:=λz=>True) (Us:=λz=>True) hg (λz=>VR.mono s) (λz=>VRs.mono s) (AObj.all_I (λz=>trivial) (λz=>trivial) o)
theorem RGet.und {k:Nat} (hT:∀p n,W p=b6 (.tr n)→n < k) {v:V} (r:RGet W (b6 v) x):v.und k:=by cases r with | val _ _ e=>exact e.und hT
theorem OR.und {k:Nat} (hT:∀p n,W p=b6 (.tr n)→n < k):∀{o:AObj},OR C W h p o→o.und k:=λ{o}=>
 AObj.casesOn o (λz r=>by cases r with | mk xs n a b=>exact b.und hT) (λz r q v e=>by cases r with | mk _ _ _ _ _ _ _ _ c=>exact RGet.und hT (e▸c q)) (λz r q v e=>by cases r with | mk _ _ _ _ _ _ _ _ c=>exact RGet.und hT (e▸c q))
  (λz r q v e=>by cases r with | mk _ _ _ _ _ _ _ _ c=>exact RGet.und hT (e▸c q))
theorem bV {K:Type} [DecidableEq K] {k:Nat} {q:K}:∀es:List (K×V),look? (es.map (X9 k)) q=(look? es q).map (V.shift k):=
 A3 rfl λp r j=>(apply_ite (dK (V.shift k)) (p.1=q) (b6 p.2) (look? r q)).trans (cG (ite (p.1=q) _) j.symm) |>.symm
theorem RGet.shift {k:Nat} (hv:∀{v x},VR W v x→VR W' (v.shift k) x) (r:RGet W a x):RGet W' (a.map (V.shift k)) x:=by
 cases r with | nil=>exact .nil | val v x e=>exact .val _ x (hv e)
theorem OR.shift {k:Nat} (g:∀p o,W p=b6 (.imm o)→W' p=b6 (.imm o)) (hT:∀p n,W p=b6 (.tr n)→W' p=b6 (.tr (k+n))):∀{o:AObj},OR C W h p o→OR C W' h p (o.shift k):=λ{o}=>
 AObj.casesOn o (λz r=>by cases r with | mk xs n a b=>exact .mk xs n a (b.shift g hT))
  (λes r=>by cases r with | mk o ds Y a b c d e f=>exact .mk o ds Y a b c d (u7 (as:=es) (X9 k)▸e) λq=>bV es▸(f q).shift (VR.shift g hT))
  (λes r=>by cases r with | mk o ds Y a b c d e f=>exact .mk o ds Y a b c d (u7 (as:=es) (X9 k)▸e) λq=>bV es▸(f q).shift (VR.shift g hT))
  (λes r=>by cases r with | mk o ds Y a b c d e f=>exact .mk o ds Y a b c d (u7 (as:=es) (X9 k)▸e) λq=>bV es▸(f q).shift (VR.shift g hT))
end
inductive FrAt (h:j5) (p:d4) (es:Array P8) (Y:Nat):Prop
 | mk (o):h.get? p=b6 o→o.cls= .type "frame" →o.data= .dict es Y→StrKeys es→FrAt h p es Y
def Holds (C:Cx) (W:Wd) (st:St) (h:j5) (p:d4):Kn→Prop
 | .imm o=>h.get? p=b6 o
 | .own o=>h.get? p=b6 o
 | .fr es Y=>FrAt h p es Y
 | .tr n=>n < st.length∧∀o,st[n]?=b6 o→OR C W h p o
structure Inv (C:Cx) (W:Wd) (st:St) (h:j5):Prop where
 stay:∀b o,C.s₀.heap.get? b=b6 o→W b=b6 (.imm o)
 at_:∀p k,W p=b6 k→Holds C W st h p k
 inj:∀p q n,W p=b6 (.tr n)→W q=b6 (.tr n)→p=q
 sur:∀n,n < st.length→∃p,W p=b6 (.tr n)
 new:∀p n,W p=b6 (.tr n)→3 < p
def UK (h:j5) (p:d4):Prop:=∃o,h.get? p=b6 o
theorem OR.live {W:Wd} {h:j5} {p:d4}:∀{o:AObj},OR C W h p o→UK h p:=λ{o}=>
 AObj.casesOn o (λz r=>by cases r with | mk xs n a b=>exact ⟨_,a⟩) (λz r=>by cases r with | mk o _ _ a=>exact ⟨o,a⟩)
  (λz r=>by cases r with | mk o _ _ a=>exact ⟨o,a⟩) (λz r=>by cases r with | mk o _ _ a=>exact ⟨o,a⟩)
theorem Holds.live {W:Wd} {st:St} {h:j5} {p:d4}:∀{k:Kn},Holds C W st h p k→UK h p:=λ{k}=>
 Kn.casesOn k (λo e=>⟨o,e⟩) (λo e=>⟨o,e⟩) (λz z r=>by cases r with | mk o a=>exact ⟨o,a⟩) λz r=>(r.2 _ (bt r.1)).live
theorem Holds.step {W W':Wd} {st st':St} {h h':j5} {p:d4} (hg:∀o,h.get? p=b6 o→h'.get? p=b6 o) (s:Sub W W') (f:st.length≤st'.length):∀{k:Kn},(∀n o,k= .tr n→n < st.length→st'[n]?=b6 o→st[n]?=b6 o)→Holds C W st h p k→Holds C W' st' h' p k:=λ{k}=>
 Kn.casesOn k (λo z e=>hg o e) (λo z e=>hg o e) (λz z z r=>by cases r with | mk o a b c d=>exact .mk o (hg o a) b c d) λn hs r=>⟨M6 r.1 f,λo e=>OR.mono hg s (r.2 o (hs n o rfl r.1 e))⟩
section
variable {W W':Wd} {st st':St} {h h':j5} {p q:d4}
theorem Inv.lt (i:Inv C W st h):∀p n,W p=b6 (.tr n)→n < st.length:=λp n e=>(i.at_ p _ e).1
theorem Inv.oldK (i:Inv C W st h):OldK st.length st:=λj o a e=>(i.sur j a).elim λp hp=>((i.at_ p _ hp).2 o e).und i.lt
theorem Inv.none (i:Inv C W st h) (e:h.get? p= .none):W p= .none:=by
 cases O:W p with
 | none=>rfl
 | some k=>exact (i.at_ p k O).live.elim λo a=>nomatch e.symm.trans a
theorem Inv.fresh (i:Inv C W st h) (hp:h.objs.size≤p):W p= .none:=i.none (by
 cases e:h.get? p with
 | none=>rfl
 | some o=>exact absurd (gk e) (ae.mpr hp))
theorem Inv.keep0 (i:Inv C W st h):∀b o,C.s₀.heap.get? b=b6 o→h.get? b=b6 o:=λb o e=>i.at_ b _ (i.stay b o e)
theorem Inv.high (i:Inv C W st h) (hp:h.objs.size≤p):3 < p:=C.big.elim λo e=>M6 (by decide) (d3 (Nat.succ_le_of_lt (gk (i.keep0 _ _ e))) hp)
theorem Inv.move (i:Inv C W st h) (q:d4) (c:∀p,p≠q→W' p=W p) (O:∀p o,p≠q→h.get? p=b6 o→h'.get? p=b6 o) (t:∀k,k.sh→W q=b6 k→W' q=b6 k)
  (l:st.length≤st'.length) (hs:∀n o,W q≠b6 (.tr n)→n < st.length→st'[n]?=b6 o→st[n]?=b6 o) (m:∀k,W' q=b6 k→Holds C W' st' h' q k)
  (hi:∀n,W' q=b6 (.tr n)→W q=b6 (.tr n)∨st.length≤n∧3 < q) (r:∀n,st.length≤n→n < st'.length→W' q=b6 (.tr n)):Inv C W' st' h':=by
 have s:Sub W W':=λp k f e=>if hp:p=q then hp▸t k f (hp▸e) else (c p hp).trans e
 have d:∀p n,p≠q→W' p=b6 (.tr n)→W' q=b6 (.tr n)→False:=λp n hp e e'=>(hi n e').elim (λe'=>hp (i.inj p q n ((c p hp).symm.trans e) e')) λe'=>absurd (i.lt p n ((c p hp).symm.trans e)) (ae.mpr e'.1);refine ⟨λb o e=>s b _ trivial (i.stay b o e),λp k e=>?_,λp p' n e e'=>?_,λn g=>?_,λp n e=>?_⟩
 ·exact if hp:p=q then hp▸m k (hp▸e) else (i.at_ p k ((c p hp).symm.trans e)).step (λo=>O p o hp) s l λn o j g=>hs n o (λe'=>hp (i.inj p q n (((c p hp).symm.trans e).trans (cG b6 j)) e')) g
 ·exact if hp:p=q then if a:p'=q then hp.trans a.symm else (d p' n a e' (hp▸e)).elim else if a:p'=q then (d p n hp e (a▸e')).elim else i.inj p p' n ((c p hp).symm.trans e) ((c p' a).symm.trans e')
 ·exact if h1:n < st.length then (i.sur n h1).elim λp e=>⟨p,s p _ trivial e⟩ else ⟨q,r n (kt h1) g⟩
 ·exact if hp:p=q then hp▸(hi n (hp▸e)).elim (i.new q n) (·.2) else i.new p n ((c p hp).symm.trans e)
end
inductive FrOk (W:Wd) (e:i5):Prop
 | mk (L es Y):e.frame=b6 L→W L=b6 (.fr es Y)→FrOk W e
structure Ar (C:Cx) where
 A:q8
 envs:List i5
 N:Nat
 d:Nat
 Φ:d7
 slf:Option Nat
 frames:A.frames=b6 envs
 hd:0 < N→A.handled=b8
 depth:A.depth+2*d < recursionLimit
 units:A.units+20*d+100 < cLine
 scop:∀e∈envs,e.scope.kind≠ .module
structure Z (a:Ar C) (st:St) where
 W:Wd
 h:j5
 t:Nat
 inv:Inv C W st h
 fr:∀e∈a.envs,FrOk W e
def Z.s {a:Ar C} {st:St} (z:Z a st):Shared:={C.s₀ with heap:=z.h,toks:=z.t}
structure To {a:Ar C} {st st':St} (z:Z a st) (z':Z a st'):Prop where
 ext:∀p k,z.W p=b6 k→z'.W p=b6 k
 grow:st.length≤st'.length
 keep:∀k,k≤st.length→(∀n,a.slf=b6 n→k≤n)→OldK k st→OldK k st'
section
variable {a:Ar C} {st H st':St} {z:Z a st} {z₁:Z a H} {z':Z a st'} {v:V} {l:List V} {x:c5} {xs:List c5}
theorem To.refl (z:Z a st):To z z:=⟨λb b e=>e,i0 _,λb b b h=>h⟩
theorem To.trans (x:To z z₁) (y:To z₁ z'):To z z':=⟨λp k e=>y.ext p k (x.ext p k e),d3 x.grow y.grow,λk O hs h=>y.keep k (d3 O x.grow) hs (x.keep k O hs h)⟩
theorem To.sub (x:To z z'):Sub z.W z'.W:=λp k a=>x.ext p k
theorem To.vr (t:To z z') (e:VR z.W v x):VR z'.W v x:=e.mono t.sub
theorem To.vrs (t:To z z') (e:VRs z.W l xs):VRs z'.W l xs:=e.mono t.sub
theorem FrOk.ext {W W':Wd} {e:i5} (s:∀p k,W p=b6 k→W' p=b6 k) (f:FrOk W e):FrOk W' e:=by
 cases f with | mk L es Y a b=>exact .mk L es Y a (s _ _ b)
theorem om {n m:Nat} (e:Kn.tr n= .tr m):n=m:=cG (Kn.rec (λz=>0) (λz=>0) (λz z=>0) id) e
def up (W:Wd) (q:d4) (k:Kn):Wd:=λp=>if p=q then b6 k else W p
theorem j6 {W:Wd} {q:d4} {k:Kn}:up W q k q=b6 k:=iP rfl
theorem E5 {W:Wd} {q:d4} {k:Kn}:∀p,p≠q→up W q k p=W p:=λz hp=>iN hp
theorem D3 {W:Wd} {q:d4} {k:Kn} (m:W q=b8):∀p k',W p=b6 k'→up W q k p=b6 k':=λp z e=>(E5 p λhp=>nomatch (hp▸m).symm.trans e).trans e
theorem gc {W:Wd} {q:d4} {k k':Kn} (e:up W q k q=b6 k'):k=k':=k7 (j6.symm.trans e)
def Z.keep (z:Z a st) (h':j5) (d:Nat) (O:∀p o,z.h.get? p=b6 o→h'.get? p=b6 o):Z a st where
 W:=z.W
 h:=h'
 t:=d
 inv:=z.inv.move z.h.objs.size (λb b=>rfl) (λp o b=>O p o) (λb b e=>e) (i0 _) (λb b b b e=>e) (λk e=>nomatch (z.inv.fresh (i0 _)).symm.trans e) (λb e=> .inl e) λn h1 c=>absurd c (ae.mpr h1)
 fr:=z.fr
theorem To.kept {h':j5} {d:Nat} {O}:To z (z.keep h' d O):=⟨λa a e=>e,i0 _,λa a a h=>h⟩
abbrev Z.tok (z:Z a st) (d:Nat):Z a st:=z.keep z.h d λb b e=>e
def Z.imm (z:Z a st) (q:d4) (k:Kn) (O:∀n,k≠ .tr n) (h':j5) (f:Nat) (m:z.W q=b8) (hg:∀p o,p≠q→z.h.get? p=b6 o→h'.get? p=b6 o) (d:∀W,Holds C W st h' q k):Z a st where
 W:=up z.W q k
 h:=h'
 t:=f
 inv:=z.inv.move q E5 hg (λb b e=>nomatch m.symm.trans e) (i0 _) (λb b b b e=>e) (λk' e=>gc e▸d _) (λn e=>absurd (gc e) (O n)) λn h1 c=>absurd c (ae.mpr h1)
 fr:=λe he=>(z.fr e he).ext (D3 m)
theorem To.immd {q k O h' d m hg b}:To z (z.imm q k O h' d m hg b):=⟨D3 m,i0 _,λa a a h=>h⟩
theorem qc {α:Type} {l:List α} {x:α}:(l++ [x]).length=l.length+1:=u3
theorem wu {st:St} {o o':AObj} {n:Nat} (g:n < st.length) (e:(st++ [o])[n]?=b6 o'):st[n]?=b6 o':=(cg g).symm.trans e
def Z.alloc (z:Z a st) (q:d4) (o:AObj) (h':j5) (d:Nat) (m:z.h.objs.size≤q) (hg:∀p o,p≠q→z.h.get? p=b6 o→h'.get? p=b6 o) (r:OR C (up z.W q (.tr st.length)) h' q o):Z a (st++ [o]) where
 W:=up z.W q (.tr st.length)
 h:=h'
 t:=d
 inv:=z.inv.move q E5 hg (λb b e=>nomatch (z.inv.fresh m).symm.trans e) (qc▸w7 _) (λn o' b g e=>wu g e)
  (λk' e=>gc e▸⟨qc▸oC _,λo' e=>k7 ((JM (l:=st)).symm.trans e)▸r⟩)
  (λn e=> .inr ⟨w2 (om (gc e)),z.inv.high m⟩) λn h1 c=>j6.trans (cG (b6∘Kn.tr) (JF h1 (QF (JH c qc))))
 fr:=λe he=>(z.fr e he).ext (D3 (z.inv.fresh m))
theorem OldK.app {k:Nat} {l:St} (h:OldK k st) (O:k≤st.length):OldK k (st++l):=λi o hi e=>h i o hi ((cg (M6 hi O)).symm.trans e)
theorem To.alloced {q o h' d m hg r}:To z (z.alloc q o h' d m hg r):=⟨D3 (z.inv.fresh m),qc▸w7 _,λa O a h=>h.app O⟩
theorem vA {st:St} {n:Nat} {o o':AObj} (e:(st.set n o)[n]?=b6 o'):o=o':=by
 rw [List.getElem?_set_self'] at e;cases he:st[n]? with
 | none=>rw [he] at e;cases e
 | some _=>rw [he] at e;exact k7 e
def Z.set (z:Z a st) (n:Nat) (q:d4) (o:AObj) (h':j5) (f:Nat) (c:z.W q=b6 (.tr n)) (hg:∀p o,p≠q→z.h.get? p=b6 o→h'.get? p=b6 o) (r:OR C z.W h' q o):Z a (st.set n o) where
 W:=z.W
 h:=h'
 t:=f
 inv:=z.inv.move q (λb b=>rfl) hg (λb b e=>e) (w2 vb.symm) (λm o' hm b e=>(QK (λ(e':n=m)=>hm (e'▸c))).symm.trans e)
  (λk e=>k7 (c.symm.trans e)▸⟨vb (as:=st)▸z.inv.lt q n c,λo' e=>vA e▸r⟩) (λb e=> .inl e) λm h1 d=>absurd (vb (as:=st)▸d) (ae.mpr h1)
 fr:=z.fr
theorem To.setd {n q o h' d m hg r} (O:∀k,(∀n,a.slf=b6 n→k≤n)→n < k→(∀o,st[n]?=b6 o→o.und k)→o.und k):To z (z.set n q o h' d m hg r):=
 ⟨λb b e=>e,w2 vb.symm,λk b hs h i o' hi e=>if g:n=i then vA (g▸e)▸O k hs (g▸hi) (λo=>h n o (g▸hi)) else h i o' hi ((QK g).symm.trans e)⟩
end
end
section
variable {C:Cx} {a:Ar C} {st H st':St} {z:Z a st} {W:Wd} {v w:V} {x y:Value} {Q:Value→Shared→Prop} {E:Value→Shared→Prop}
abbrev W0:Wd:=λz=>b8
inductive NewExc (z:Z a st) (p:d4) (e:Exc):Prop
 | mk (t d):z.W p=b8→z.W d=b8→z.h.get? p=b6 {cls:= .ref XC,dict:=b6 d,data:= .fields #[.ref t,.none,.none,.none,.bool false,.none]}→RNs W0 z.h d (fW e)→NewExc z p e
inductive Flight (z:Z a st) (p:d4) (e:Exc) (fl:c5):Prop
 | mk (o vs T oT ts d):z.W p=b8→z.W d=b8→z.W T=b8→T≠p→z.h.get? p=b6 o→o.cls= .ref XC→o.dict=b6 d→o.data= .fields vs→vs[1]?=b6 (.ref T)→
  z.h.get? T=b6 oT→oT.cls= .type "traceback" →oT.data= .fields ts→ts[3]?=b6 fl→RNs W0 z.h d (fW e)→Flight z p e fl
section
variable (z:Z a st) (E:c5→d0→Prop)
def Post (r:Res) (Q:c5→d0→Prop):Prop:=Res.casesOn (motive:=λb=>Prop) r
 (λv st'=>∀(z':Z a st') x,To z z'→VR z'.W v x→Q x z'.s) (λe st'=>∀(z':Z a st') p,To z z'→NewExc z' p e→Q (.ref p) z'.s)
 (λe st'=>∀(z':Z a st') p,To z z'→Flight z' p e .none→E (.ref p) z'.s) False
def PostL (r:ResL) (Q:List c5→d0→Prop):Prop:=ResL.casesOn (motive:=λb=>Prop) r
 (λv st'=>∀(z':Z a st') x,To z z'→VRs z'.W v x→Q x z'.s) (λe st'=>∀(z':Z a st') p,To z z'→Flight z' p e .none→E (.ref p) z'.s) False
def PostB (r:Res) (Q:Bool→d0→Prop):Prop:=Res.casesOn (motive:=λc=>Prop) r
 (λv st'=>v.onB False λb=>∀(z':Z a st'),To z z'→Q b z'.s) (λc c=>False)
 (λe st'=>∀(z':Z a st') p,To z z'→Flight z' p e .none→E (.ref p) z'.s) False
end
def SE (z:Z a st) (t:j9 c5) (r:Res):Prop:=∀Q E,Post z E r Q→c7 C.M a.A t Q E z.s
def SL (z:Z a st) (t:j9 (List c5)) (r:ResL):Prop:=∀Q E,PostL z E r Q→c7 C.M a.A t Q E z.s
def BE (z:Z a st) (t:j9 Bool) (r:Res):Prop:=∀Q E,PostB z E r Q→c7 C.M a.A t Q E z.s
section
variable {z:Z a st} {z₁:Z a H} {t:j9 c5} {r:Res} {Q:c5→d0→Prop} {E:c5→d0→Prop} {K:c5→d0→Prop}
theorem Post.to (u:To z z₁):∀{r},Post z E r Q→Post z₁ E r Q:=λ{r}=>
 Res.casesOn r (λa a p z' x t=>p z' x (u.trans t)) (λa a p z' x t=>p z' x (u.trans t)) (λa a p z' x t=>p z' x (u.trans t)) id
theorem PostL.to {Q} (u:To z z₁):∀{r},PostL z E r Q→PostL z₁ E r Q:=λ{r}=>
 ResL.casesOn r (λa a p z' x t=>p z' x (u.trans t)) (λa a p z' x t=>p z' x (u.trans t)) id
theorem PostB.to {Q} (u:To z z₁):∀{r},PostB z E r Q→PostB z₁ E r Q:=λ{r}=>
 Res.casesOn r (λv a=>V.casesOn v id (λa p z' t=>p z' (u.trans t)) (λa=>id) (λa=>id) (λa=>id) (λa a=>id) (λa=>id) (λa a=>id) (λa=>id) (λa=>id) (λa=>id) (λa=>id)) (λa a=>id) (λa a p z' x t=>p z' x (u.trans t)) id
theorem SE.no:SE z t .stuck:=λa a p=>p.elim
theorem SE.q {g:V→St→Res}:∀{r},SE z t r→Post z E (r.bind g) Q→(∀v H (z₁:Z a H) x,To z z₁→VR z₁.W v x→Post z₁ E (g v H) Q→K x z₁.s)→c7 C.M a.A t K E z.s:=λ{r}=>
 Res.casesOn r (λv st' h p k=>h K E λz' x u e=>k v st' z' x u e (p.to u)) (λb b b p b=>p.elim) (λb b h p b=>h K E p) λb p b=>p.elim
theorem SE.qL {g:V→St→ResL} {Q}:∀{r},SE z t r→PostL z E (r.bindL g) Q→(∀v H (z₁:Z a H) x,To z z₁→VR z₁.W v x→PostL z₁ E (g v H) Q→K x z₁.s)→c7 C.M a.A t K E z.s:=λ{r}=>
 Res.casesOn r (λv st' h p k=>h K E λz' x u e=>k v st' z' x u e (p.to u)) (λb b b p b=>p.elim) (λb b h p b=>h K E p) λb p b=>p.elim
theorem SE.qB {g:V→St→Res} {Q}:∀{r},SE z t r→PostB z E (r.bind g) Q→(∀v H (z₁:Z a H) x,To z z₁→VR z₁.W v x→PostB z₁ E (g v H) Q→K x z₁.s)→c7 C.M a.A t K E z.s:=λ{r}=>
 Res.casesOn r (λv st' h p k=>h K E λz' x u e=>k v st' z' x u e (p.to u)) (λb b b p b=>p.elim) (λb b h p b=>h K E p) λb p b=>p.elim
theorem SL.q {t:j9 (List c5)} {K} {g:List V→St→Res}:∀{r},SL z t r→Post z E (r.bind g) Q→(∀v H (z₁:Z a H) x,To z z₁→VRs z₁.W v x→Post z₁ E (g v H) Q→K x z₁.s)→c7 C.M a.A t K E z.s:=λ{r}=>
 ResL.casesOn r (λv st' h p k=>h K E λz' x u e=>k v st' z' x u e (p.to u)) (λb b h p b=>h K E p) λb p b=>p.elim
theorem BE.q {t:j9 Bool} {K} {f:Bool→St→Res}:∀{r},BE z t r→Post z E (r.bind λv st=>v.onB .stuck λb=>f b st) Q→(∀b H (z₁:Z a H),To z z₁→Post z₁ E (f b H) Q→K b z₁.s)→c7 C.M a.A t K E z.s:=λ{r}=>
 Res.casesOn r (λv st'=>V.casesOn v (λc p c=>p.elim) (λb h p k=>h K E λz' u=>k b st' z' u (p.to u)) (λc c p c=>p.elim) (λc c p c=>p.elim) (λc c p c=>p.elim) (λc c c p c=>p.elim) (λc c p c=>p.elim) (λc c c p c=>p.elim)
  (λc c p c=>p.elim) (λc c p c=>p.elim) (λc c p c=>p.elim) (λc c p c=>p.elim)) (λc c c p c=>p.elim) (λc c h p c=>h K E p) λc p c=>p.elim
theorem BE.qB {t:j9 Bool} {K} {f:Bool→St→Res} {Q}:∀{r},BE z t r→PostB z E (r.bind λv st=>v.onB .stuck λb=>f b st) Q→(∀b H (z₁:Z a H),To z z₁→PostB z₁ E (f b H) Q→K b z₁.s)→c7 C.M a.A t K E z.s:=λ{r}=>
 Res.casesOn r (λv st'=>V.casesOn v (λc p c=>p.elim) (λb h p k=>h K E λz' u=>k b st' z' u (p.to u)) (λc c p c=>p.elim) (λc c p c=>p.elim) (λc c p c=>p.elim) (λc c c p c=>p.elim) (λc c p c=>p.elim) (λc c c p c=>p.elim)
  (λc c p c=>p.elim) (λc c p c=>p.elim) (λc c p c=>p.elim) (λc c p c=>p.elim)) (λc c c p c=>p.elim) (λc c h p c=>h K E p) λc p c=>p.elim
theorem Post.ok {v:V} {x:c5} (p:Post z E (.ok v st) Q) (e:VR z.W v x):Q x z.s:=p z x (.refl z) e
theorem Post.tok {v:V} {x:c5} (p:Post z E (.ok v st) Q) (t:Nat) (e:VR z.W v x):Q x {z.s with toks:=t}:=p (z.tok t) x .kept e
variable {γ α:Type} {P:c5→γ→Prop} {v:V} {x:c5} {s:γ} {W:Wd}
theorem VR.int {f:Int→γ}:∀{v},VR W v x→(∀x,P x s)→(∀i u,P (.int i u) (f i))→P x (v.onInt s f):=λ{v}=>
 V.casesOn v (λz h z=>h x) (λz z h z=>h x) (λi r z k=>by cases r with | mk u=>exact k i u) (λz z h z=>h x) (λz z h z=>h x) (λz z z h z=>h x) (λz z h z=>h x) (λz z z h z=>h x) (λz z h z=>h x) (λz z h z=>h x) (λz z h z=>h x) (λz z h z=>h x)
theorem VR.str {f:List Nat→γ}:∀{v},VR W v x→(∀x,P x s)→(∀i u,P (.str (c6 i) u) (f i))→P x (v.onStr s f):=λ{v}=>
 V.casesOn v (λz h z=>h x) (λz z h z=>h x) (λz z h z=>h x) (λi r z k=>by cases r with | mk u=>exact k i u) (λz z h z=>h x) (λz z z h z=>h x) (λz z h z=>h x) (λz z z h z=>h x) (λz z h z=>h x) (λz z h z=>h x) (λz z h z=>h x) (λz z h z=>h x)
theorem VR.tup {f:List V→γ}:∀{v},VR W v x→(∀x,P x s)→(∀l,VR W (.tup l) x→P x (f l))→P x (v.onTup s f):=λ{v}=>
 V.casesOn v (λz h z=>h x) (λz z h z=>h x) (λz z h z=>h x) (λz z h z=>h x) (λl r z k=>k l r) (λz z z h z=>h x) (λz z h z=>h x) (λz z z h z=>h x) (λz z h z=>h x) (λz z h z=>h x) (λz z h z=>h x) (λz z h z=>h x)
theorem VR.ref {f:Nat→γ}:∀{v},VR W v x→(∀x,P x s)→(∀n p,W p=b6 (.tr n)→P (.ref p) (f n))→P x (v.onRef s f):=λ{v}=>
 V.casesOn v (λz h z=>h x) (λz z h z=>h x) (λz z h z=>h x) (λz z h z=>h x) (λz z h z=>h x) (λz z z h z=>h x) (λn r z k=>by cases r with | mk p e=>exact k n p e) (λz z z h z=>h x) (λz z h z=>h x) (λz z h z=>h x) (λz z h z=>h x) (λz z h z=>h x)
theorem VR.none {f:γ}:∀{v},VR W v x→(∀x,P x s)→P .none f→P x (v.onNone s f):=λ{v}=>
 V.casesOn v (λr z k=>V4 (motive:=λx=>P x f) k (dS r)) (λz z h z=>h x) (λz z h z=>h x) (λz z h z=>h x) (λz z h z=>h x) (λz z z h z=>h x) (λz z h z=>h x) (λz z z h z=>h x) (λz z h z=>h x) (λz z h z=>h x) (λz z h z=>h x) (λz z h z=>h x)
theorem VR.bool {f:Bool→γ}:∀{v},VR W v x→(∀x,P x s)→(∀b,P (.bool b) (f b))→P x (v.onB s f):=λ{v}=>
 V.casesOn v (λz h z=>h x) (λb r z k=>V4 (motive:=λx=>P x (f b)) (k b) (dS r)) (λz z h z=>h x) (λz z h z=>h x) (λz z h z=>h x) (λz z z h z=>h x) (λz z h z=>h x) (λz z z h z=>h x) (λz z h z=>h x) (λz z h z=>h x) (λz z h z=>h x) (λz z h z=>h x)
theorem VR.seq {f:List Nat→γ} {g:List V→γ} {k:Nat→γ}:∀{v},VR W v x→(∀x,P x s)→(∀i u,P (.str (c6 i) u) (f i))→(∀l,VR W (.tup l) x→P x (g l))→(∀n p,W p=b6 (.tr n)→P (.ref p) (k n))→P x (v.onSeq s f g k):=λ{v}=>
 V.casesOn v (λz h z z z=>h x) (λz z h z z z=>h x) (λz z h z z z=>h x) (λi r z k z z=>by cases r with | mk u=>exact k i u) (λl r z z k z=>k l r) (λz z z h z z z=>h x) (λn r z z z k=>by cases r with | mk p e=>exact k n p e) (λz z z h z z z=>h x)
  (λz z h z z z=>h x) (λz z h z z z=>h x) (λz z h z z z=>h x) (λz z h z z z=>h x)
theorem l6 {P:γ→Prop} {f:α→γ} (hs:P s):∀{o:Option α},(∀a,o=b6 a→P (f a))→P (c8 o s f):=λ{o}=>aQ o (λz=>hs) λa k=>k a rfl
theorem C3 {P:γ→Prop} {c:Prop} [Decidable c] {f:γ} (hs:P s) (k:c→P f):P (if c then f else s):=if h:c then (iP h).symm▸k h else (iN h).symm▸hs
theorem SE.some {f:α→Res} {o:Option α} (k:∀a,o=b6 a→SE z t (f a)):SE z t (c8 o .stuck f):=l6 .no k
theorem SE.ite {c:Prop} [Decidable c] {f:Res} (k:c→SE z t f):SE z t (if c then f else .stuck):=C3 .no k
section
variable {n:Nat} {p:d4} {P:γ→Prop} {f:List V→γ} {g:List (List Nat×V)→γ} (z:Z a st) (hp:z.W p=gD (.tr n)) (hs:P s)
include hp
theorem Z.obj {o:AObj} (e:st[n]?=gD o):OR C z.W z.h p o:=(z.inv.at_ p _ hp).2 o e
include hs
theorem Z.list (k:∀l xs m,st[n]?=gD (.list l)→z.h.get? p=gD (listOf xs m)→VRs z.W l xs.toList→P (f l)):P (r6 st n s f):=
 l6 hs λo=>AObj.casesOn o (λl h=>by cases z.obj hp h with | mk xs m a b=>exact k l xs m h a b) (λc c=>hs) (λc c=>hs) (λc c=>hs)
theorem Z.dict (k:∀es,st[n]?=gD (.dict es)→RDict (strKind pg C.w) c6 z.W z.h p es→P (g es)):P (O7 st n s g):=
 l6 hs λo=>AObj.casesOn o (λa a=>hs) (λl h=>k l h (z.obj hp h)) (λa a=>hs) (λa a=>hs)
theorem Z.ns (k:∀es,st[n]?=gD (.ns es)→RNs z.W z.h p es→P (g es)):P (nU st n s g):=
 l6 hs λo=>AObj.casesOn o (λa a=>hs) (λa a=>hs) (λa a=>hs) (λl h=>k l h (z.obj hp h))
theorem Z.ld (k:∀l xs m,st[n]?=gD (.list l)→z.h.get? p=gD (listOf xs m)→VRs z.W l xs.toList→P (f l)) (k':∀es,st[n]?=gD (.dict es)→RDict (strKind pg C.w) c6 z.W z.h p es→P (g es)):P (onLD st n s f g):=
 l6 hs λo=>AObj.casesOn o (λl h=>by cases z.obj hp h with | mk xs m a b=>exact k l xs m h a b) (λl h=>k' l h (z.obj hp h)) (λc c=>hs) (λc c=>hs)
theorem Z.li {g:List (Int×V)→γ} (k:∀l xs m,st[n]?=gD (.list l)→z.h.get? p=gD (listOf xs m)→VRs z.W l xs.toList→P (f l)) (k':∀es,st[n]?=gD (.idict es)→RDict (intKind pg C.w) id z.W z.h p es→P (g es)):P (onLI st n s f g):=
 l6 hs λo=>AObj.casesOn o (λl h=>by cases z.obj hp h with | mk xs m a b=>exact k l xs m h a b) (λc c=>hs) (λl h=>k' l h (z.obj hp h)) (λc c=>hs)
end
theorem BE.of {e:f6} {env:i5}:∀{r},SE z t r→isTrue e env t=(do let v ← t;S8 e.pos;C9 [v] (truthy v))→BE z (isTrue e env t) r:=λ{r}=>
 Res.casesOn r (λv st' h he Q E p=>wpAny_isTrue_value (h _ E λz' x u e=>VR.bool (P:=λx (c:Prop)=>c→c7 C.M a.A (truthy x) Q E z'.s) e (λd h=>h.elim) (λb h=>ml (h z' u)) p) he) (λd d d d d d p=>p.elim) (λd d h he Q E p=>wpAny_isTrue_value (h _ E p) he) (λd d d d p=>p.elim)
end
section
mutual
noncomputable def gu:V→aN
 | .bool b=> .bool b
 | .int i=> .int i
 | .str s=> .str (c6 s)
 | .tup l=> .tuple (toPys l)
 | _=> .none
noncomputable def toPys:List V→List aN
 | []=> []
 | a :: r=>gu a :: toPys r
end
theorem no {P:Prop} (h:false=true):P:=absurd h O0
theorem cN (v:V):∀k,v.data k=true→(gu v).canLay0=true∧(gu v).depth≤k:=
 V.rec (motive_1:=λv=>∀k,v.data k=true→(gu v).canLay0=true∧(gu v).depth≤k) (motive_2:=λl=>∀k,V.datas k l=true→aN.canLayAll0 (toPys l)=true∧aN.depthAll (toPys l)≤k)
  (λk z=>⟨rfl,T3 _⟩) (λz k z=>⟨rfl,T3 _⟩) (λz k z=>⟨rfl,T3 _⟩) (λs k h=>⟨List.all_toArray.trans h,T3 _⟩)
  (λl ih k=>oA k no λk h=>⟨(ih k h).1,Z1 (ih k h).2⟩) (λz z k=>no) (λz k=>no) (λz z k=>no) (λz k=>no) (λz k=>no) (λz k=>no) (λz k=>no)
  (λk z=>⟨rfl,T3 _⟩) (λa r i b k h=>have h:=q7.mp h;⟨q7.mpr ⟨(i k h.1).1,(b k h.2).1⟩,Nat.max_le.mpr ⟨(i k h.1).2,(b k h.2).2⟩⟩) v
theorem em {l:List V} {k:Nat} (h:V.datas k l=true):aN.canLayAll0 (toPys l)=true∧aN.depthAll (toPys l)≤k:=
 have r:=cN (.tup l) (k+1) h;⟨r.1,QM r.2⟩
theorem bY {h:j5} (a:∀p o,W p=b6 (.imm o)→h.get? p=b6 o) (v:V):∀k x,v.data k=true→VR W v x→Reads h x (gu v) []:=
 V.rec (motive_1:=λv=>∀k x,v.data k=true→VR W v x→Reads h x (gu v) []) (motive_2:=λl=>∀k xs,V.datas k l=true→VRs W l xs→ReadsAll h xs (toPys l) [])
  (λk x z r=>r▸ .none) (λb k x z r=>r▸ .bool b) (λi k x z r=>by cases r with | mk t=>exact .int i t) (λs k x z r=>by cases r with | mk t=>exact .str _ t)
  (λl ih k x=>oA k no λk h r=>by cases r with | mk p o n xs e b c d=>exact .tuple (a _ _ e) b c (ih k _ h d)) (λz z k x=>no) (λz k x=>no) (λz z k x=>no) (λz k x=>no) (λz k x=>no) (λz k x=>no) (λz k x=>no)
  (λk xs _ (r:xs= [])=>r▸ .nil) (λv l f g k xs h r=>by cases r with | mk x xs b c=>exact ReadsAll.cons (as:= []) (bs:= []) (f k x (q7.mp h).1 b) (g k xs (q7.mp h).2 c)) v
theorem fG {h:j5} (e:∀p o,W p=b6 (.imm o)→h.get? p=b6 o):∀{l:List V} {k xs},V.datas k l=true→VRs W l xs→ReadsAll h xs (toPys l) []:=λ{l k xs}=>
 A3 (motive:=λl=>∀xs,V.datas k l=true→VRs W l xs→ReadsAll h xs (toPys l) []) (λxs _ (r:xs= [])=>r▸ .nil)
  (λv l i xs h r=>by cases r with | mk x xs b c=>exact ReadsAll.cons (as:= []) (bs:= []) (bY e v k x (q7.mp h).1 b) (i xs (q7.mp h).2 c)) l xs
theorem Q9 {a b:List Nat} (h:c6 a=c6 b):a=b:=cG u8 h
theorem nY {α:Type} [BEq α] [LawfulBEq α] [DecidableEq α] (a b:α):(a==b)=decide (a=b):=Bool.eq_iff_iff.mpr (beq_iff_eq.trans (decide_eq_true_iff ..).symm)
theorem eC (a b:List Nat):(c6 a==c6 b)=decide (a=b):=(nY ..).trans (decide_eq_decide.mpr ⟨Q9,cG c6⟩)
theorem fS:∀w:V,aN.eqv .none (gu w)=w.isN:=λw=>V.casesOn w rfl (λz=>rfl) (λz=>rfl) (λz=>rfl) (λz=>rfl) (λz z=>rfl) (λz=>rfl) (λz z=>rfl) (λz=>rfl) (λz=>rfl) (λz=>rfl) λz=>rfl
theorem vJ (v:V):∀w,aN.eqv (gu v) (gu w)=V.beq v w:=
 V.rec (motive_1:=λv=>∀w,aN.eqv (gu v) (gu w)=V.beq v w) (motive_2:=λl=>∀m,aN.eqvAll (toPys l) (toPys m)=V.beqs l m)
  fS (λz w=>V.casesOn w rfl (λz=>rfl) (λz=>rfl) (λz=>rfl) (λz=>rfl) (λz z=>rfl) (λz=>rfl) (λz z=>rfl) (λz=>rfl) (λz=>rfl) (λz=>rfl) λz=>rfl)
  (λz w=>V.casesOn w rfl (λz=>rfl) (λz=>rfl) (λz=>rfl) (λz=>rfl) (λz z=>rfl) (λz=>rfl) (λz z=>rfl) (λz=>rfl) (λz=>rfl) (λz=>rfl) λz=>rfl)
  (λs w=>V.casesOn w rfl (λz=>rfl) (λz=>rfl) (λz=>eC _ _) (λz=>rfl) (λz z=>rfl) (λz=>rfl) (λz z=>rfl) (λz=>rfl) (λz=>rfl) (λz=>rfl) λz=>rfl)
  (λl ih w=>V.casesOn w rfl (λz=>rfl) (λz=>rfl) (λz=>rfl) (λm=>ih m) (λz z=>rfl) (λz=>rfl) (λz z=>rfl) (λz=>rfl) (λz=>rfl) (λz=>rfl) λz=>rfl)
  (λz z=>fS) (λz=>fS) (λz z=>fS) (λz=>fS) (λz=>fS) (λz=>fS) (λz=>fS)
  (λm=>H7 m rfl λz z=>rfl) (λa r i c m=>H7 m rfl λb s=>congr (cG and (i b)) (c s)) v
theorem Z.I (z:Z a st):∀p o,z.W p=b6 (.imm o)→z.h.get? p=b6 o:=λp o e=>z.inv.at_ p _ e
def tO (z:Z a st) (x y:c5) (r:Option Bool):Prop:=∀b,r=b6 b→∀Q E,(Q (.bool b) z.s→c7 C.M a.A (T2 .Eq x y) Q E z.s)∧(Q (.bool !b) z.s→c7 C.M a.A (T2 .NotEq x y) Q E z.s)
theorem BZ {m:Nat} (hm:m≤100):a.A.units+m < cLine:=J7 (dJ (A7 a.A.units (20*a.d)) hm) a.units
theorem ru {m n:Nat} (hm:m≤21):a.A.units+min m n < cLine:=BZ (d3 (JL ..) (d3 hm (by decide)))
theorem kT {x y:c5} {d e:aN} {as bs:List d4} (f:Reads z.h x d as) (g:Reads z.h y e bs) (a:d.canLay0=true) (c:e.canLay0=true) (hd:d.depth≤21) {r:Bool} (j:d.eqv e=r):tO z x y (b6 r):=λb i Q E=>
 k7 i▸j▸⟨SeqAt.rcAt_reads (s:=z.s) f g a c (ru hd) _ _ E Q,SeqAt.rcNeAt_reads (s:=z.s) f g a c (ru hd) _ _ E Q⟩
variable {v w:V} {x y:c5}
theorem gY:tO z x y none:=λa e=>e6 e
theorem I0 (hx:VR z.W v x) (a:VR z.W w y):tO z x y (Pd v w):=C3 gY λh=>
 have h:=q7.mp h
 kT (bY z.I v 20 x h.1 hx) (bY z.I w 20 y h.2 a) (cN v 20 h.1).1 (cN w 20 h.2).1 (fy (cN v 20 h.1).2) (vJ v w)
theorem GK {l m:List Nat} {t u:Tok}:tO z (.str (c6 l) t) (.str (c6 m) u) (b6 (decide (l=m))):=λb e Q E=>
 k7 e▸nY l m▸⟨λh=>P.eq_str h,λh=>P.ne_str h⟩
theorem BV {p q:d4} {xs ys:Array c5} {i j:Nat} {l m:List V} (b:z.h.get? p=b6 (listOf xs i)) (a:z.h.get? q=b6 (listOf ys j)) (r:VRs z.W l xs.toList) (c:VRs z.W m ys.toList) (h:V.datas 20 l=true∧V.datas 20 m=true):tO z (.ref p) (.ref q) (b6 (V.beqs l m)):=
 kT (d:= .list (toPys l)) (e:= .list (toPys m)) (.list (as:= []) b rfl rfl (fG z.I h.1 r)) (.list (as:= []) a rfl rfl (fG z.I h.2 c)) (em h.1).1 (em h.2).1 (Z1 (em h.1).2) (vJ (.tup l) (.tup m))
theorem CD:∀{v},VR z.W v x→VR z.W w y→tO z x y (Nd st v w):=λ{v}=>
 V.casesOn v I0 (λa=>I0) (λa=>I0)
  (λs hx=>V.casesOn w (I0 hx) (λa=>I0 hx) (λa=>I0 hx) (λg c=>by cases hx with | mk t=>cases c with | mk u=>exact GK) (λa=>I0 hx) (λa a=>I0 hx) (λa=>I0 hx) (λa a=>I0 hx) (λa=>I0 hx) (λa=>I0 hx) (λa=>I0 hx) (λa=>I0 hx))
  (λa=>I0) (λa a=>I0)
  (λn hx c=>by cases hx with | mk p e=>exact VR.ref (P:=λy r=>tO z (.ref p) y r) c (λa=>gY) λm q e'=>z.list e gY λl xs i a d r=>z.list e' gY λl' ys j a b f=>C3 gY λh=>BV d b r f (q7.mp h))
  (λa a=>I0) (λa=>I0) (λa=>I0) (λa=>I0) (λa=>I0)
theorem tH {f:V→Option Bool} {e:c5→Bool} {A:q8} {s:d0} {t:c5} (a:∀v x b,VR W v x→f v=b6 b→e x=b∧SeqAt.EqAt A s x t (e x)) :
  ∀{l xs r},VRs W l xs→rr f l=b6 r→(∀y∈xs,SeqAt.EqAt A s y t (e y))∧xs.any e=r:=λ{l xs r}=>
 A3 (motive:=λl=>∀xs r,VRs W l xs→rr f l=b6 r→(∀y∈xs,SeqAt.EqAt A s y t (e y))∧xs.any e=r) (λxs r (h:xs= []) h'=>h▸⟨λz d=>(nomatch d),k7 h'⟩)
  (λv l ih xs r h=>by
   cases h with
   | mk x xs hx h=>
    exact l6 (s:=b8) (o:=f v) (P:=λo=>o=b6 r→(∀y∈x :: xs,SeqAt.EqAt A s y t (e y))∧(x :: xs).any e=r) (λe=>e6 e) λb c e'=>
     (ch.mp e').elim λq m=>⟨uY.mpr ⟨(a v x b hx c).2,(ih xs q h m.1).1⟩,(congr (cG or (a v x b hx c).1) (ih xs q h m.1).2).trans m.2⟩) l xs r
def mq (z:Z a st) (x y:c5) (r:Option Bool):Prop:=∀b,r=b6 b→SE z (T2 .In x y) (.ok (.bool b) st)∧SE z (T2 .NotIn x y) (.ok (.bool !b) st)
theorem I6:mq z x y none:=λa e=>e6 e
def GQ (k:Int) (v:c5):Bool:=match v with | .int z _=>z==k | _=>false
theorem xL {h:j5} {p:d4} {o:f7} {ds:Array P8} {Y n:Nat} (a:h.get? p=b6 o) (hd:o.data= .dict ds Y) (hz:ds.size≤n):h.DictLe p n:=λz z z e c=>
 (Data.dict.inj (hd.symm.trans (k7 (a.symm.trans e)▸c))).1▸hz
theorem RDict.elim {K K':Type} [DecidableEq K] [DecidableEq K'] {knd:KeyKind pg C.w K'} {f:K→K'} {h:j5} {p:d4} {es:List (K×V)} {P:Prop} (r:RDict knd f W h p es)
  (k:∀m,h.MapOf knd p m→h.DictLe p es.length→(∀k,RGet W (look? es k) (m (f k)))→P):P:=by
 cases r with | mk o ds Y a b c d e g=>exact k _ ⟨o,ds,Y,a,b,c,d,λz=>rfl⟩ (xL a c e) g
theorem RGet.some {v:V} {x:Option c5} {P:Option c5→Prop} (r:RGet W (b6 v) x) (k:∀y,VR W v y→P (b6 y)):P x:=by cases r with | val _ y e=>exact k y e
theorem RGet.isSome {v:Option V} {x:Option c5} (r:RGet W v x):x.isSome=v.isSome:=by cases r with | nil=>rfl | val=>rfl
theorem M2 (k:List Nat) (t:Tok):(strKind pg C.w).is (c6 k) (.str (c6 k) t)=true:=beq_self_eq_true (c6 k)
theorem gX (k:Int) (t:Tok):(intKind pg C.w).is k (.int k t)=true:=beq_self_eq_true k
theorem Z.low (z:Z a st) {p:d4} {n:Nat} (hp:z.W p=b6 (.tr n)):(p==sysModules)=false:=beq_eq_false_iff_ne.mpr λe=>absurd (e▸z.inv.new p n hp) (by decide)
theorem ue {l:List V} {f:V→Option Bool} {e:c5→Bool} (k:∀v d b,VR z.W v d→f v=b6 b→e d=b∧SeqAt.EqAt a.A.in1 z.s d x (e d)) (g:VR z.W (.tup l) y):mq z x y (rr f l):=λb c=>by
 cases g with
 | mk p o n xs m j hd r=>
  have h:=tH k r c;have i:z.s.heap.IsTuple p xs:=⟨o,z.I _ _ m,j,n,hd⟩
  have hi:∀y,y∈xs→SeqAt.EqAt a.A.in1 z.s y x (e y):=λy g=>h.1 y (JG.mpr g);have c:xs.any e=b:=Array.any_toList.symm.trans h.2;exact ⟨λQ E p=>SeqAt.in_tupleAt e i hi (c▸p.ok rfl),λQ E p=>SeqAt.notIn_tupleAt e i hi (c▸p.ok rfl)⟩
theorem Jz {p:d4} {l:List V} {xs:Array c5} {m:Nat} {f:V→Option Bool} {e:c5→Bool} (g:∀v d b,VR z.W v d→f v=b6 b→e d=b∧SeqAt.EqAt a.A.in1 z.s d x (e d)) (j:z.h.get? p=b6 (listOf xs m)) (r:VRs z.W l xs.toList):mq z x (.ref p) (rr f l):=λb c=>
 have h:=tH g r c;have i:z.s.heap.IsList p xs:=⟨_,j,rfl,m,rfl⟩
 have hi:∀y,y∈xs→SeqAt.EqAt a.A.in1 z.s y x (e y):=λy k=>h.1 y (JG.mpr k);have c:xs.any e=b:=Array.any_toList.symm.trans h.2
 ⟨λQ E p=>SeqAt.in_listAt e i hi (c▸p.ok rfl),λQ E p=>SeqAt.notIn_listAt e i hi (c▸p.ok rfl)⟩
theorem ou {k:List Nat} {u:Tok} (A:q8) (s:d0) (v:V) (x:c5) (b:Bool) (h:VR W v x):(v.onStr b8 λs=>b6 (decide (s=k)))=b6 b→x.isStr (c6 k)=b∧SeqAt.EqAt A s x (.str (c6 k) u) (x.isStr (c6 k)):=
 VR.str (P:=λx o=>o=b6 b→x.isStr (c6 k)=b∧SeqAt.EqAt A s x (.str (c6 k) u) (x.isStr (c6 k))) h (λz e=>e6 e) λi t e=>⟨(eC i k).trans (k7 e),SeqAt.EqAt.str_str _ _ _ _⟩
theorem Hj {k:Int} {u:Tok} (A:q8) (s:d0) (v:V) (x:c5) (b:Bool) (h:VR W v x):(v.onInt b8 λs=>b6 (decide (s=k)))=b6 b→GQ k x=b∧SeqAt.EqAt A s x (.int k u) (GQ k x):=
 VR.int (P:=λx o=>o=b6 b→GQ k x=b∧SeqAt.EqAt A s x (.int k u) (GQ k x)) h (λz e=>e6 e) λi t e=>⟨k7 e,SeqAt.EqAt.int_int _ _ _ _⟩
theorem Dl (A:q8) (s:d0) (v:V) (x:c5) (b:Bool) (h:VR W v x):(v.onStr b8 λz=>b6 false)=b6 b→false=b∧SeqAt.EqAt A s x .none false:=
 VR.str (P:=λx o=>o=b6 b→false=b∧SeqAt.EqAt A s x .none false) h (λz e=>e6 e) λi t e=>⟨k7 e,SeqAt.EqAt.str_none _ _⟩
theorem Gy {l:List V}:∀{v},VR z.W v x→VR z.W (.tup l) y→mq z x y (nP st v (.tup l)):=λ{v}=>
 V.casesOn v (λhx h=>V4 (motive:=λx=>mq z x y _) (ue (Dl _ _) h) (dS hx)) (λa a a=>I6) (λa hx h=>by cases hx with | mk=>exact ue (Hj _ _) h) (λa hx h=>by cases hx with | mk=>exact ue (ou _ _) h)
  (λa a a=>I6) (λa a a a=>I6) (λa a a=>I6) (λa a a a=>I6) (λa a a=>I6) (λa a a=>I6) (λa a a=>I6) (λa a a=>I6)
theorem AK (hx:VR z.W v x) (h:VR z.W w y):mq z x y (nP st v w):=
 VR.seq (P:=λy r=>mq z x y r) h (λa=>I6)
  (λs u=>VR.str (P:=λx r=>mq z x _ r) hx (λa=>I6) λt d=>H7 t I6 λk r=>H7 r (λb e=>k7 e▸by
   have e:(!(lV (c6 s) ⟨#[k]⟩ 0 (c6 s).length 1).isEmpty)=rF k s:=(StrLaws.found_one ..).trans (QE ..).symm;exact ⟨λQ E p=>P.in_str (e▸p.ok rfl),λQ E p=>P.notIn_str (e▸p.ok rfl)⟩) λa a=>I6)
  (λl h=>Gy hx h)
  (λn p hp=>VR.str (P:=λx r=>mq z x (.ref p) r) hx (λa=>I6) λk u=>z.ld hp I6 (λl xs m a c r=>Jz (ou _ _) c r) λes a r b e=>k7 e▸r.elim λm hm a q=>
   ⟨λQ E p=>wpAny_in_of (M2 k u) (z.low hp) hm ((q k).isSome▸p.tok _ rfl),λQ E p=>wpAny_notIn_of (M2 k u) (z.low hp) hm ((q k).isSome▸p.tok _ rfl)⟩)
theorem qC:VR z.W v x→(x==bE)=ow v:=
 have q {x y:c5} (e:x=y):(x==bE)=(y==bE):=cG (·==bE) e
 V.casesOn v q (λa=>q) (λa e=>by cases e with | mk=>rfl) (λa e=>by cases e with | mk=>rfl) (λa e=>by cases e with | mk=>rfl) (λa a e=>by cases e with | mk=>rfl) (λa e=>by cases e with | mk=>rfl) (λa a e=>by cases e with | mk=>rfl)
  (λa=>q) (λa=>q) (λb e=>(q e).trans (by cases b <;> rfl)) (λa e=>by cases e with | mk=>rfl)
def COp.py:COp→CmpOp
 | .eq=> .Eq | .ne=> .NotEq | .lt=> .Lt | .le=> .LtE | .gt=> .Gt | .ge=> .GtE | .isin=> .In | .notin=> .NotIn | .is=> .Is | .isnot=> .IsNot
theorem nz {f:Int→Int→Bool} {o:CmpOp} (hx:VR z.W v x) (b:VR z.W w y) (h:∀{i j t u Q E},Q (.bool (f i j)) z.s→c7 C.M a.A (T2 o (.int i t) (.int j u)) Q E z.s):SE z (T2 o x y) (Y0 st (DC f v w)):=
 VR.int (P:=λx r=>SE z (T2 o x y) (Y0 st r)) hx (λc=>SE.no) λi t=>VR.int (P:=λy r=>SE z (T2 o _ y) (Y0 st r)) b (λc=>SE.no) λj u Q E p=>h (p.ok rfl)
theorem vq {o:Option Bool} {t:j9 c5} {f:Bool→Bool} (h:∀b,o=b6 b→SE z t (.ok (.bool (f b)) st)):SE z t (Y0 st (o.map f)):=aQ (motive:=λo'=>o=o'→SE z t (Y0 st (o'.map f))) o (λa=>SE.no) (λb e=>h b e) rfl
theorem Eo {o:Option Bool} {t:j9 c5} (h:∀b,o=b6 b→SE z t (.ok (.bool b) st)):SE z t (Y0 st o):=aQ (motive:=λo'=>o=o'→SE z t (Y0 st o')) o (λa=>SE.no) (λb e=>h b e) rfl
theorem eF (op:COp) (hx:VR z.W v x) (a:VR z.W w y):SE z (T2 op.py x y) (Y0 st (l7 st op v w)):=
 COp.casesOn op (Eo λb e Q E p=>(CD hx a b e Q E).1 (p.ok rfl)) (vq λb e Q E p=>(CD hx a b e Q E).2 (p.ok rfl)) (nz hx a P.lt_int) (nz hx a P.le_int) (nz hx a P.gt_int) (nz hx a P.ge_int)
  (Eo λb e=>(AK hx a b e).1) (vq λb e=>(AK hx a b e).2)
  (VR.none (P:=λy r=>SE z (T2 .Is x y) (Y0 st r)) a (λc=>SE.no) λQ E p=>PySem.is_none (qC hx▸p.ok rfl))
  (VR.none (P:=λy r=>SE z (T2 .IsNot x y) (Y0 st r)) a (λc=>SE.no) λQ E p=>PySem.isNot_none (qC hx▸p.ok rfl))
end
theorem tQ:sizeLim=sizeLine:=by decide +kernel
theorem sz {n:Nat} (h:n≤sizeLim):n≤sizeLine:=tQ▸h
theorem bB {x:Int} (h:x.natAbs < intLim):Builtin.Int.intBits x≤2 ^ 20:=by
 delta Builtin.Int.intBits
 split
 ·exact T3 _
 ·rename_i a;exact d3 (Nat.succ_le_of_lt ((Nat.log2_lt λe=>a (beq_iff_eq.mpr (Int.natAbs_eq_zero.mp e))).mpr h)) (by decide)
theorem Q2 (x y:List Nat):c6 x++c6 y=c6 (x++y):=cG c9.mk (List.append_toArray ..)
theorem j8 (x:List Nat):(c6 x).length=x.length:=QD ..
theorem VRs.app {l m:List V} {xs ys:Array c5} (r:VRs W l xs.toList) (c:VRs W m ys.toList):VRs W (l++m) (xs++ys).toList:=Eq.mpr (cG (VRs W _) Vx) (r.append c)
theorem Z.fresh (z:Z a st):z.W z.h.objs.size=none:=z.inv.fresh (i0 _)
theorem X5 {h:j5} {o:f7} {q:d4}:∀p o',p≠q→h.get? p=b6 o'→(h.push o).get? p=b6 o':=λz z z e=>I4 _ e
theorem aI {W:Wd} {q:d4} {k:Kn} (m:W q=b8):Sub W (up W q k):=λp k' z=>D3 m p k'
theorem Post.newTup {l:List V} {xs:Array c5} (p:Post z E (.ok (.tup l) st) Q) (e:VRs z.W l xs.toList) (t:Nat):Q (.ref z.h.objs.size) {z.s with heap:=z.h.push {cls:= .type "tuple",data:= .seq xs},toks:=t}:=
 p (z.imm z.h.objs.size (.imm {cls:= .type "tuple",data:= .seq xs}) (λa e=>nomatch e) _ t z.fresh X5 λa=>aS _ rfl) _ .immd (.mk _ _ 0 xs j6 rfl rfl (e.mono (aI z.fresh)))
theorem Post.newList {l:List V} {xs:Array c5} (p:Post z E (.ok (.ref st.length) (st++ [.list l])) Q) (e:VRs z.W l xs.toList) (t:Nat):Q (.ref z.h.objs.size) {z.s with heap:=z.h.push {cls:= .type "list",data:= .seq xs},toks:=t}:=
 p (z.alloc z.h.objs.size (.list l) _ t (i0 _) X5 (.mk xs 0 (aS _ rfl) (e.mono (aI z.fresh)))) _ .alloced (.mk _ j6)
def BOp.py:BOp→Operator
 | .add=> .Add | .sub=> .Sub | .mul=> .Mult | .fdiv=> .FloorDiv | .mod=> .Mod | .pow=> .Pow | .shr=> .RShift
theorem AR {f:Int→Int→Int} {o:Operator} (hx:VR z.W v x) (b:VR z.W w y) (h:∀{i j t u Q E},Q (.int (f i j) z.s.toks) {z.s with toks:=z.s.toks+1}→c7 C.M a.A (N8 o (.int i t) (.int j u)) Q E z.s):SE z (N8 o x y) (Kx st f v w):=
 VR.int (P:=λx r=>SE z (N8 o x y) r) hx (λc=>SE.no) λi t=>VR.int (P:=λy r=>SE z (N8 o _ y) r) b (λc=>SE.no) λj u Q E p=>h (p.tok _ (.mk _))
theorem V7 {g:Int→Int→Bool} {f:Int→Int→Int} {o:Operator} (hx:VR z.W v x) (b:VR z.W w y) (h:∀{i j t u Q E},g i j=true→Q (.int (f i j) z.s.toks) {z.s with toks:=z.s.toks+1}→c7 C.M a.A (N8 o (.int i t) (.int j u)) Q E z.s):SE z (N8 o x y) (fc st g f v w):=
 VR.int (P:=λx r=>SE z (N8 o x y) r) hx (λd=>SE.no) λi t=>VR.int (P:=λy r=>SE z (N8 o _ y) r) b (λd=>SE.no) λj u=> .ite λc Q E p=>h c (p.tok _ (.mk _))
theorem kD {y:Int} {n:Nat} (a:0≤y) (h:y < n):y.natAbs < n:=P1.mp (Gi (Int.le_of_eq (Int.natAbs_of_nonneg a)) h)
theorem Nv {p q:d4} {o o':f7} {xs ys:Array c5} {n g:Nat} {l m:List V} (e:z.h.get? p=b6 o) (x:o.cls= .type "tuple") (hd:o.data= .seq xs n) (a:z.h.get? q=b6 o') (j:o'.cls= .type "tuple") (s:o'.data= .seq ys g)
  (hx:VR z.W (.tup l) (.ref p)) (y:VR z.W (.tup m) (.ref q)) (r:VRs z.W l xs.toList) (w:VRs z.W m ys.toList) (hz:l.length+m.length≤sizeLim):SE z (N8 .Add (.ref p) (.ref q)) (.ok (.tup (l++m)) st):=λQ E k=>by
 obtain ⟨C,od,B,d⟩:=o;obtain ⟨A,c,u,b⟩:=o';cases x;cases hd;cases j;cases s;have t:=r.length;have l2:=w.length;by_cases f:xs.isEmpty=true
 ·exact concat_meets ⟨_,e,rfl⟩ ⟨_,a,rfl⟩ noFill_tuple_add seq_tuple_add PySem.F.slot_tuple_add PySem.F.entry_tuple_add (PySem.F.args_tuple_add_2 _ _) (tuple_addW0 p q xs ys n g od c d b f) ⟨e,a,Post.ok (v:= .tup (l++m)) k ((QR.mp (t.symm.trans (Vy.mp f)))▸y)⟩
 ·by_cases i:ys.isEmpty=true
  ·exact concat_meets ⟨_,e,rfl⟩ ⟨_,a,rfl⟩ noFill_tuple_add seq_tuple_add PySem.F.slot_tuple_add PySem.F.entry_tuple_add (PySem.F.args_tuple_add_2 _ _) (tuple_addW1 p q xs ys n g od c d b f i) ⟨e,a,Post.ok (v:= .tup (l++m)) k ((QR.mp (l2.symm.trans (Vy.mp i)))▸(P0 l).symm▸hx)⟩
  ·exact concat_meets ⟨_,e,rfl⟩ ⟨_,a,rfl⟩ noFill_tuple_add seq_tuple_add PySem.F.slot_tuple_add PySem.F.entry_tuple_add (PySem.F.args_tuple_add_2 _ _) (tuple_addW2 p q xs ys n g od c d b f i (sz (d3 (w2 (congr (cG HAdd.hAdd t) l2)) hz)))
    ⟨e,a,Post.newTup k (r.app w) _⟩
theorem OV {l m:List Nat} {t u:Tok}:SE z (N8 .Add (.str (c6 l) t) (.str (c6 m) u)) (if l.length+m.length≤sizeLim then .ok (.str (l++m)) st else .stuck):= .ite λh Q E p=>
 SB.add (λd k=>Q2 l m▸p.tok k (.mk d)) (sz (j8 l▸j8 m▸h))
theorem Jp {l m:List Nat} {t u:Tok}:SE z (inplaceOp .Add (.str (c6 l) t) (.str (c6 m) u)) (if l.length+m.length≤sizeLim then .ok (.str (l++m)) st else .stuck):= .ite λh Q E p=>
 SB.iadd (λd k=>Q2 l m▸p.tok k (.mk d)) (sz (j8 l▸j8 m▸h))
theorem HC {p q:d4} {xs ys:Array c5} {n g:Nat} {l m:List V} (b:z.h.get? p=b6 (listOf xs n)) (a:z.h.get? q=b6 (listOf ys g)) (r:VRs z.W l xs.toList) (c:VRs z.W m ys.toList) :
  SE z (N8 .Add (.ref p) (.ref q)) (if l.length+m.length≤sizeLim then .ok (.ref st.length) (st++ [.list (l++m)]) else .stuck):= .ite λh Q E k=>
 concat_meets ⟨_,b,rfl⟩ ⟨_,a,rfl⟩ noFill_list_add seq_list_add PySem.F.slot_list_add PySem.F.entry_list_add (PySem.F.args_list_add_2 _ _) (list_addW p q xs ys n g b8 b8 #[] #[] (sz (d3 (w2 (congr (cG HAdd.hAdd r.length) c.length)) h)))
  ⟨b,a,Post.newList k (r.app c) _⟩
theorem Px:∀{v},VR z.W v x→VR z.W w y→SE z (N8 .Add x y) (Se v w st):=λ{v}=>
 V.casesOn v (λa a=> .no) (λa a a=> .no) (λi hx c=>by cases hx with | mk t=>exact VR.int (P:=λy r=>SE z (N8 .Add _ y) r) c (λa=> .no) λj u Q E p=>wpAny_add_int (p.tok _ (.mk _)))
  (λs hx c=>by cases hx with | mk t=>exact VR.str (P:=λy r=>SE z (N8 .Add _ y) r) c (λa=> .no) λm u=>OV)
  (λl hx c=>VR.tup (P:=λy r=>SE z (N8 .Add x y) r) c (λa=> .no) λm c=> .ite λh=>by
   cases hx with | mk p o n xs g A hd r=>cases c with | mk q o' B ys b d f k=>exact Nv (z.I _ _ g) A hd (z.I _ _ b) d f (.mk p o n xs g A hd r) (.mk q o' B ys b d f k) r k h)
  (λa a a a=> .no) (λn hx c=>by cases hx with | mk p e=>exact VR.ref (P:=λy r=>SE z (N8 .Add (.ref p) y) r) c (λa=> .no) λm q e'=>z.list e .no λl xs i a g r=>z.list e' .no λl' ys j a b k=>HC g b r k)
  (λa a a a=> .no) (λa a a=> .no) (λa a a=> .no) (λa a a=> .no) (λa a a=> .no)
theorem Du (op:BOp) (hx:VR z.W v x) (a:VR z.W w y):SE z (N8 op.py x y) (u6 op v w st):=
 BOp.casesOn op (Px hx a) (AR hx a P.sub_int) (V7 hx a λc h=>P.mul_int h (IntMulOk.of_bits (bB (of_decide_eq_true c).1) (bB (of_decide_eq_true c).2)))
  (V7 hx a λc h=>have c:=of_decide_eq_true c;floordiv_int (JD c.1) h (.inl (PyProof.noPylong_small (kD (JJ c.1) (jK c.2 (by decide))))))
  (V7 hx a λc h=>mod_int' (JD (of_decide_eq_true c)) h)
  (V7 hx a λc h=>have c:=of_decide_eq_true c;pow_int_small c.1 (Int.le_trans c.2.1 (by decide)) (kD c.2.2.1 (Gi c.2.2.2 (by decide))) h)
  (V7 hx a λc h=>rshift_int (of_decide_eq_true c).1 h)
theorem jz (op:BOp) (hx:VR z.W v x) (h:VR z.W w y):SE z (inplaceOp op.py x y) (L8 op v w st):=
 BOp.casesOn op (by
  revert hx
  exact V.casesOn v (λa=> .no) (λa a=> .no) (λi hx=>by cases hx with | mk t=>exact VR.int (P:=λy r=>SE z (inplaceOp .Add _ y) r) h (λa=> .no) λj u Q E p=>wpAny_iadd_int (p.tok _ (.mk _)))
   (λs hx=>by cases hx with | mk t=>exact VR.str (P:=λy r=>SE z (inplaceOp .Add _ y) r) h (λa=> .no) λm u=>Jp)
   (λa a=> .no) (λa a a=> .no) (λa a=> .no) (λa a a=> .no) (λa a=> .no) (λa a=> .no) (λa a=> .no) (λa a=> .no)) .no .no .no .no .no .no
section
def LH (s:d0) (x:c5):Prop:=∃(T id:String),s.TypeIs x T∧typeLookup (.type T) "__getitem__" =pure (b6 (.builtin id))
def GI (z:Z a st) (x y:c5) (r:Res):Prop:=∀Q E,Post z E r Q→LH z.s x∧c7 C.M a.A (getItem x y) Q E z.s
theorem GI.no:GI z x y .stuck:=λa a p=>p.elim
theorem GI.mk {r:Res} {T id:String} (h:z.s.TypeIs x T) (l:typeLookup (.type T) "__getitem__" =pure (b6 (.builtin id))) (k:SE z (getItem x y) r):GI z x y r:=λQ E p=>⟨⟨T,id,h,l⟩,k Q E p⟩
theorem ly:∀{i:Int},S7 i=true→0≤i∧i < 1000000:=λ{i}=>JN i (λn h=>⟨V3 n,P1.mpr (Ag h)⟩) λz=>no
theorem Dr:∀{i:Int},small i=true→-1000000 < i∧i < 1000000:=λ{i}=>JN i (λn h=>⟨Ad (by decide) (V3 n),P1.mpr (Ag h)⟩)
 λn h=>by
  have h:n < 999999:=Ag h;omega
theorem VRs.nth {l:List V} {xs:Array c5} (r:VRs W l xs.toList) {k:Nat} (e:l[k]?=b6 v):∃y,xs[k]?=b6 y∧VR W v y:=
 RGet.some (P:=λo=>o=xs.toList[k]?→∃y,xs[k]?=b6 y∧VR W v y) (e▸r.get k) (λy h e=>⟨y,Ac.symm.trans e.symm,h⟩) rfl
variable {p:d4} {l:List V} {xs:Array c5} {m:Nat} {t:Tok}
theorem BL {o:f7} {n:Nat} (b:z.h.get? p=b6 o) (a:o.cls= .type "tuple") (hd:o.data= .seq xs n):IsTup z.s.heap p xs:=⟨o,b,a,n,hd⟩
theorem BX {i:Int} {n:Nat} (a:0≤i) (h:i < n):seqIndex? i n=b6 i.toNat:=by
 have e:(if i < 0 then i+n else i)=i:=iN (kr.mpr a);show (if decide (0≤(if i < 0 then i+n else i))&&decide ((if i < 0 then i+n else i) < n) then b6 (if i < 0 then i+n else i).toNat else b8)=_;rw [e];exact iP (q7.mpr ⟨decide_eq_true a,decide_eq_true h⟩)
theorem GA {i:Int} (b:IsTup z.s.heap p xs) (r:VRs z.W l xs.toList):GI z (.ref p) (.int i t) (HX l i st):=C3 GI.no λh=>l6 GI.no λv e=>(r.nth e).elim λy a=> .mk b.typeIs slot_tuple_getitem.lookup λQ E k=>
 have h:=ly h
 getItem_tuple (j:=i.toNat) b (Int.le_trans (by decide) h.1) (jK h.2 (by decide)) (BX h.1 ((Int.toNat_lt h.1).mp (FX.mp a.1).1)) a.1 (k.ok a.2)
theorem Fi {i:Int} (a:z.h.get? p=b6 (listOf xs m)) (r:VRs z.W l xs.toList):GI z (.ref p) (.int i t) (HX l i st):=C3 GI.no λh=>l6 GI.no λv e=>(r.nth e).elim λy b=> .mk ⟨_,a,rfl⟩ slot_list_getitem.lookup λQ E k=>
 have h:=ly h
 wpAny_getItem_list ⟨_,a,rfl,m,rfl⟩ h.1 (jK h.2 (by decide)) b.1 (k.ok b.2)
theorem IR {s:List Nat} {i:Int} {u:Tok}:GI z (.str (c6 s) t) (.int i u) (if small i then c8 (X1 s.length i) .stuck λk=>c8 s[k]? .stuck λc=> .ok (.str [c]) st else .stuck):=
 C3 GI.no λh=>l6 GI.no λk O=>l6 GI.no λc a=> .mk (gh z.s (c6 s) t) F.slot_str_getitem.lookup λQ E k'=>
  have e:Txt.charAt (c6 s) i=b6 c:=JK (cG (λo=>QH o λk=>(c6 s).cps[k]?) (O:seqIndex? i (c6 s).length=b6 k)) (QP.trans a);have h:=Dr h
  SB.getItem (fitsSsize_of (N:=1000000) h.1 h.2 (by decide)) (e▸rfl) (k'.tok _ (show VR z.W (.str [c]) (.str ⟨#[(Txt.charAt (c6 s) i).getD 0]⟩ _) from e▸ .mk _))
theorem wv {K K':Type} [DecidableEq K] [DecidableEq K'] {knd:KeyKind pg C.w K'} {f:K→K'} {es:List (K×V)} {k:K} {y:c5} (r:RDict knd f z.W z.h p es) (O:knd.is (f k) y=true):GI z (.ref p) y (jW (look? es k) st):=l6 GI.no λv e=>r.elim λm hm b q=>
 RGet.some (P:=λo=>o=m (f k)→GI z (.ref p) y (.ok v st)) (e▸q k) (λa hv e'=> .mk hm.typeIs slot_dict_getitem.lookup λQ E p=>wpAny_getItem_of O hm e'.symm (p.tok _ hv)) rfl
theorem jr (hx:VR z.W v x) (h:VR z.W w y):GI z x y (s8 v w st):=
 VR.seq (P:=λx r=>GI z x y r) hx (λa=>GI.no) (λs t=>VR.int (P:=λy r=>GI z _ y r) h (λa=>GI.no) λi u=>IR)
  (λl hx=>VR.int (P:=λy r=>GI z x y r) h (λa=>GI.no) λi u=>by cases hx with | mk p o n xs b c hd r=>exact GA (BL (z.I _ _ b) c hd) r)
  (λn p hp=>by
   revert h
   exact V.casesOn w (λa=>GI.no) (λa a=>GI.no) (λi h=>by cases h with | mk t=>exact z.li hp GI.no (λl xs m a b r=>Fi b r) λes a r=>wv r (gX i t))
    (λk h=>by cases h with | mk t=>exact z.dict hp GI.no λes a r=>wv r (M2 k t))
    (λa a=>GI.no) (λa a a=>GI.no) (λa a=>GI.no) (λa a a=>GI.no) (λa a=>GI.no) (λa a=>GI.no) (λa a=>GI.no) (λa a=>GI.no))
theorem GI.tail {r:Res} {v s:f6} {ops:List c5} (h:GI z x y r) (e:subscripted s false x y=operate ops (getItem x y)):SE z (subscriptTail v s x y) r:=λQ E p=>
 have g:=h Q E p;g.1.elim λT q=>q.elim λid q=>tail_any q.1 q.2 g.2 e
theorem ER {n d:Nat} {P:c5→Option Nat→Prop}:∀{v},VR W v x→(∀x,P x b8)→(∀p:Option (Int×Tok),P (partValue p) (b6 ((p.map (·.1)).elim d (clipAt n))))→P x (ub n d v):=λ{v}=>
 V.casesOn v (λe z k=>V4 (motive:=λx=>P x (b6 d)) (k b8) (dS e)) (λz z h z=>h x) (λi r h k=>by cases r with | mk t=>exact C3 (h _) λa=>(rY a).elim λm e=>(by subst e;exact clipAt_nat n m▸k (b6 (_,t)))) (λz z h z=>h x) (λz z h z=>h x) (λz z z h z=>h x)
  (λz z h z=>h x) (λz z z h z=>h x) (λz z h z=>h x) (λz z h z=>h x) (λz z h z=>h x) (λz z h z=>h x)
theorem nW (p:Option (Int×Tok)):IsPart (partValue p) (p.map (·.1)):=aQ p .none λq=> .int q.1 q.2
theorem vk {n:Nat} {lo hi:V} {d c:c5} {f:Nat→Nat→Res} {P:c5→c5→Res→Prop} (e:VR W lo d) (h:VR W hi c) (hs:∀x y,P x y .stuck)
  (k:∀p q:Option (Int×Tok),P (partValue p) (partValue q) (f ((p.map (·.1)).elim 0 (clipAt n)) ((q.map (·.1)).elim n (clipAt n)))):P d c (Eh n lo hi f):=
 ER (P:=λx o=>P x c (c8 o .stuck λa=>c8 (ub n n hi) .stuck λb=>f a b)) e (λz=>hs _ _) λp=>ER (P:=λy o=>P _ y (c8 o .stuck λb=>f _ b)) h (λz=>hs _ _) λq=>k p q
theorem gQ {α:Type} (a b:Nat) (l:List α):(l.drop a).take (b-a)=(l.take b).drop a:=List.drop_take.symm
theorem ua {sl:d4} (a:z.h.get? p=b6 (listOf xs m)) (r:VRs z.W l xs.toList) {lo hi:Option (Int×Tok)} (hs:z.h.IsSliceOf sl (partValue lo) (partValue hi) .none) (hz:l.length≤sizeLim) :
  GI z (.ref p) (.ref sl) (.ok (.ref st.length) (st++ [.list (E9 ((lo.map (·.1)).elim 0 (clipAt l.length)) ((hi.map (·.1)).elim l.length (clipAt l.length)) l)])):= .mk ⟨_,a,rfl⟩ slot_list_getitem.lookup λQ E k=>
 have f:xs.size=l.length:=r.length
 Gh ⟨_,a,rfl,m,rfl⟩ hs (nW lo) (nW hi) .none nofun (by rw [slicePick_plain,f,gQ];exact k.newList ((r.take _).drop _) _) (sz (f▸hz))
theorem wN (n:Nat) (i:Int):clipAt n i≤n:=Int.toNat_le.mpr (Int.max_le.mpr ⟨V3 n,Int.min_le_right ..⟩)
theorem yW {s:List Nat} {x y:Nat} (a:y≤s.length) (h:y-x=s.length):E9 x y s=s:=by
 have e:y=s.length:=JF a (h▸vc y x);subst e;have e':x=0∨s.length=0:=(Nat.eq_zero_or_pos s.length).elim .inr λhp=> .inl (Nat.eq_zero_of_not_pos λhx=>absurd h (Ab (Nat.sub_lt hp hx)));exact (cG (Ah x) (QI (i0 _))).trans (e'.elim (λe=>e▸rfl) λe=>(QR.mp e)▸List.drop_nil)
theorem xO {s:List Nat} {sl:d4} {lo hi:Option (Int×Tok)} (hs:z.h.IsSlice sl lo hi b8) (hz:s.length≤sizeLim) :
  GI z (.str (c6 s) t) (.ref sl) (.ok (.str (E9 ((lo.map (·.1)).elim 0 (clipAt s.length)) ((hi.map (·.1)).elim s.length (clipAt s.length)) s)) st):= .mk (gh z.s (c6 s) t) F.slot_str_getitem.lookup λQ E k=>by
 generalize hx:(lo.map (·.1)).elim 0 (clipAt s.length)=x at k;generalize b:(hi.map (·.1)).elim s.length (clipAt s.length)=y at k;have hp:slicePicked (c6 s) lo hi b8=(rW (y-x)).map (x+ ·):=by
  have h:=sliceBounds_plain (lo.map (·.1)) (hi.map (·.1)) s.length;rw [hx,b] at h;have q:slicePicked (c6 s) lo hi b8=sliceRange (sliceBounds (lo.map (·.1)) (hi.map (·.1)) b8 (c6 s).length).1 (sliceBounds (lo.map (·.1)) (hi.map (·.1)) b8 (c6 s).length).2.1 (sliceBounds (lo.map (·.1)) (hi.map (·.1)) b8 (c6 s).length).2.2:=by
   cases lo <;> cases hi <;> rfl
  rw [q,j8,h];exact sliceRange_one x y
 have c:((rW (y-x)).map (x+ ·)).filterMap ((c6 s).cps[·]?)=E9 x y s:=(pick_run (c6 s).cps x (y-x)).trans (gQ ..);refine wpAny_getItem_str_slice hs rfl ?_;delta sliceMade;rw [hp,c];by_cases a:(((b8:Option (Int×Tok)).map (·.1)).getD 1==1&&((rW (y-x)).map (x+ ·)).length==(c6 s).length)=true
 ·rw [iP a];have f:y-x=s.length:=(u7 _ |>.trans FM).symm.trans ((beq_iff_eq.mp (q7.mp a).2).trans (j8 s));rw [yW (b▸aQ hi (i0 _) λd=>wN ..) f] at k;exact k.ok (RStr.mk t)
 ·rw [iN a];exact ⟨sz (d3 (w2 QD) (d3 (oD▸d3 (vc ..) (Vz ..)) (d3 (b▸aQ hi (i0 _) λd=>wN ..) hz))),k.tok _ (.mk _)⟩
theorem Hb {l:List V} {xs:Array c5} (r:VRs W l xs.toList):∀is:List Nat,VRs W (is.filterMap (l[·]?)) (is.filterMap (xs[·]?)):=
 A3 rfl λi is ih=>by
  have g:RGet W l[i]? xs[i]?:=Ac▸r.get i
  revert g
  rw [QO,QO];generalize l[i]?=o;generalize xs[i]?=o';exact λg=>by cases g with | nil=>exact ih | val v x e=>exact .mk x _ e ih
theorem tM {sl:d4} {i k:Int} {u:Tok} (a:z.h.get? p=b6 (listOf xs m)) (r:VRs z.W l xs.toList) (hs:z.h.IsSliceOf sl (.int i t) .none (.int k u)) (b:0≤i) (O:0 < k) (hz:l.length≤sizeLim) :
  GI z (.ref p) (.ref sl) (.ok (.ref st.length) (st++ [.list (bu k i l)])):= .mk ⟨_,a,rfl⟩ slot_list_getitem.lookup λQ E q=>by
 have f:xs.size=l.length:=r.length;have c:slicePick xs (b6 i) b8 (b6 k)=(((rW (if max 0 (min i l.length) < l.length then (l.length-max 0 (min i l.length)+k-1) / k else 0).toNat).map λ(j:Nat)=>(max 0 (min i l.length)+k*(j:Int)).toNat).filterMap (xs[·]?)).toArray:=by
  delta slicePick sliceBounds sliceRange;simp only [QS,iN (kr.mpr b),iP (show k > 0 from O),f]
 refine Gh ⟨_,a,rfl,m,rfl⟩ hs (.int i t) .none (.int k u) (λe=>absurd (k7 e) (JD O)) ?_ (sz (f▸hz));rw [c];exact q.newList (Hb r _) _
end
section
variable {p:d4} {l:List V} {xs:Array c5} {m:Nat} {t:Tok}
theorem zQ (b n:Nat) (h:b < n):FQ b8 (b6 (b:Int)) 1 (n:Int)=(0,(b:Int)):=by
 delta FQ;rw [iN (show ¬(1:Int) < 0 by decide),iN (show ¬(1:Int) < 0 by decide)];exact cG (Prod.mk 0) ((iN (kr.mpr (V3 b))).trans (Int.min_eq_left (fx.mpr (rN h))))
theorem zS (b:Nat):xp 0 (b:Int) 1=b:=by
 delta xp;rw [iP (show (1:Int) > 0 by decide),Int.ediv_one];cases b with
 | zero=>rfl
 | succ b=>exact cG Int.toNat ((iP (P1.mpr (uZ b))).trans ((Int.sub_add_cancel ..).trans (FF _)))
theorem Hn (xs:Array c5) (b:Nat):((rW b).filterMap λ(k:Nat)=>xs[((0:Int)+(k:Int)*1).toNat]?).toArray=(xs.toList.take b).toArray:=by
 have e:(λ(k:Nat)=>xs[((0:Int)+(k:Int)*1).toNat]?)=(λx=>xs[x]?)∘λk=>0+k:=funext λk=>cG (λn:Nat=>xs[n]?) (by rw [Int.mul_one,Int.zero_add];exact (gC k).symm);rw [e,← List.filterMap_map,pick_run];rfl
theorem yR {sl:d4} {b:Nat} (i:IsTup z.h p xs) (r:VRs z.W l xs.toList) (hs:z.h.IsSliceOf sl .none (.int b t) .none) (g:b < l.length) (hz:l.length≤1000):GI z (.ref p) (.ref sl) (.ok (.tup (l.take b)) st):= .mk i.typeIs slot_tuple_getitem.lookup λQ E k=>by
 have f:xs.size=l.length:=r.length;have hsz:sizeOk (.seq (xs.toList.take b).toArray):=by
  show (xs.toList.take b).toArray.size≤bH;exact d3 (QD ..▸List.length_take_le' b xs.toList) (d3 (w2 f) (d3 hz (by rw [bG];decide)))
 obtain ⟨os,a,d,c⟩:=hs;delta getItem;refine v9 (d1 (wpAny_sequenceKey i.typeIs (by decide) (d1 (wpAny_callSpecial?_slot (name:=dM "__getitem__") i.typeIs slot_tuple_getitem (wpAny_call_entry slot_tuple_getitem i.typeIs entry_tuple_getitem ?_ (args_tuple_getitem _ _))))));show c7 _ _ (Builtin.Tuple.tupleItemsOf (.ref p) >>= _) _ _ z.s;refine d1 (tupleItemsOf_ i (d1 (wpAny_typeOf ⟨os,a,d⟩ ?_)));rw [iP (by decide)];refine d1 ?_;delta Builtin.Slice.sliceApplied Builtin.Slice.sliceFields;refine d1 (d1 (dQ a c (x:= .none) rfl (d1 (dQ a c (x:= .int b t) rfl (d1 (dQ a c (x:= .none) rfl (g9 (d1 (slicePart_none ?_)))))))));show c7 _ _ (if ((1:Int)==0)=true then _ else _) _ _ z.s;rw [iN (by decide)];refine d1 (slicePart_none (d1 (slicePart_int (d1 (g9 ?_)))));show c7 _ _ (match FQ b8 (b6 (b:Int)) 1 (xs.size:Int) with | (lo,hi)=>pure (lo,(1:Int),xp lo hi 1)) _ _ z.s;rw [zQ b xs.size (f▸g)];show c7 _ _ (pure ((0:Int),(1:Int),xp 0 (b:Int) 1)) _ _ z.s;rw [zS];refine g9 ?_;show c7 _ _ (if ((0:Int)==0&&(1:Int)==1&&b==xs.size)=true then _ else _) _ _ z.s;rw [iN (λe=>Ab (f▸g) (beq_iff_eq.mp (q7.mp e).2)),Hn];exact d1 (m:=Builtin.Tuple.tupleExact _) (xj (g9 ⟨_,rfl,g9 (k.newTup (xs:=(xs.toList.take b).toArray) (r.take b) _)⟩) hsz)
abbrev Z.slc (z:Z a st) (l h k:c5):Z a st:=z.keep (z.h.push {cls:= .type "slice",data:= .fields #[l,h,k]}) z.t λb b e=>I4 _ e
theorem kz {lo hi y:V} {f d xk:c5} (hx:VR z.W v x) (w:VR z.W lo f) (j:VR z.W hi d) (O:VR z.W y xk):GI (z.slc f d xk) x (.ref z.h.objs.size) (I9 v lo hi y st):=by
 have sl:∀{l h k},(z.slc l h k).h.IsSliceOf z.h.objs.size l h k:=j5.IsSliceOf.new ..;exact VR.seq (P:=λx r=>GI (z.slc f d xk) x (.ref z.h.objs.size) r) hx (λa=>GI.no)
  (λs t=>VR.none (P:=λk r=>GI (z.slc f d k) _ (.ref z.h.objs.size) r) O (λa=>GI.no) (C3 GI.no λhz=>vk (P:=λl h r=>GI (z.slc l h .none) _ (.ref z.h.objs.size) r) w j (λa a=>GI.no) λp q=>xO sl hz))
  (λl hx=>VR.none (P:=λk r=>GI (z.slc f d k) x (.ref z.h.objs.size) r) O (λa=>GI.no) (VR.none (P:=λl r=>GI (z.slc l d .none) x (.ref z.h.objs.size) r) w (λa=>GI.no) (VR.int (P:=λh r=>GI (z.slc .none h .none) x (.ref z.h.objs.size) r) j (λa=>GI.no) λb t=>C3 GI.no λg=>
   (rY g.1).elim λm e=>by
    subst e;cases hx with | mk p o n xs c A hd r=>exact yR ⟨o,I4 _ (z.I _ _ c),A,n,hd⟩ r sl (P1.mp g.2.1) g.2.2)))
  (λn p hp=>(z.slc f d xk).list hp GI.no λl xs m a c r=>C3 GI.no λhz=>by
   revert c O
   exact V.casesOn y (λe c=>V4 (motive:=λk=>(z.slc f d k).h.get? p=_→GI (z.slc f d k) _ _ _) (λc=>vk (P:=λl' h r=>(z.slc l' h .none).h.get? p=b6 (listOf xs m)→GI (z.slc l' h .none) _ (.ref z.h.objs.size) r) w j (λa a a=>GI.no) (λp q c=>ua c r sl hz) c) (dS e) c) (λa a a=>GI.no)
    (λk e c=>by cases e with | mk u=>exact VR.int (P:=λl' r=>(z.slc l' d _).h.get? p=b6 (listOf xs m)→GI (z.slc l' d (.int k u)) _ (.ref z.h.objs.size) r) w (λa a=>GI.no) (λi t c=>VR.none (P:=λh r=>(z.slc (.int i t) h _).h.get? p=b6 (listOf xs m)→GI (z.slc _ h _) _ (.ref z.h.objs.size) r) j (λa a=>GI.no) (λc=>C3 GI.no λg=>tM c r sl g.2 g.1 hz) c) c)
    (λa a a=>GI.no) (λa a a=>GI.no) (λa a a a=>GI.no) (λa a a=>GI.no) (λa a a a=>GI.no) (λa a a=>GI.no) (λa a a=>GI.no) (λa a a=>GI.no) (λa a a=>GI.no))
end
structure TC where
 names:List (c9×B0)
 inner:Option (List (c9×B0))
def r4:List (c9×B0)→c9→Option (Nat×B0)
 | [],_=>b8
 | p :: r,x=>if p.1=x then b6 (0,p.2) else c8 (r4 r x) b8 λq=>b6 (q.1+1,q.2)
theorem RU {p:c9×B0} {r:List (c9×B0)} {x:c9}:r4 (p :: r) x=if p.1=x then b6 (0,p.2) else c8 (r4 r x) b8 λq=>b6 (q.1+1,q.2):=rfl
def Um (l:List (c9×B0)) (x:c9):Option Nat:=c8 (r4 l x) b8 λq=>match q.2 with | .cell=>b6 q.1 | _=>b8
def TC.idx (G:TC) (x:c9):Option Nat:=match G.inner with
 | none=>c8 (r4 G.names x) b8 λq=>(match q.2 with
  | .local=>b6 q.1
  | .cell=>b6 q.1
  | _=>b8)
 | some inn=>c8 (inn.lookup x) b8 λk=>match k with
  | .local=>b6 G.names.length
  | .free=>Um G.names x
  | _=>b8
def TC.look (G:TC) (x:c9):Option NameKind:=match G.inner with | none=>G.names.lookup x | some inn=>inn.lookup x
def bv (x:c9):Prop:=(x==("__debug__" :c9))=false∧(x==("__classdict__" :c9))=false∧(x==(".0" :c9))=false
inductive ReadAt (W:Wd) (env:i5) (x:c9) (v:V):Prop
 | loc (es Y y):env.kindOf x=b6 .local→W env.locals=b6 (.fr es Y)→E8 es x=b6 y→VR W v y→ReadAt W env x v
 | own (o es Y y):env.kindOf x=b6 .local→W env.locals=b6 (.own o)→o.data= .dict es Y→StrKeys es→E8 es x=b6 y→VR W v y→ReadAt W env x v
 | cell (c o y):env.kindOf x=b6 .cell∨env.kindOf x=b6 .free→env.cells.lookup x=b6 c→W c=b6 (.own o)→o.data= .cell (b6 y)→VR W v y→ReadAt W env x v
theorem ReadAt.mono {W':Wd} {env:i5} {n:c9} (s:∀p k,W p=b6 k→W' p=b6 k) (r:ReadAt W env n v):ReadAt W' env n v:=by
 cases r with
 | loc es Y y a b c d=>exact .loc es Y y a (s _ _ b) c (d.mono λp k z=>s p k)
 | own o es Y y a b c d e f=>exact .own o es Y y a (s _ _ b) c d e (f.mono λp k z=>s p k)
 | cell c o y a b d e f=>exact .cell c o y a b (s _ _ d) e (f.mono λp k z=>s p k)
theorem ReadAt.load {env:i5} {n:c9} (O:env.scope.kind= .function) (hd:bv n) (r:ReadAt z.W env n v) (p:Post z E (.ok v st) Q):c7 C.M a.A (loadName env n) Q E z.s:=by
 cases r with
 | loc es Y y a b c d=>cases z.inv.at_ _ _ b with | mk o e f g h=>exact wpAny_loadName_local (m:=E8 es) O a ⟨o,es,Y,e,g,h,λi=>rfl⟩ c (p.ok d)
 | own o es Y y a b c d e f=>exact wpAny_loadName_local (m:=E8 es) O a ⟨o,es,Y,z.inv.at_ _ _ b,c,d,λi=>rfl⟩ e (p.ok f)
 | cell c o y a b d e f=>exact a.elim (λa=>wpAny_loadName_cell O a b ⟨o,z.inv.at_ _ _ d,e⟩ (p.ok f)) λa=>wpAny_loadName_free O a b ⟨o,z.inv.at_ _ _ d,e⟩ (p.ok f) hd.2.1
def aE (C:Cx) (f:c5):Prop:=∃k,(k=Keeper.frame∨k=Keeper.machine)∧∀(A:q8) (s:d0) (Q:Keeper→d0→Prop) (E:c5→d0→Prop),(∀b o,C.s₀.heap.get? b=b6 o→s.heap.get? b=b6 o)→Q k s→c7 C.M A (keeperOf f) Q E s
def CI (z:Z a st) (f:c5) (xs:List c5) (r:Res):Prop:=∀Q E,Post z E r Q→aE C f∧c7 C.M a.A (call f xs []) Q E z.s
def P5 (C:Cx) (N d:Nat) (Φ:d7):Prop:=∀{a:Ar C} {st:St} (z:Z a st),a.N=N→a.d=d→0 < N→∀{f args xs},VRs z.W args xs→CI z (.ref f) xs (Φ f args st)
structure Cn (G:TC) (z:Z a st) (env:i5) (ρ:Loc):Prop where
 phi:P5 C a.N a.d a.Φ
 fn:env.scope.kind= .function
 gl:env.globals=N9
 bi:env.builtins=jS
 nm:∀x,G.look x=b6 .globalImplicit→env.kindOf x=b6 .globalImplicit
 inr:G.inner=b8→ρ.length=G.names.length∧∀x j,r4 G.names x=b6 (j,.cell)→env.kindOf x=b6 .cell∧∃c,env.cells.lookup x=b6 c
 rd:∀i x v,bv x→G.idx x=b6 i→ρ[i]?=b6 (b6 v)→ReadAt z.W env x v
theorem Cn.to {st':St} {z':Z a st'} {G:TC} {env:i5} {ρ:Loc} (L:Cn G z env ρ) (u:To z z'):Cn G z' env ρ:={L with rd:=λi x v hd h e=>(L.rd i x v hd h e).mono u.ext}
abbrev Ar.ev (a:Ar C) (c:CE) (ρ:Loc) (st:St):Res:=i4 b7.tabs a.N a.Φ c ρ st
def EOK (G:TC) (c:CE) (e:f6):Prop:=∀{C:Cx} {a:Ar C} {st:St} (z:Z a st) {env:i5} {ρ:Loc},Cn G z env ρ→SE z (eval e env) (a.ev c ρ st)
def Ye (G:TC) (c:CE) (e:f6):Prop:=∀{C:Cx} {a:Ar C} {st:St} (z:Z a st) {env:i5} {ρ:Loc},Cn G z env ρ→BE z (isTrue e env (eval e env)) (a.ev c ρ st)
structure Shape (x:f6):Prop where
 mark:∀o,behindInMarks o x=false
 star:∀env rest,starEach (x :: rest) env=(false,eval x env) :: starEach rest env
 sl:∀o i,subscripted x false o i=operate [o,i] (getItem o i)
structure OK2 (G:TC) (c:CE) (x:f6):Prop where
 e:EOK G c x
 t:Ye G c x
 s:Shape x
theorem EOK.ok {G:TC} {c:CE} {e:f6} (h:EOK G c e) (q:∀env w,isTrue e env w=(do let v ← w;S8 e.pos;C9 [v] (truthy v))) (s:Shape e):OK2 G c e:=⟨h,λz a a L=> .of (h z L) (q _ _),s⟩
section
variable {G:TC} {pos:n5} {k:Nat}
theorem Iq:OK2 G (.cst .none) (.Constant .none k pos):=EOK.ok (λz a a a a a p=>wpAny_Constant_none (Post.ok (v:= .none) p rfl)) (λa a=>rfl) (by constructor <;> intros <;> rfl)
theorem JB {b:Bool}:OK2 G (.cst (.bool b)) (.Constant (.bool b) k pos):=EOK.ok (λz a a a a a p=>wpAny_Constant_bool (Post.ok (v:= .bool b) p rfl)) (λa a=>rfl) (by constructor <;> intros <;> rfl)
theorem LV {i:Int}:OK2 G (.cst (.int i)) (.Constant (.int i) k pos):=EOK.ok (λz a a a a a p=>wpAny_Constant_int (Post.tok (v:= .int i) p _ (.mk _))) (λa a=>rfl) (by constructor <;> intros <;> rfl)
theorem NE {s:c9}:OK2 G (.cst (.str (u8 s))) (.Constant (.str s) k pos):=EOK.ok (λz a a a a a p=>wpAny_Constant_str (Post.tok (v:= .str (u8 s)) p _ (.mk _))) (λa a=>rfl) (by constructor <;> intros <;> rfl)
theorem Lv {i:Nat} {x:c9} (h:G.idx x=b6 i) (hd:bv x):OK2 G (.loc i) (.Name x pos):=EOK.ok (λz env ρ L=> .some λo e=> .some λv e' Q E p=>wpAny_Name ((L.rd i x v hd h (e'▸e)).load L.fn hd p) hd.1) (λa a=>rfl) (by constructor <;> intros <;> rfl)
theorem HB {y:c5}:∀{v},BB v=b6 y→VR W v y:=λ{v}=>V.casesOn v (λe=>e6 e) (λz e=>e6 e) (λz e=>e6 e) (λz e=>e6 e) (λz e=>e6 e) (λz z e=>e6 e) (λz e=>e6 e) (λz z e=>e6 e)
 (λz e=>(k7 e).symm) (λz e=>(k7 e).symm) (λz e=>(k7 e).symm) (λz e=>e6 e)
theorem ee {env:i5} {x:c9} {ρ:Loc} (L:Cn G z env ρ) (O:env.kindOf x=b6 .globalImplicit) (hd:bv x) (hg:U8 G6 x v=true) (m:∀y,BB v=b6 y→Q y z.s):c7 C.M a.A (eval (.Name x pos) env) Q E z.s:=
 C.glob.elim λmg h=>h.elim λmb h=>(h.2.2 x v hg).elim λy b=>
  have n1:z.s.heap.Ns env.globals mg:=L.gl▸h.1.keeps z.inv.keep0;have n2:z.s.heap.Ns env.builtins mb:=L.bi▸h.2.1.keeps z.inv.keep0
  Name_function_global L.fn O (b.2.elim (λe=>loadGlobal_global n1 e (m y b.1)) λe=>loadGlobal_builtin n1 e.1 n2 e.2 (m y b.1)) hd.1
theorem Hu {x:c9} (O:G.look x=b6 .globalImplicit) (hd:bv x) (hg:U8 G6 x v=true):OK2 G (.cst v) (.Name x pos):=EOK.ok (λz a a L a a p=>ee L (L.nm x O) hd hg λy h=>Post.ok (v:=v) p (HB h)) (λa a=>rfl) (by constructor <;> intros <;> rfl)
end
section
variable {G:TC} {pos:n5} {c d f:CE} {l r e:f6} {H:St}
theorem MH (op:BOp) (h:OK2 G c l) (g:OK2 G d r):OK2 G (.bin op c d) (.BinOp l op.py r pos):=EOK.ok (λz a a L a a p=>wpAny_BinOp ((h.e z L).q p λa a z₁ a u e p=>(g.e z₁ (L.to u)).q p λa a a a b e' p=>Du op (b.vr e) e' _ _ p)) (λa a=>rfl) (by constructor <;> intros <;> rfl)
theorem UO (h:VR z.W v x):SE z (unaryOp .USub x) (LL v st):=VR.int (P:=λx r=>SE z (unaryOp .USub x) r) h (λa=> .no) λi t a a p=>P.neg_int (p.tok _ (.mk _))
theorem TD (h:VR z.W v x):SE z (unaryOp .Not x) (NB v st):=VR.bool (P:=λx r=>SE z (unaryOp .Not x) r) h (λa=> .no) λb a a p=>not_value (ml (Post.ok (v:= .bool !b) p rfl))
theorem Pk (h:OK2 G c e):OK2 G (.neg c) (.UnaryOp .USub e pos):=EOK.ok (λz a a L a a p=>wpAny_UnaryOp ((h.e z L).q p λa a a a a e p=>UO e _ _ p)) (λa a=>rfl) (by constructor <;> intros <;> rfl)
theorem OO (h:OK2 G c e):OK2 G (.not c) (.UnaryOp .Not e pos) where
 e z _ _ L _ _ p:=wpAny_UnaryOp ((h.e z L).q p λa a a a a e p=>TD e _ _ p)
 t z _ _ L _ _ p:=wpAny_isTrue_Not ((h.t z L).qB p λb a z₁ u p=>p z₁ (.refl z₁))
 s:=(by constructor <;> intros <;> rfl)
theorem Ox {t:CE} {x y:f6} (h:OK2 G t e) (h1:OK2 G c x) (a:OK2 G d y):OK2 G (.ite t c d) (.IfExp e x y pos) where
 e z _ _ L _ _ p:=wpAny_IfExp ((h.t z L).q p λb f z₁ u=>kq b (λp=>a.e z₁ (L.to u) _ _ p) λp=>h1.e z₁ (L.to u) _ _ p)
 t z env _ L Q E p:=show c7 _ _ (do if ← isTrue e env (eval e env) then isTrue x env (eval x env) else isTrue y env (eval y env)) Q E z.s from d1 ((h.t z L).qB p λb f z₁ u=>kq b (λp=>a.t z₁ (L.to u) _ _ p) λp=>h1.t z₁ (L.to u) _ _ p)
 s:=(by constructor <;> intros <;> rfl)
variable {o:Option Bool} {t:j9 c5} {K:c5→d0→Prop} {g:Bool→Res}
theorem SE.cq:∀{o},SE z t (Y0 st o)→Post z E (c8 o .stuck g) Q→(∀b (z₁:Z a st),To z z₁→Post z₁ E (g b) Q→K (.bool b) z₁.s)→c7 C.M a.A t K E z.s:=λ{o}=>aQ o (λc p c=>p.elim) λb h p k=>h K E λz' x u e=>V4 (motive:=λx=>K x z'.s) (k b z' u (p.to u)) (dS e)
theorem SE.cB {Q}:∀{o},SE z t (Y0 st o)→PostB z E (c8 o .stuck g) Q→(∀b (z₁:Z a st),To z z₁→PostB z₁ E (g b) Q→K (.bool b) z₁.s)→c7 C.M a.A t K E z.s:=λ{o}=>aQ o (λc p c=>p.elim) λb h p k=>h K E λz' x u e=>V4 (motive:=λx=>K x z'.s) (k b z' u (p.to u)) (dS e)
theorem SE.cT {Q}:∀{o},SE z t (Y0 st o)→PostB z E (Y0 st o) Q→c7 C.M a.A t (λc s=>c7 C.M a.A (truthy c) Q E s) E z.s:=λ{o}=>aQ o (λd p=>p.elim) λb h p=>h _ E λz' x u e=>V4 (motive:=λx=>c7 C.M a.A (truthy x) Q E z'.s) (ml (p z' u)) (dS e)
theorem HV (op:COp) (h:OK2 G c l) (g:OK2 G d r):OK2 G (.cmp1 op c d) (.Compare l [op.py] [r] pos) where
 e z _ _ L _ _ p:=wpAny_Compare1 ((h.e z L).q p λa a z₁ a u e p=>(g.e z₁ (L.to u)).q p λa a a a b e' p=>eF op (b.vr e) e' _ _ p) (g.s.mark _)
 t z _ _ L _ _ p:=wpAny_isTrue_Compare1 ((h.e z L).qB p λa a z₁ a u e p=>(g.e z₁ (L.to u)).qB p λa a a a b e' p=>(eF op (b.vr e) e').cT p) (g.s.mark _)
 s:=(by constructor <;> intros <;> rfl)
theorem en {M:K9} {A:q8} {s:d0} {vs keep:List c5} {Q:Unit→d0→Prop} (h:Q () s):c7 M A (release vs keep) Q E s:=λb p a=>by rw [j9.wp_release];exact h
theorem eW {M:K9} {A:q8} {s:d0} {vs:List c5} {m:j9 c5} (h:c7 M A m Q E s):c7 M A (operate vs m) Q E s:=λb p a=>by rw [j9.wp_operate];exact h b p a
theorem kU {M:K9} {A:q8} {s:d0} {vs:List c5} {o:CmpOp} {env:i5} (hm:behindInMarks o r=false) (h:c7 M A (eval r env) Q E s):c7 M A (C9 vs (markedBehindIn o r (eval r env))) Q E s:=v9 ((markedBehindIn_of_false (op:=o) (t:=eval r env) hm).symm▸h)
theorem IA (op o:COp) {m:f6} (h:OK2 G c l) (g:OK2 G d r) (k:OK2 G f m):OK2 G (.cmp2 op o c d f) (.Compare l [op.py,o.py] [r,m] pos) where
 e z env _ L Q E p:=show c7 _ _ (do compareChain pos (← eval l env) [op.py,o.py] (markedEach [op.py,o.py] [r,m] (evalEach [r,m] env))) Q E z.s from d1 ((h.e z L).q p λv j z₁ x u e p=>show c7 _ _ (do
   let a ← C9 [x] (eval r env)
   S8 pos
   let c ← C9 [x,a] (T2 op.py x a)
   release [x,a] [c]
   if ← C9 [c,a] (truthy c) then compareChain pos a [o.py] [markedBehindIn o.py m (eval m env)] else pure c) Q E z₁.s from d1 (v9 ((g.e z₁ (L.to u)).q p λw j z₂ y B e' p=>d1 (M0 (d1 (v9 ((eF op (B.vr e) e').cq p λb z₃ i p=>d1 (en (d1 (v9 (ml (by cases b with
  | false=>exact g9 (Post.ok (v:= .bool false) p rfl)
  | true=>exact show c7 _ _ (do
     let a ← C9 [y] (markedBehindIn o.py m (eval m env))
     S8 pos
     operate [y,a] (T2 o.py y a)) Q E z₃.s from d1 (kU (k.s.mark _) ((k.e z₃ (((L.to u).to B).to i)).q p λj j j j A n p=>d1 (M0 (eW (eF o (A.vr (i.vr e')) n _ _ p)))))))))))))))))
 t z env _ L Q E p:=show c7 _ _ (do testChain pos (← eval l env) [op.py,o.py] (markedEach [op.py,o.py] [r,m] (evalEach [r,m] env))) Q E z.s from d1 ((h.e z L).qB p λv j z₁ x u e p=>show c7 _ _ (do
   let a ← C9 [x] (eval r env)
   S8 pos
   let c ← C9 [x,a] (T2 op.py x a)
   release [x,a] [c]
   if ← C9 [c,a] (truthy c) then testChain pos a [o.py] [markedBehindIn o.py m (eval m env)] else pure false) Q E z₁.s from d1 (v9 ((g.e z₁ (L.to u)).qB p λw j z₂ y B e' p=>d1 (M0 (d1 (v9 ((eF op (B.vr e) e').cB p λb z₃ i p=>d1 (en (d1 (v9 (ml (by cases b with
  | false=>exact g9 (p z₃ (.refl z₃))
  | true=>exact show c7 _ _ (do
     let a ← C9 [y] (markedBehindIn o.py m (eval m env))
     S8 pos
     let c ← operate [y,a] (T2 o.py y a)
     C9 [c] (truthy c)) Q E z₃.s from d1 (kU (k.s.mark _) ((k.e z₃ (((L.to u).to B).to i)).qB p λj j j j A n p=>d1 (M0 (d1 (eW (aT ((eF o (A.vr (i.vr e')) n).cT p) (λj j h=>v9 h) λj j h=>h))))))))))))))))))
 s:=(by constructor <;> intros <;> rfl)
end
section
set_option backward.match.sparseCases true
variable {C:Cx} {a:Ar C} {st:St} {z:Z a st} {W:Wd} {v w:V} {x y:c5} {Q:c5→d0→Prop} {E:c5→d0→Prop} {G:TC} {pos:n5} {c d f g:CE} {cs:CEs} {e l r:f6} {es:List f6}
def SN (n:Nat) (z:Z a st) (t:j9 (List c5)) (r:ResL):Prop:=∀Q E,PostL z E r (λxs s=>xs.length=n→Q xs s)→c7 C.M a.A t Q E z.s
theorem SN.q {n:Nat} {t:j9 (List c5)} {K} {g:List V→St→Res}:∀{r},SN n z t r→Post z E (r.bind g) Q→(∀v H (z₁:Z a H) x,To z z₁→VRs z₁.W v x→x.length=n→Post z₁ E (g v H) Q→K x z₁.s)→c7 C.M a.A t K E z.s:=λ{r}=>
 ResL.casesOn r (λv st' h p k=>h K E λz' x u e f=>k v st' z' x u e f (p.to u)) (λb b h p b=>h K E p) λb p b=>p.elim
abbrev Ar.evs (a:Ar C) (c:CEs) (ρ:Loc) (st:St):ResL:=evalEs b7.tabs a.N a.Φ c ρ st
structure OKs (G:TC) (cs:CEs) (es:List f6):Prop where
 e:∀{C:Cx} {a:Ar C} {st:St} (z:Z a st) {env:i5} {ρ:Loc} (pos:n5),Cn G z env ρ→SN es.length z (spliced (backTo pos (starEach es env))) (a.evs cs ρ st)
 plain:∀env pos,(backTo pos (starEach es env)).all (λx=> !x.1)=true
 len:∀env,(starEach es env).length=es.length
theorem PostL.cons {n:Nat} {Q:List c5→d0→Prop} (h:VR z.W v x):∀{R},PostL z E (ResL.cons v R) (λxs s=>xs.length=n+1→Q xs s)→PostL z E R (λxs s=>xs.length=n→Q (x :: xs) s):=λ{R}=>
 ResL.casesOn R (λvs st' p z' xs u e f=>p z' (x :: xs) u (.mk x xs (u.vr h) e) (cG jM f)) (λa a p=>p) id
theorem IH:OKs G .nil []:=⟨λz a a a a a a p=>wpAny_items_nil (p z [] (.refl z) rfl rfl),λa a=>rfl,λa=>rfl⟩
theorem BN (h:OK2 G c e) (j:OKs G cs es):OKs G (.cons c cs) (e :: es) where
 e z _ _ pos L _ E p:=wpAny_items_cons ((h.e z L).qL p λa a z₁ a u e p=>j.e z₁ pos (L.to u) _ E (p.cons e)) (h.s.star _ _)
 plain env pos:=h.s.star env es▸j.plain env pos
 len env:=(cG oB (h.s.star env es)).trans (cG jM (j.len env))
theorem vY {n:Nat} (h:n≤1000):n≤sizeLine:=d3 h (by rw [bG];decide)
theorem Ir (h:OKs G cs es) (hz:es.length≤1000):OK2 G (.list cs) (.List es pos):=EOK.ok (λz a a L a a p=>wpAny_List ((h.e z pos L).q p λa a a xs a e f p=>⟨vY (f▸hz),p.newList (xs:=xs.toArray) e _⟩)) (λa a=>rfl) (by constructor <;> intros <;> rfl)
theorem LB {k:Nat} (h:OKs G cs es) (hz:es.length≤1000):OK2 G (.tup cs) (.Tuple es k pos):=EOK.ok (λz a a L a a p=>wpAny_Tuple ((h.e z pos L).q p λa a a xs a e f p=>⟨vY (f▸hz),p.newTup (xs:=xs.toArray) e _⟩)) (λa a=>rfl) (by constructor <;> intros <;> rfl)
def rl (S:Bool):PySem.BoolOp:=kq S .Or .And
abbrev Ar.evb (a:Ar C) (b:Bool) (c:CEs) (ρ:Loc) (st:St):Res:=evalB b7.tabs a.N a.Φ b c ρ st
structure OKb (G:TC) (b:Bool) (cs:CEs) (es:List f6):Prop where
 e:∀{C:Cx} {a:Ar C} {st:St} (z:Z a st) {env:i5} {ρ:Loc} (pos:n5),Cn G z env ρ→SE z (boolOp pos (rl b) (evalEach es env)) (a.evb b cs ρ st)
 t:∀{C:Cx} {a:Ar C} {st:St} (z:Z a st) {env:i5} {ρ:Loc},Cn G z env ρ→BE z (allTrue (rl b) es env) (a.evb b cs ρ st)
theorem BE.k {t:j9 Bool} {Q:Bool→d0→Prop} {K:Bool→d0→Prop}:∀{r},BE z t r→PostB z E r Q→(∀b s,Q b s→K b s)→c7 C.M a.A t K E z.s:=λh p k=>aT (h _ _ p) (λb s=>k b s) λc c h=>h
theorem Ib (b:Bool) (h:OK2 G c e):OKb G b (.cons c .nil) [e] where
 e z _ _ _ L:=h.e z L
 t z _ _ L _ _ p:=kq b (wpAny_allTrue_Or_cons ((h.t z L).k p λb s=>kq b (λq=>wpAny_allTrue_Or_nil q) λq=>q)) (wpAny_allTrue_And_cons ((h.t z L).k p λb s=>kq b (λq=>q) λq=>wpAny_allTrue_And_nil q))
theorem EY {e':f6} (b:Bool) (h:OK2 G c e) (j:OKb G b (.cons d cs) (e' :: es)):OKb G b (.cons c (.cons d cs)) (e :: e' :: es) where
 e z env _ pos L Q E p:=show c7 _ _ (do
   let v ← eval e env
   S8 pos
   let t ← C9 [v] (truthy v)
   match rl b,t with
   | .And,false | .Or,true=>pure v
   | _,_=>boolOp pos (rl b) (evalEach (e' :: es) env)) Q E z.s from d1 ((h.e z L).q p λv a z₁ x u e p=>d1 (M0 (d1 (v9 (VR.bool (s:=Res.stuck) (P:=λx r=>Post z₁ E r Q→c7 _ _ (truthy x) (λt s=>c7 _ _ (match rl b,t with
   | .And,false | .Or,true=>pure x
   | _,_=>boolOp pos (rl b) (evalEach (e' :: es) env)) Q E s) E z₁.s) e (λa p=>False.elim p) (λq p=>ml (by
    have j:=j.e z₁ pos (L.to u)
    cases b <;> cases q
    ·exact j Q E p
    ·exact g9 (Post.ok (v:= .bool true) p rfl)
    ·exact g9 (Post.ok (v:= .bool false) p rfl)
    ·exact j Q E p)) p)))))
 t z env _ L Q E p:=by
  cases b with
  | false=>exact wpAny_allTrue_Or_cons ((h.t z L).qB p λq a z₁ u=>kq q (λp=>j.t z₁ (L.to u) Q E p) λp=>p z₁ (.refl z₁))
  | true=>exact wpAny_allTrue_And_cons ((h.t z L).qB p λq a z₁ u=>kq q (λp=>p z₁ (.refl z₁)) λp=>j.t z₁ (L.to u) Q E p)
theorem NM (b:Bool) (h:OKb G b cs es):OK2 G (.bop b cs) (.BoolOp (rl b) es pos):=⟨λz a a L=>h.e z pos L,λz a a L Q E p=>wpAny_isTrue_BoolOp (h.t z L Q E p),(by constructor <;> intros <;> rfl)⟩
theorem OS (h:OK2 G c l) (h':OK2 G d r):OK2 G (.sub c d) (.Subscript l r pos):=EOK.ok (λz a a L a a p=>Subscript_ ((h.e z L).q p λa a z₁ a u e p=>(h'.e z₁ (L.to u)).q p λa a a a b e' p=>(jr (b.vr e) e').tail (h'.s.sl _ _) _ _ p)) (λa a=>rfl) (by constructor <;> intros <;> rfl)
def yv (G:TC) (c:CE) (o:Option f6):Prop:=∀{C:Cx} {a:Ar C} {st:St} (z:Z a st) {env:i5} {ρ:Loc},Cn G z env ρ→SE z (evalPart o env) (a.ev c ρ st)
theorem Dg (h:OK2 G c e):yv G c (b6 e):=λz a a L=>h.e z L
theorem Ao:yv G (.cst .none) none:=λz a a a a a p=>FN (Post.ok (v:= .none) p rfl)
theorem EO {lo hi y:Option f6} (h:OK2 G c e) (h1:yv G d lo) (m:yv G f hi) (o:yv G g y) {p':n5}:OK2 G (.slice c d f g) (.Subscript e (.Slice lo hi y p') pos):=
 EOK.ok (λz a a L a a p=>Subscript_ ((h.e z L).q p λa a z₁ x b j p=>wpAny_Slice ((h1 z₁ (L.to b)).q p λa a z₂ a u k p=>(m z₂ ((L.to b).to u)).q p λa a z₃ a i l p=>(o z₃ (((L.to b).to u).to i)).q p λa a z₄ a A n p=>
  aQ y ((kz (A.vr (i.vr (u.vr j))) (A.vr (i.vr k)) (A.vr l) n).tail (ops:= [.ref z₄.h.objs.size,x]) (by with_unfolding_all rfl) _ _ (p.to .kept)) λy=>(kz (A.vr (i.vr (u.vr j))) (A.vr (i.vr k)) (A.vr l) n).tail (ops:= [x,.ref z₄.h.objs.size]) (by with_unfolding_all rfl) _ _ (p.to .kept)))) (λa a=>rfl) (by constructor <;> intros <;> rfl)
end
def Oo (c:Nat):Bool:= !NumText.blank c&&c != 45&&c != 43&&c != 120&&c != 88&&c != 95&&c != 0&&decide (c < 128)
def Sf (c:Nat):Bool:=match E2 c with | none=>true | some d=>NumText.digit? c==b6 d&&Oo c
theorem NK:∀c,c < 128→Sf c=true:=by decide
theorem OA {c d:Nat} (h:E2 c=b6 d):NumText.digit? c=b6 d∧Oo c=true:=by
 by_cases a:c < 128
 ·have:=NK c a;unfold Sf at this;rw [h] at this;exact ⟨beq_iff_eq.mp (q7.mp this).1,(q7.mp this).2⟩
 ·have e:E2 c=none:=(iN λq=>a (J7 q.2 (by decide))).trans ((iN λq=>a (J7 q.2 (by decide))).trans (iN λq=>a (J7 q.2 (by decide))));exact nomatch e.symm.trans h
structure Good (c:Nat):Prop where
 blank:NumText.blank c=false
 n45:c≠45
 n43:c≠43
 n120:c≠120
 n88:c≠88
 n95:c≠95
 n0:c≠0
 asc:c < 128
theorem ww {c:Nat} (h:Oo c=true):Good c:=by
 have h:=q7.mp h;have f:=q7.mp h.1;have e:=q7.mp f.1;have d:=q7.mp e.1;have b:=q7.mp d.1;have o:=q7.mp b.1;have a:=q7.mp o.1;exact ⟨(FT _).mp a.1,bne_iff_ne.mp a.2,bne_iff_ne.mp o.2,bne_iff_ne.mp b.2,bne_iff_ne.mp d.2,bne_iff_ne.mp e.2,bne_iff_ne.mp f.2,of_decide_eq_true h.2⟩
abbrev Cj (b:Nat) (ds:Array Nat):Nat:=ds.foldl (λacc d=>acc*b+d) 0
theorem Lx {b:Nat} (s:List Nat):∀(acc n:Nat) (p:Array Nat×Bool),j7 b acc s=b6 n→Cj b p.1=acc→(s= []→p.2=true)→
  (∀c∈s,Good c)∧∃ds,s.foldlM (NumText.step b) p=b6 (ds,true)∧Cj b ds=n∧ds.size=p.1.size+s.length:=
 A3 (motive:=λs=>∀(acc n:Nat) (p:Array Nat×Bool),j7 b acc s=b6 n→Cj b p.1=acc→(s= []→p.2=true)→(∀c∈s,Good c)∧∃ds,s.foldlM (NumText.step b) p=b6 (ds,true)∧Cj b ds=n∧ds.size=p.1.size+s.length)
  (λacc n p h hp f=>⟨λz h=>(nomatch h),p.1,cG (λq=>b6 (p.1,q)) (f rfl),hp.trans (k7 h),rfl⟩)
  (λc r ih acc n p h hp z=>by
   have h:(match E2 c with | some d=>if d < b then j7 b (acc*b+d) r else b8 | none=>b8)=b6 n:=h;cases hd:E2 c with
   | none=>rw [hd] at h;cases h
   | some d=>
    rw [hd] at h;have h:(if d < b then j7 b (acc*b+d) r else b8)=b6 n:=h;by_cases a:d < b
    ·rw [iP a] at h;have g:=OA hd;have k:=ih _ n (p.1.push d,true) h ((Array.foldl_push ..).trans (hp▸rfl)) λz=>rfl;refine ⟨uY.mpr ⟨ww g.2,k.1⟩,k.2.elim λds q=>⟨ds,?_,q.2.1,q.2.2.trans ((cG (·+r.length) (JE ..)).trans (Ai ..))⟩⟩;have hs:NumText.step b p c=b6 (p.1.push d,true):=by
      delta NumText.step;rw [iN λe=>(ww g.2).n95 (beq_iff_eq.mp e),g.1];exact iP a
     rw [List.foldlM_cons,hs];exact q.1
    ·rw [iN a] at h;cases h) s
theorem G1 {p:Nat→Bool} {s:List Nat} (h:∀c∈s,p c=false):s.dropWhile p=s:=
 H7 (motive:=λs=>(∀c∈s,p c=false)→s.dropWhile p=s) s (λz=>rfl) (λc r h=>by rw [QN,h c D6];rfl) h
theorem kh {p:Nat→Bool} {s:List Nat} (h:∀c∈s,p c=true):s.takeWhile p=s:=
 A3 (motive:=λs=>(∀c∈s,p c=true)→s.takeWhile p=s) (λz=>rfl) (λc r ih h=>by rw [Ae,h c D6];exact cG (c :: ·) (ih λx hx=>h x (F1 _ hx))) s h
theorem Er {b:Nat} {ds:Array Nat} (h:ds.size≤600):NumText.judge 0 false b false (b6 ds)=(int_private% "Numeral.value") (Cj b ds:Int):=by
 delta NumText.judge;dsimp only;rw [iN (λe=>absurd (q7.mp (q7.mp e).1).2 (by decide)),iN λe=>absurd (of_decide_eq_true (q7.mp e).2) (ae.mpr (d3 h (by decide))),iN (by rw [Bool.false_and];decide),iN (by decide)]
theorem mL {s:List Nat} (h:∀c∈s,Good c):NumText.sign s=(false,s):=by
 cases s with
 | nil=>rfl
 | cons c r=>exact NumText.sign_of (h c D6).n45 (h c D6).n43
theorem DT {α:Type} {p:Prop} [Decidable p] {x y z:α} (h:x≠z) (h':y≠z):(if p then x else y)≠z:=by
 by_cases c:p
 ·rw [iP c];exact h
 ·rw [iN c];exact h'
theorem NY {s:List Nat} (h:∀c∈s,Good c):mh s≠b6 16:=by
 cases s with
 | nil=>exact λe=>e6 e
 | cons a r=>
  by_cases b:a=48
  ·subst b;cases r with
   | nil=>exact λe=>e6 e
   | cons c r=>
    have g:=h c (F1 _ D6);exact λe=>DT (by decide) (DT (by decide) (by decide)) ((iN (λe=>(QQ.mp e).elim (λe=>g.n120 (beq_iff_eq.mp e)) λe=>g.n88 (beq_iff_eq.mp e))).symm.trans e)
  ·have q:mh (a :: r)=none:=by
    delta mh mh.match_1 mh._sparseCasesOn_1;exact dif_neg b
   exact λe=>e6 (q.symm.trans e)
theorem Al {b:Nat} {s:List Nat} (a:b=10∨b=16) (h:∀c∈s,Good c):NumText.based b s=(b,false,s):=by
 rcases a with rfl | rfl
 ·exact NumText.based_ten s
 ·have k:=NY h;delta NumText.based;generalize mh s=o at k⊢;cases o with
  | none=>rfl
  | some p=>exact iN (λe=>k (cG b6 (beq_iff_eq.mp e).symm))
theorem sT {b n:Nat} {s:List Nat} (j:b=10∨b=16) (d:s≠ []) (l:s.length≤600) (h:j7 b 0 s=b6 n):(int_private% "readNumeral") 0 b s=(int_private% "Numeral.value") (n:Int):=by
 have k:=Lx s 0 n (#[],false) h rfl λe=>absurd e d;have f:s.dropWhile NumText.blank=s:=G1 λc a=>(k.1 c a).blank;have g:(s.reverse.dropWhile NumText.blank).reverse=s:=by rw [G1 λc a=>(k.1 c (List.mem_reverse.mp a)).blank,QG]
 refine (NumText.readNumeral_eq 0 b s).trans ?_;rw [f,mL k.1];dsimp only;rw [Al j k.1];dsimp only;rw [g];exact k.2.elim λds q=>by
  have i:NumText.digits? b s=b6 ds:=cG (λo=>QH o λp:Array Nat×Bool=>if p.2 then b6 p.1 else b8) q.1;rw [i,Er (q.2.2▸(gC s.length).symm▸l),q.2.1]
theorem wK {b n:Nat} {s:List Nat} (h:j7 b 0 s=b6 n):numTextOf (c6 s)=s∧numSeenOf (c6 s)=s:=by
 have k:=(Lx s 0 n (#[],true) h rfl λz=>rfl).1;have f:numTextOf (c6 s)=s:=by
  delta numTextOf;exact iP (List.all_toArray.trans (aO.mpr λc a=>decide_eq_true (k c a).asc))
 refine ⟨f,?_⟩;delta numSeenOf;rw [f];exact kh λc a=>bne_iff_ne.mpr (k c a).n0
theorem tD {n:Nat} {s:List Nat} (d:s≠ []) (f:s.length≤600) (h:j7 10 0 s=b6 n):PySem.intText? (c6 s)=b6 (n:Int):=by
 have k:=Lx s 0 n (#[],false) h rfl λe=>absurd e d;have t:=wK h;have e:NumText.core s=s:=by
  delta NumText.core;rw [G1 λc a=>(k.1 c a).blank,mL k.1,G1 λc a=>(k.1 c (List.mem_reverse.mp a)).blank,QG]
 delta PySem.intText?;rw [iP (by rw [t.1,t.2];exact beq_self_eq_true _),t.2,e,G1 λc a=>(k.1 c a).blank,mL k.1];exact k.2.elim λds q=>by
  have i:NumText.digits? 10 s=b6 ds:=cG (λo=>QH o λp:Array Nat×Bool=>if p.2 then b6 p.1 else b8) q.1;rw [i];exact (iP (d3 (q.2.2▸(gC s.length).symm▸f) (by decide))).trans (cG b6 (cG JI q.2.1))
set_option maxHeartbeats 4000000 in
theorem iK {b n:Nat} {s:List Nat} (j:b=10∨b=16) (e:s≠ []) (f:s.length≤600) (h:j7 b 0 s=b6 n) {u t:Tok} :
  Gives (Builtin.«int.__new__» ⟨[.type "int",.str (c6 s) u,.int b t],[]⟩) (.int n):=
 .of_wp λM A E q Q o=>by
  obtain ⟨hp,g,d,w,os⟩:=q;have r:=F.conv_sub_int;have v:=F.madeHere_int;have k:=sT j e f h;obtain ⟨l,m⟩:=wK h;have a:(numTextOf (c6 s)).takeWhile (· != 0)=s:=m;have hs:((numTextOf (c6 s)).takeWhile (· != 0)).length≤640:=a.symm▸d3 f (by decide);have p:(int_private% "readNumeral") 0 (b:Int).toNat ((numTextOf (c6 s)).takeWhile (· != 0))=(int_private% "Numeral.value") (n:Int):=a.symm▸k;have i:(((numTextOf (c6 s)).takeWhile (· != 0)).length==(numTextOf (c6 s)).length)=true:=by rw [a,l];exact beq_self_eq_true _
  clear k l m a h f
  have c:(((b:Int) != 0&&decide ((b:Int) < 2))||decide ((b:Int) > 36))=false:=by rcases j with rfl | rfl <;> rfl
  repeat (any_goals (first
   | assumption
   | (with_reducible refine wpAny_ite_true (decide_eq_true hs) ?_)
   | (with_reducible refine wpAny_ite_false (decide_eq_false (by rw [c];exact O0)) ?_)
   | wp_step))
  all_goals rw [p]
  all_goals dsimp only
  all_goals first | refine d1 (wpAny_ite_true (decide_eq_true i) ?_) | refine wpAny_ite_true (decide_eq_true i) ?_
  repeat (any_goals (first | assumption | wp_step))
  all_goals exact ⟨_,rfl,o⟩
theorem wn (n:Nat):(Nat.repr n).toList=Nat.toDigits 10 n:=by rw [Nat.repr];exact String.toList_ofList
theorem Bm:∀{i:Int},i < 0→(-i).toNat=i.natAbs:=λ{i}=>JN i (λn h=>absurd h (kr.mpr (V3 n))) λz z=>rfl
theorem Bl:∀{i:Int},¬i < 0→i.toNat=i.natAbs:=λ{i}=>JN i (λz z=>rfl) λn h=>absurd (Int.negSucc_lt_zero n) h
theorem kB (i:Int):dM (toString i)=c6 (p6 i):=by
 rw [c9.ofString_eq_toList,Int.toString_eq_repr,Int.repr_eq_if];delta p6 iw c6;by_cases h:i < 0
 ·rw [iP h,iN (Int.not_le.mpr h),String.toList_append,wn,Bm h];rfl
 ·rw [iN h,iP (kr.mp h),wn,Bl h]
theorem ky {i:Int} (h:i.natAbs < intLim):i.natAbs.log2 < 1920:=by
 by_cases a:i.natAbs=0
 ·rw [a];decide
 ·exact (Nat.log2_lt a).mpr (Ga h (Nat.pow_lt_pow_right (by decide) (by decide)))
section
variable {γ:Type} {P:List c5→γ→Prop} {s:γ} {xs:List c5}
theorem VRs.on1 {f:V→γ}:∀{l},VRs W l xs→(∀xs,P xs s)→(∀v x,VR W v x→P [x] (f v))→P xs (N5 l s f):=λ{l}=>
 H7 l (λz h z=>h xs) λv r=>H7 r (λe z k=>by cases e with | mk x xs e e'=>exact V4 (motive:=λxs=>P (x :: xs) (f v)) (k v x e) (dS (e':xs= []))) λz z z h z=>h xs
theorem VRs.on2 {f:V→V→γ}:∀{l},VRs W l xs→(∀xs,P xs s)→(∀v w x y,VR W v x→VR W w y→P [x,y] (f v w))→P xs (tt l s f):=λ{l}=>
 H7 l (λz h z=>h xs) λv r=>H7 r (λz h z=>h xs) λw r=>H7 r (λe z k=>by cases e with | mk x xs e e'=>cases e' with | mk y xs e' a=>exact V4 (motive:=λxs=>P (x :: y :: xs) (f v w)) (k v w x y e e') (dS (a:xs= []))) λz z z h z=>h xs
theorem VRs.on3 {f:V→V→V→γ}:∀{l},VRs W l xs→(∀xs,P xs s)→(∀u v w o x y,VR W u o→VR W v x→VR W w y→P [o,x,y] (f u v w))→P xs (IY l s f):=λ{l}=>
 H7 l (λz h z=>h xs) λu r=>H7 r (λz h z=>h xs) λv r=>H7 r (λz h z=>h xs) λw r=>H7 r (λe z k=>by cases e with | mk o xs e e'=>cases e' with | mk x xs e' a=>cases a with | mk y xs a b=>exact V4 (motive:=λxs=>P (o :: x :: y :: xs) (f u v w)) (k u v w o x y e e' a) (dS (b:xs= []))) λz z z h z=>h xs
theorem VRs.on12 {f:V→γ} {g:V→V→γ}:∀{l},VRs W l xs→(∀xs,P xs s)→(∀v x,VR W v x→P [x] (f v))→(∀v w x y,VR W v x→VR W w y→P [x,y] (g v w))→P xs (yP l s f g):=λ{l}=>
 H7 l (λz h z z=>h xs) λv r=>H7 r (λe z k z=>by cases e with | mk x xs e e'=>exact V4 (motive:=λxs=>P (x :: xs) (f v)) (k v x e) (dS (e':xs= []))) λw r=>
  H7 r (λe z z k=>by cases e with | mk x xs e e'=>cases e' with | mk y xs e' a=>exact V4 (motive:=λxs=>P (x :: y :: xs) (g v w)) (k v w x y e e') (dS (a:xs= []))) λz z z h z z=>h xs
theorem VRs.on0 {f:γ}:∀{l},VRs W l xs→(∀xs,P xs s)→P [] f→P xs (yT l s f):=λ{l}=>H7 l (λe z k=>V4 (motive:=λxs=>P xs f) k (dS e)) λz z z h z=>h xs
end
theorem nX {t:List c5→j9 c5} {f:List V→Res} {args:List V} {xs:List c5} (r:VRs z.W args xs) (k:∀p l ys m,z.h.get? p=b6 (listOf ys m)→VRs z.W l ys.toList→SE z (t [.ref p]) (f l)):SE z (t xs) (iU st args f):=
 VRs.on1 (P:=λxs r=>SE z (t xs) r) r (λa=> .no) λv x e=>VR.ref (P:=λx r=>SE z (t [x]) r) e (λa=> .no) λn p hp=>z.list hp .no λl ys m a b r=>k p l ys m b r
theorem Post.keep {h':j5} (p:Post z E (.ok v st) Q) (O:∀b o,z.s.heap.get? b=b6 o→h'.get? b=b6 o) (t:Nat) (e:VR z.W v x):Q x {z.s with heap:=h',toks:=t}:=p (z.keep h' t O) x .kept e
theorem NO {n:Nat} (h:n≤sizeLim):(n:Int) < 2 ^ 63:=P1.mpr (J7 h (by decide:sizeLim < 2 ^ 63))
theorem Nu {args:List V} {xs:List c5} (r:VRs z.W args xs):SE z (call (.builtin "len") xs []) (A1 .len args st):=
 VRs.on1 (P:=λxs r=>SE z (call (.builtin "len") xs []) r) r (λb=> .no) λv x e=>VR.seq (P:=λx r=>SE z (call (.builtin "len") [x] []) r) e (λb=> .no)
  (λs t=> .ite λhz Q E p=>P.len_str (by rw [j8];exact Int.not_le.mpr (NO hz)) (by rw [j8];exact p.tok _ (.mk _)))
  (λl e=> .ite λhz Q E p=>by
   cases e with | mk q o n ys a h hd r=>
   have f:ys.size=l.length:=r.length;exact call_function_entry kind_len plain_len entry_len (args_len1 _) (len_entry_tuple (BL (z.I _ _ a) h hd) (f▸NO hz) (f▸p.tok _ (.mk _))))
  (λn q c=>z.list c .no λl ys m b a r=> .ite λhz Q E p=>by
   have f:ys.size=l.length:=r.length;exact call_len_list ⟨_,a,rfl,m,rfl⟩ (f▸NO hz) (f▸p.tok _ (.mk _)))
theorem Post.newImm {q:d4} {o:f7} (p:Post z E (.ok v st) Q) (a:o.isFreed=false) (t:Nat) (e:VR (up z.W z.h.objs.size (.imm o)) v x):Q x {z.s with heap:=z.h.push o,toks:=t}:=
 p (z.imm z.h.objs.size (.imm o) (λb e=>nomatch e) _ t z.fresh X5 λb=>aS _ a) x .immd e
theorem AN {args:List V} {xs:List c5} (r:VRs z.W args xs):SE z (call (.type "range") xs []) (A1 .range args st):=
 VRs.on12 (P:=λxs r=>SE z (call (.type "range") xs []) r) r (λa=> .no) (λv x e=>VR.int (P:=λx r=>SE z (call (.type "range") [x] []) r) e (λa=> .no) λn t=> .ite λa Q E p=>call_range_1 (p.newImm (q:=0) rfl _ (.mk _ _ _ _ j6)))
  λv w x y e e'=>VR.int (P:=λx r=>SE z (call (.type "range") [x,y] []) r) e (λa=> .no) λn t=>VR.int (P:=λy r=>SE z (call (.type "range") [_,y] []) r) e' (λa=> .no) λm u=> .ite λa Q E p=>call_range_2 (p.newImm (q:=0) rfl _ (.mk _ _ _ _ j6))
theorem OT {args:List V} {xs:List c5} (r:VRs z.W args xs):SE z (call (.type "str") xs []) (A1 .str args st):=
 VRs.on1 (P:=λxs r=>SE z (call (.type "str") xs []) r) r (λa=> .no) λv x=>V.casesOn v (λa=> .no) (λa a=> .no) (λi e=>by cases e with | mk t=>exact .ite λhz Q E p=>P.str_of_int (ky hz) (kB i▸p.tok _ (.mk _)))
  (λs e=>λQ E p=>by cases e with | mk t=>exact PySem.P.str_of_str (p.ok (.mk t))) (λa a=> .no) (λa a a=> .no) (λa a=> .no) (λa a a=> .no) (λa a=> .no) (λa a=> .no) (λa a=> .no) (λa a=> .no)
theorem eB (a b:c5):checkTypeCall "int" ⟨[a,b],[]⟩=pure ():=by kernel_rfl
theorem gp (a b:c5):rR "int.__new__" ⟨[.type "int",a,b],[]⟩=pure ():=by kernel_rfl
theorem DA {b:Nat} {s:List Nat} {t:j9 c5} (h:∀n,s≠ []→s.length≤600→j7 b 0 s=b6 n→∀Q E,Q (.int n z.s.toks) {z.s with toks:=z.s.toks+1}→c7 C.M a.A t Q E z.s):SE z t (jY b s st):=
 .ite λhz=> .some λn e Q E p=>h n hz.2 hz.1 e Q E (p.tok _ (.mk _))
theorem wg {b:Nat} {s:List Nat} {t u:Tok} (a:b=10∨b=16):SE z (call (.type "int") [.str (c6 s) t,.int (b:Int) u] []) (jY b s st):=DA λn h1 c h Q E q=>
 callType_new F.called_int F.newNe_int (eB _ _) (gp _ _) (λo=>F.initArgs_range_2 o _ _) F.entry_int_new (iK a h1 c h).meets (show (Made.int (n:Int)).post _ z.s from ⟨rfl,q⟩)
theorem Pa {args:List V} {xs:List c5} (r:VRs z.W args xs):SE z (call (.type "int") xs []) (A1 .int args st):=
 VRs.on12 (P:=λxs r=>SE z (call (.type "int") xs []) r) r (λa=> .no) (λv x e=>VR.str (P:=λx r=>SE z (call (.type "int") [x] []) r) e (λa=> .no) λs t=>DA λn h1 c o Q E q=>KIN.call_text (tD h1 c o) (j8 s▸d3 c (by decide)) q)
  λv w x y e e'=>VR.str (P:=λx r=>SE z (call (.type "int") [x,y] []) r) e (λa=> .no) λs t=>VR.int (P:=λy r=>SE z (call (.type "int") [_,y] []) r) e' (λa=> .no) λb u=>by
   by_cases h:b=10
   ·rw [iP h,h];exact wg (.inl rfl)
   ·rw [iN h];exact .ite λh=>h▸wg (.inr rfl)
theorem Ov (c:a.A.handled=b8) {args:List V} {xs:List c5} (r:VRs z.W args xs):SE z (call (.builtin "min") xs []) (A1 .min args st):=
 VRs.on2 (P:=λxs r=>SE z (call (.builtin "min") xs []) r) r (λb=> .no) λv w x y e e'=>VR.int (P:=λx r=>SE z (call (.builtin "min") [x,y] []) r) e (λb=> .no) λi t=>VR.int (P:=λy r=>SE z (call (.builtin "min") [_,y] []) r) e' (λb=> .no) λj u Q E p=>
  min_two_ints c λh' d O=>p.keep O d (if h:j < i then (iP h).symm▸(iP h).symm▸ .mk u else (iN h).symm▸(iN h).symm▸ .mk t)
theorem Az {args:List V} {xs:List c5} (r:VRs z.W args xs):SE z (call (.type "tuple") xs []) (A1 .tuple args st):=nX (t:=λxs=>call (.type "tuple") xs []) r λp l ys m a r=> .ite λhz Q E q=>
 call_tuple_list ⟨_,a,rfl,m,rfl⟩ (λh' O=>Post.newTup (z:=z.keep h' z.t O) (q.to .kept) r _) (sz (d3 (w2 r.length) hz))
theorem IM {args:List V} {xs:List c5} (r:VRs z.W args xs):SE z (call (.type "list") xs []) (A1 .list args st):=nX (t:=λxs=>call (.type "list") xs []) r λp l ys m a r=> .ite λhz Q E q=>
 call_list_seq (hsz:=sz (d3 (w2 r.length) hz)) p (.inl rfl) a rfl rfl λh' c O hD=>q (z.alloc z.h.objs.size (.list l) h' z.t (i0 _) (λb o d=>O b o) (.mk ys c hD (r.mono (aI z.fresh)))) _ .alloced (.mk _ j6)
inductive RNums (xs:List c5) (is:List Int):Prop
 | mk (ps:List (Int×Tok)):xs=ps.map (λp=>c5.int p.1 p.2)→ps.map (·.1)=is→RNums xs is
theorem Fb:∀{l:List V} {xs:List c5} {is:List Int},VRs W l xs→ints? l=b6 is→RNums xs is:=λ{l}=>
 A3 (motive:=λl=>∀{xs:List c5} {is:List Int},VRs W l xs→ints? l=b6 is→RNums xs is) (λ{xs is} r e=> .mk [] r (cG (Option.getD · []) e))
  (λv l ih {xs is} r=>by cases r with | mk x xs c b=>exact VR.int (P:=λx r=>r=b6 is→RNums (x :: xs) is) c (λz e=>e6 e) λi t e=>(ch.mp e).elim λjs h=>by cases ih b h.1 with | mk ps f a=>exact .mk ((i,t) :: ps) (cG (_ :: ·) f) (h.2▸cG (i :: ·) a)) l
theorem Cm {ps:List (Int×Tok)} {ys:Array c5} {is:List Int} (e:ys.toList=ps.map (λp=>c5.int p.1 p.2)) (i:ps.map (·.1)=is):ys=intItems ps.toArray∧preSum (numAt ps.toArray) (intItems ps.toArray).size=is.sum:=
 ⟨QL.mp (e.trans (Array.toList_map (f:=λp:Int×Tok=>c5.int p.1 p.2) (xs:=ps.toArray)).symm),(preSum_eq _ _).trans (cG List.sum ((QI (w2 ((u7 (as:=ps) (·.1)).trans (Array.size_map (f:=λp:Int×Tok=>c5.int p.1 p.2) (xs:=ps.toArray)).symm))).trans i))⟩
theorem PC (d:a.A.handled=b8) {args:List V} {xs:List c5} (r:VRs z.W args xs):SE z (call (.builtin "sum") xs []) (A1 .sum args st):=nX (t:=λxs=>call (.builtin "sum") xs []) r λp l ys m g r=> .some λis hi=> .ite λhz Q E q=>by
 cases Fb r hi with
 | mk ps f i=>
  have h:=Cm f i;refine call_sum_walkG (iter_intList (s:=z.s) (l:=p) (xs:=ps.toArray) ⟨_,g,rfl,m,cG (Data.seq · m) h.1⟩ λs₂ e St b c=>?_);subst e;exact ⟨_,_,_,_,_,_,numAt ps.toArray,rfl,Walks.list (A:=a.A.in1) d _ p c (intItems ps.toArray),St,b,λk k=>intItems_at,λh' w j O=>h.2.symm▸q.keep (old_kept O) w (.mk j)⟩
section
variable {A:q8}
def Z.re (z:Z a st) (I:d4) (k:Option f7) (h':j5) (g:Nat) {o:f7} (d:z.W I=b6 (.own o)) (hg:∀p o,p≠I→z.h.get? p=b6 o→h'.get? p=b6 o) (O:∀o,k=b6 o→h'.get? I=b6 o):Z a st where
 W:=λp=>if p=I then k.map .own else z.W p
 h:=h'
 t:=g
 inv:=z.inv.move I (λc hp=>iN hp) hg (λc s e=>False.elim (V4 (motive:=Kn.sh) s (k7 (d.symm.trans e)).symm)) (i0 _) (λc c c c e=>e)
  (λk' e=>(ch.mp ((iP rfl).symm.trans e)).elim λo h=>h.2▸O o h.1) (λn e=>(ch.mp ((iP rfl).symm.trans e)).elim λo h=>nomatch h.2) λn h1 f=>absurd f (ae.mpr h1)
 fr e he:=by cases z.fr e he with | mk L es Y a b=>exact .mk L es Y a ((iN λh=>nomatch (h▸b).symm.trans d).trans b)
structure Nx (z z':Z a st) (I:d4):Prop where
 ext:∀p k,p≠I→z.W p=b6 k→z'.W p=b6 k
 sub:Sub z.W z'.W
theorem Nx.re {I k h' d o} {a:z.W I=b6 (.own o)} {hg O}:Nx z (z.re I k h' d a hg O) I:=⟨λb b hp e=>(iN hp).trans e,λp k' s e=>(iN λh=>V4 (motive:=Kn.sh) s (k7 (a.symm.trans (h▸e))).symm).trans e⟩
theorem To.but {z₀:Z a H} {z':Z a st} {I:d4} (u:To z₀ z) (b:z₀.W I=b8) (n:Nx z z' I):To z₀ z':=⟨λp k e=>n.ext p k (λh=>nomatch (h▸b).symm.trans e) (u.ext p k e),u.grow,u.keep⟩
inductive It (W:Wd) (I:d4) (k:Nat):Src→Prop
 | str (s t o):W I=b6 (.own o)→o.cls= .type (strIterType (c6 s))→o.data= .fields #[.str (c6 s) t,.int k 0]→It W I k (.fix (s.map λc=>V.str [c]))
 | tup (l q xs n o o'):W I=b6 (.own o)→o.cls= .type "tuple_iterator" →o.data= .fields #[.ref q,.int k 0]→W q=b6 (.imm o')→o'.cls= .type "tuple" →o'.data= .seq xs n→VRs W l xs.toList→It W I k (.fix l)
 | rng (lo hi):k≤(hi-lo).toNat→W I=b6 (.own {cls:= .type "range_iterator",data:= .fields #[rawInt (lo+k),rawInt ((hi-lo).toNat-k),rawInt 1]})→It W I k (.fix (n4 lo hi))
 | live (n p o):W p=b6 (.tr n)→W I=b6 (.own o)→o.cls= .type "list_iterator" →o.data= .fields #[.ref p,.int k 0]→It W I k (.live n)
theorem It.to {z':Z a H} {I k src} (u:To z z') (i:It z.W I k src):It z'.W I k src:=by
 cases i with
 | str s t o a b c=>exact .str s t o (u.ext _ _ a) b c
 | tup l q xs n o o' a b c d e f g=>exact .tup l q xs n o o' (u.ext _ _ a) b c (u.ext _ _ d) e f (u.vrs g)
 | rng lo hi a b=>exact .rng lo hi a (u.ext _ _ b)
 | live n p o a b c d=>exact .live n p o (u.ext _ _ a) (u.ext _ _ b) c d
theorem It.own {I k src} (i:It W I k src):∃o,W I=b6 (.own o):=by
 cases i with
 | str s t o a b c=>exact ⟨o,a⟩
 | tup l q xs n o o' a b c d e f g=>exact ⟨o,a⟩
 | rng lo hi a b=>exact ⟨_,b⟩
 | live n p o a b c d=>exact ⟨o,b⟩
abbrev Z.newOwn (z:Z a st) (o:f7) (b:o.isFreed=false):Z a st:=z.imm z.h.objs.size (.own o) (λc e=>nomatch e) (z.h.push o) z.t z.fresh X5 λc=>aS _ b
theorem hX (lo hi:Int):KR lo hi 1=((hi-lo).toNat:Int):=by
 delta KR;rw [iP (by decide),Int.ediv_one]
 split
 ·rename_i h;exact (Int.sub_add_cancel _ 1).trans (Int.toNat_of_nonneg (Int.sub_nonneg_of_le (JJ h))).symm
 ·rename_i h;exact (cG Nat.cast (Int.toNat_of_nonpos (Int.sub_nonpos_of_le (kr.mp h)))).symm
theorem R8 {i:Int} (h1:-1000000 < i) (c:i < 1000000):Builtin.Range.rangeFitsLong i=true:=q7.mpr ⟨decide_eq_true (JJ (jK (by decide) h1)),decide_eq_true (jK c (by decide))⟩
theorem oM {lo hi:Int} (h:-100000 < lo∧lo < 100000∧-100000 < hi∧hi < 100000):Builtin.Range.small lo hi 1=true:=by
 have g:((hi-lo).toNat:Int) < 1000000:=by omega
 delta Builtin.Range.small;rw [hX,R8 (jK (by decide) h.1) (jK h.2.1 (by decide)),R8 (jK (by decide) h.2.2.1) (jK h.2.2.2 (by decide)),R8 (i:=1) (by decide) (by decide),
  R8 (Ad (by decide) (V3 _)) g,iP (by decide),Int.sub_self,QJ,R8 (jK (by decide) h.2.2.1) (jK h.2.2.2 (by decide)),Fz]
 rfl
section
variable {Q:c5→d0→Prop} {src:Src}
theorem nR (k:∀I (z':Z a st),To z z'→z.W I=b8→It z'.W I 0 src→Q (.ref I) z'.s):∀{v},VR z.W v x→P7 v st=b6 src→c7 C.M A (pyIter x) Q E z.s:=λ{v}=>
 have mk:∀(o:f7) (c:o.isFreed=false),It (z.newOwn o c).W z.h.objs.size 0 src→Q (.ref z.h.objs.size) (z.newOwn o c).s:=λo c i=>k _ _ .immd z.fresh i
 V.casesOn v (λb e=>e6 e) (λb b e=>e6 e) (λb b e=>e6 e)
  (λs r e=>by cases r with | mk t=>exact wpAny_pyIter_strU (mk _ rfl (k7 e▸ .str s t _ j6 rfl rfl)))
  (λl r e=>by cases r with | mk q o n xs c d hd r=>exact wpAny_pyIter_tuple (BL (z.I _ _ c) d hd) (mk _ rfl (k7 e▸ .tup l q xs n _ o j6 rfl rfl (D3 z.fresh _ _ c) d hd (r.mono (aI z.fresh)))))
  (λlo hi r e=>by cases r with | mk p t u v hp=>exact (if h:-100000 < lo∧lo < 100000∧-100000 < hi∧hi < 100000 then wpAny_pyIter_range (t:=t) (u:=u) (v:=v) (z.I _ _ hp) (oM h) (mk _ rfl (k7 ((iP h).symm.trans e)▸ .rng lo hi (T3 _) (j6.trans (by rw [hX,Int.natCast_zero,QJ,FF])))) else nomatch (iN h).symm.trans e))
  (λn r e=>by cases r with | mk p hp=>exact z.list (s:=b8) (P:=λo:Option Src=>o=b6 src→_) hp (λe=>nomatch e) (λl xs m b c b e=>wpAny_pyIter_list ⟨_,c,rfl,m,rfl⟩ (mk _ rfl (k7 e▸ .live n p _ (D3 z.fresh _ _ hp) j6 rfl rfl))) e)
  (λb b b e=>e6 e) (λb b e=>e6 e) (λb b e=>e6 e) (λb b e=>e6 e) (λb b e=>e6 e)
end
theorem B6 {I:d4} {h h':j5} (s:aR I h h'):∀p o,p≠I→h.get? p=b6 o→h'.get? p=b6 o:=λp o hp e=>(s.2 p hp).trans e
theorem HI {s:List Nat} {k:Nat} (h:(s.map λc=>V.str [c])[k]?=b6 v):∃c,s[k]?=b6 c∧V.str [c]=v:=ch.mp (br.symm.trans h)
theorem sD {lo hi:Int} {k:Nat} (h:(n4 lo hi)[k]?=b6 v):k < (hi-lo).toNat∧V.int (lo+k)=v:=
 (ch.mp (br.symm.trans h)).elim λj h=>have q:=U6.mp h.1;q.elim λf e=>⟨JH f FM,(List.getElem_range (n:=(hi-lo).toNat) f).symm.trans e▸h.2⟩
section
variable {Q:Option c5→d0→Prop} {src:Src} {I:d4} {k:Nat}
theorem vn {n:Nat} {p:d4} {r:Option V} {P:Prop} (hp:z.W p=b6 (.tr n)) (h:(Src.live n).at st k=b6 r) (q:∀l xs m,z.h.get? p=b6 (listOf xs m)→VRs z.W l xs.toList→l[k]?=r→P):P:=
 z.list (s:=b8) (P:=λo:Option (Option V)=>o=b6 r→P) hp (λe=>e6 e) (λl xs m c a b e=>q l xs m a b (k7 e)) h
theorem eU (i:It z.W I k src) (hv:src.at st k=b6 (b6 v)) (G:∀(z':Z a st) y,Nx z z' I→It z'.W I (k+1) src→VR z'.W v y→Q (b6 y) z'.s):c7 C.M A (pyNext (.ref I)) Q E z.s:=by
 cases i with
 | str s t o d w hd=>
  refine (HI (k7 hv)).elim λc h=>?_;have hx:(c6 s).cps[k]?=b6 c:=(QP ..).trans h.1;have x:∀f,strIterType (c6 s)=f→∀h',h'.IsStrIter I f (c6 s) t (k+1)→aR I z.s.heap h'→Q (b6 (.str ⟨#[c]⟩ z.s.toks)) {z.s with heap:=h',toks:=z.s.toks+1}:=λf e h' g u=>g.elim λo' j=>
   G (z.re I (b6 o') h' (z.t+1) d (B6 u) λH e=>k7 e▸j.1) _ .re (.str s t o' (iP rfl) (e▸j.2.1) j.2.2) (h.2▸ .mk _)
  have go:∀f,strIterType (c6 s)=f→((c6 s).cps.all (· < 128)=true→f= "str_ascii_iterator")→((c6 s).cps.all (· < 128)=false→f= "str_iterator")→c7 C.M A (pyNext (.ref I)) Q E z.s:=λf e h1 J=>by
   cases F:(c6 s).cps.all (· < 128) with
   | true=>exact wpAny_pyNext_ascii_item ⟨o,z.inv.at_ _ _ d,(e.trans (h1 F))▸w,hd⟩ hx (x _ (e.trans (h1 F)))
   | false=>exact wpAny_pyNext_wide_item ⟨o,z.inv.at_ _ _ d,(e.trans (J F))▸w,hd⟩ hx (x _ (e.trans (J F)))
  exact go _ rfl (λe=>iP e) λe=>iN (FO.mp e)
 | tup l q xs n o o' d w hd K B D r=>
  exact (r.nth (k7 hv)).elim λy h=>wpAny_pyNext_tuple_item ⟨o,z.inv.at_ _ _ d,w,hd⟩ (BL (z.I _ _ K) B D) h.1 λh' g u=>g.elim λb j=>
   have n:Nx z (z.re I (b6 b) h' z.t d (B6 u) λH e=>k7 e▸j.1) I:= .re;
   G _ _ n (.tup l q xs _ b o' (iP rfl) j.2.1 j.2.2 (n.sub.I _ _ K) B D (r.mono n.sub)) (h.2.mono n.sub)
 | rng lo hi O d=>
  exact have h:=sD (k7 hv);wpAny_pyNext_range_item (z.inv.at_ _ _ d) (by omega) λh' g u=>
   G (z.re I (b6 _) h' (z.t+1) d (B6 u) λH e=>k7 e▸g) _ .re (.rng lo hi h.1 ((iP rfl).trans (by rw [Int.natCast_succ,Int.add_assoc,Int.sub_sub];rfl))) (h.2▸ .mk _)
 | live n p o hp d w hd=>
  exact vn hp hv λl xs m L r e=>(r.nth e).elim λy h=>wpAny_pyNext_list_item ⟨o,z.inv.at_ _ _ d,w,hd⟩ ⟨_,L,rfl,m,rfl⟩ h.1 λh' g u=>g.elim λb j=>
   have n:Nx z (z.re I (b6 b) h' z.t d (B6 u) λH e=>k7 e▸j.1) I:= .re;
   G _ _ n (.live _ p b (n.sub.T _ hp) (iP rfl) j.2.1 j.2.2) (h.2.mono n.sub)
theorem RGet.toN {y:Option c5} (r:RGet W b8 y):y=none:=by cases r with | nil=>rfl
theorem VRs.nth0 {l:List V} {xs:Array c5} (r:VRs W l xs.toList) {k:Nat} (e:l[k]?=b8):xs[k]?=none:=(Ac ..).symm.trans (RGet.toN (e▸r.get k))
theorem jA (c:A.handled=b8) (i:It z.W I k src) (hv:src.at st k=b6 b8) (G:∀(z':Z a st),Nx z z' I→Q b8 z'.s):c7 C.M A (pyNext (.ref I)) Q E z.s:=by
 have x:∀{o},z.W I=b6 (.own o)→∀h',j5.ExtBut I z.s.heap h'→Q b8 {z.s with heap:=h'}:=λh h' u=>G (z.re I b8 h' z.t h u λB e=>e6 e) .re;cases i with
 | str s t o h b hd=>
  have hx:(c6 s).cps[k]?=none:=(QP ..).trans (Lb.mp (br.symm.trans (k7 hv)));have go:∀f,strIterType (c6 s)=f→((c6 s).cps.all (· < 128)=true→f= "str_ascii_iterator")→((c6 s).cps.all (· < 128)=false→f= "str_iterator")→c7 C.M A (pyNext (.ref I)) Q E z.s:=λf e h1 v=>by
   cases g:(c6 s).cps.all (· < 128) with
   | true=>exact wpAny_pyNext_ascii_end c ⟨o,z.inv.at_ _ _ h,(e.trans (h1 g))▸b,hd⟩ hx (x h)
   | false=>exact wpAny_pyNext_wide_end c ⟨o,z.inv.at_ _ _ h,(e.trans (v g))▸b,hd⟩ hx (x h)
  exact go _ rfl (λe=>iP e) λe=>iN (FO.mp e)
 | tup l q xs n o o' h b hd y j d r=>exact wpAny_pyNext_tuple_end c ⟨o,z.inv.at_ _ _ h,b,hd⟩ (BL (z.I _ _ y) j d) (r.nth0 (k7 hv)) (x h)
 | rng lo hi O h=>exact wpAny_pyNext_range_end c (z.inv.at_ _ _ h) (by have:=List.getElem?_eq_none_iff.mp (k7 hv);rw [n4,u7,FM] at this;omega) (x h)
 | live n p o hp h b hd=>exact vn hp hv λl xs m w r e=>wpAny_pyNext_list_end c ⟨o,z.inv.at_ _ _ h,b,hd⟩ ⟨_,w,rfl,m,rfl⟩ (r.nth0 e) (x h)
end
end
section
set_option backward.match.sparseCases true
variable {C:Cx} {a:Ar C} {st H:St} {z:Z a st} {W:Wd} {v w:V} {x y:c5} {E:c5→d0→Prop} {A:q8}
section
variable {K:Type} [DecidableEq K] {es:List (K×V)} {k k':K}
theorem cp:∀es:List (K×V),look? (A4 es k v) k'=if k'=k then b6 v else look? es k':=
 A3 (ite_congr (propext eq_comm) (λz=>rfl) λz=>rfl) λp r ih=>by
  by_cases h:p.1=k
  ·rw [Jk,iP h,pu,pu];by_cases c:k'=k
   ·rw [iP c,iP c.symm]
   ·rw [iN c,iN (Ne.symm c),iN (h▸Ne.symm c)]
  ·rw [Jk,iN h,pu,pu,ih];by_cases c:p.1=k'
   ·rw [iP c,iP c,iN (c▸h)]
   ·rw [iN c,iN c]
theorem bh:∀es:List (K×V),es.length≤(A4 es k v).length∧(A4 es k v).length≤es.length+1∧(look? es k=b8→(A4 es k v).length=es.length+1):=
 A3 ⟨T3 _,i0 _,λz=>rfl⟩ λp r ih=>by
  by_cases h:p.1=k
  ·rw [Jk,iP h,pu,iP h];exact ⟨i0 _,w7 _,λe=>nomatch e⟩
  ·rw [Jk,iN h,pu,iN h];exact ⟨Z1 ih.1,Z1 ih.2.1,λe=>cG jM (ih.2.2 e)⟩
theorem RGet.put {K':Type} [DecidableEq K'] {f:K→K'} (c:∀a b,f a=f b→a=b) {g:K'→Option c5} (e:VR W v y) (q:RGet W (look? es k') (g (f k'))):RGet W (look? (A4 es k v) k') (if f k'=f k then .some y else g (f k')):=by
 rw [cp];exact if h:k'=k then (iP h).symm▸(iP (cG f h)).symm▸ .val v y e else (iN h).symm▸(iN λh'=>h (c _ _ h')).symm▸q
theorem RGet.no {b:Option V} (q:RGet W b b8):b=none:=by cases q with | nil=>rfl
theorem pG {K':Type} [DecidableEq K'] {knd:KeyKind pg C.w K'} {f:K→K'} (d:∀a b,f a=f b→a=b) {s:d0} {p:d4} {g:c5} {Q:Unit→d0→Prop} (r:RDict knd f W s.heap p es) (O:knd.is (f k) g=true) (hz:es.length≤bH) (e:VR W v y)
  (G:∀h' t,aR p s.heap h'→RDict knd f W h' p (A4 es k v)→Q () {s with heap:=h',toks:=t}):c7 C.M A (dictSet p g y) Q E s:=by
 cases r with
 | mk o ds Y h c hd hK hs hg=>
  delta dictSet
  try with_reducible refine v9 ?_
  refine d1 (knd.pyHash O ?_);delta dictSetHashed
  try with_reducible refine v9 ?_
  refine d1 (wpAny_dictFind_of (s:={s with toks:=s.toks+1}) O h hd hK ?_);cases hi:ds.findIdx? λe=>knd.is (f k) e.key with
  | some i=>exact d1 (wpAny_rule (d1 (wpAny_updateDict (s:={s with toks:=s.toks+1}) h hd (wpAny_point (G _ _ (gg ..)
    (.mk _ _ Y (aU _ h (f7.isFreed_of_dict (f7.data_mapDict hd _))) (c.mapDict _) (f7.data_mapDict hd _) (hK.modify _ _) (d3 (w2 KY) (d3 hs (bh es).1)) λx=>(findBy_modify knd.is knd.inj ds (f k) (f x) y i hi).symm▸ .put d e (hg x)))))))
  | none=>
   exact have j:look? es k=none:=RGet.no ((by rw [findBy_of_findIdx?,hi]:findBy knd.is ds (f k)=b8)▸hg k)
   d1 (wpAny_rule (wpAny_updateDictKeys (hz:=d3 hs hz) (s:={s with toks:=s.toks+1}) h hd (G _ _ (gg ..)
    (.mk _ _ (Y+1) (aU _ h (f7.isFreed_of_dict (f7.data_mapDictKeys hd _))) (c.mapDictKeys _) (f7.data_mapDictKeys hd _) (hK.push O _) (JE ..▸(bh es).2.2 j▸Z1 hs) λx=>(findBy_push knd.is ds (f k) (f x) _ _ y (KeyKind.is_eq_decide O) hi).symm▸ .put d e (hg x)))))
end
theorem zv:typeLookup (.type "list") "keys" =pure none:=am_miss_of_fast (by kernel_rfl)
theorem Hi {prog:mj} {w:D8} {s:d0} {a:d4} {xs:Array c5} {k:Nat} {sl:Array (Option c5)} {Q:Option c5→d0→Prop}
  (hx:s.heap.get? a=b6 {cls:= .type "list",dict:=b8,data:= .seq xs k,slots:=sl}) (j:A.handled=b8)
  (h:∀h' i,(∀b o,s.heap.get? b=b6 o→h'.get? b=b6 o)→Q b8 {s with heap:=h',toks:=i}) :
  c7 (J6 prog w) A (getAttr? (.ref a) "keys") Q E s:=by
 obtain ⟨hp,g,d,i,os⟩:=s;have c:(["__module__", "__name__", "__qualname__", "__doc__", "__annotations__"]:List c9).contains ("keys" :c9)=false:=by decide
 have hT:∀t,(⟨hp,g,d,t,os⟩:d0).TypeIs (.ref a) "list" :=λz=>⟨_,hx,rfl⟩;have r:=sub_AttributeError;have l:=FU.lookup;have m:=FU.bind (.ref a);have n:=am_list_getattr_none;delta getAttr? getAttrBy? getAttrBy
 repeat (any_goals (first | assumption | exact hT _ | ((with_reducible show c7 _ _ (call (c5.builtin "list.__getattribute__") _ _) _ _ _);refine jP FU (hT _) am_entry_list_getattribute (F.args_list_getattribute_2 _ _) (meets_getattribute_miss_list a xs k sl ("keys" :c9) _ zv c (by rw [bG];decide)) ⟨hx,j,λh' t e f=>?_⟩) | wp_step))
 obtain ⟨p,u,he⟩:=f.there;show c7 _ _ (getattributeRaised _ _ _ _ _ _ _) _ _ _;delta getattributeRaised
 repeat (any_goals (first | assumption | wp_step))
 exact h _ _ f.keeps
theorem aF:entryFor table "dict.update.loop" =b6 Builtin.«dict.update.loop»:=entryFor_of_tree (by kernel_rfl)
theorem J8:plainId "dict.update.loop" =true:=by decide +kernel
theorem VRs.two {u w:V} {xs:List c5} (r:VRs W [u,w] xs):∃x y,xs= [x,y]∧VR W u x∧VR W w y:=by
 cases r with | mk x xs a b=>cases b with | mk y xs b c=>exact ⟨x,y,cG (x :: y :: ·) c,a,b⟩
theorem GO {v:V} {r:List V} {ps:List (List Nat×V)}:pairs? (v :: r)=b6 ps→∃k i ps',v= .tup [.str k,.int i]∧pairs? r=b6 ps'∧ps=(k,.int i) :: ps':=
 V.casesOn v (λe=>e6 e) (λz e=>e6 e) (λz e=>e6 e) (λz e=>e6 e)
  (λl=>H7 l (λe=>e6 e) λa l=>H7 l (λe=>e6 e) λb l=>H7 l
   (V.casesOn a (λe=>e6 e) (λz e=>e6 e) (λz e=>e6 e) (λk=>V.casesOn b (λe=>e6 e) (λz e=>e6 e)
     (λi e=>(ch.mp e).elim λps' h=>⟨k,i,ps',rfl,h.1,h.2.symm⟩) (λz e=>e6 e) (λz e=>e6 e) (λz z e=>e6 e) (λz e=>e6 e) (λz z e=>e6 e) (λz e=>e6 e) (λz e=>e6 e) (λz e=>e6 e) (λz e=>e6 e))
    (λz e=>e6 e) (λz z e=>e6 e) (λz e=>e6 e) (λz z e=>e6 e) (λz e=>e6 e) (λz e=>e6 e) (λz e=>e6 e) (λz e=>e6 e))
   λz z e=>e6 e)
  (λz z e=>e6 e) (λz e=>e6 e) (λz z e=>e6 e) (λz e=>e6 e) (λz e=>e6 e) (λz e=>e6 e) (λz e=>e6 e)
theorem Jn {k:List Nat} {t:Tok}:(strKind pg C.w).is (c6 k) (.str (c6 k) t)=true:=beq_self_eq_true (c6 k)
theorem HJ {st:St} {o o':AObj}:(st++ [o]).set st.length o'=st++ [o']:=(dY _ _ (i0 _)).trans (cG (st++·) (by rw [I3];rfl))
theorem uT (L:A.handled=b8) {I m:d4} {n:Nat} {l:List V} {R:X2→d0→Prop} (hg:st[n]?=b6 (.list l)) {g:St} {z₀:Z a g} (G:z₀.W I=b8):∀(r:List V) (k:Nat) (j:Int) (es ps:List (List Nat×V)) (st':St) (z:Z a st'),
  l.drop k=r→pairs? r=b6 ps→es.length+ps.length≤20→st'=st++ [.dict es]→z.W m=b6 (.tr st.length)→To z₀ z→It z.W I k (.live n)→
  (∀st' (z':Z a st'),st'=st++ [.dict (sF es ps)]→To z₀ z'→z'.W m=b6 (.tr st.length)→R (.ok (.ret .none)) z'.s)→
  O3 C.M A (.builtin "dict.update.loop" ⟨[.ref m,.ref I,rawInt j,.none],[]⟩) R z.s:=λr=>
 have at_:∀{es st'} {k:Nat},st'=st++ [.dict es]→(Src.live n).at st' k=b6 l[k]?:=λ{es st' k} e=>cG (λo=>c8 o b8 λo:AObj=>o.onL b8 λl=>b6 l[k]?) ((e▸cg (U6.mp hg).1:st'[n]?=st[n]?).trans hg)
 have b:∀{k:Nat} {r:List V},l.drop k=r→l[k]?=r[0]?:=λ{k r} e=>e▸(FR.trans (cG (l[·]?) (Nat.add_zero k))).symm
 A3 (λk j es ps st' z hd hp H hs d u F q=>by
  cases hp;refine codeAny_builtin aF ?_;rw [q8.under_plainId J8 _];show c7 _ A.in1 (pyNext (.ref I) >>= _) _ _ z.s;exact d1 (jA (A:=A.in1) L F ((at_ hs).trans (cG b6 (b hd))) λz' w=>d1 (g9 (g9 (q _ z' hs (u.but G w) (w.sub.T _ d))))))
 (λv r ih k j es ps st' z hd hp H hs d u F q=>by
  obtain ⟨key,i,ps',rfl,D,rfl⟩:=GO hp;refine codeAny_builtin aF ?_;rw [q8.under_plainId J8 _];show c7 _ A.in1 (pyNext (.ref I) >>= _) _ _ z.s;refine d1 (eU (A:=A.in1) F ((at_ hs).trans (cG b6 (b hd))) λz₁ y w f r=>?_);cases r with
  | mk p o Y xs B K hD S=>
   obtain ⟨x1,x2,E,N,P⟩:=S.two;cases N with
   | mk t=>
    refine d1 (v9 (d1 (wpAny_tryCatch ?_)));delta Builtin.Dict.pairItems;refine d1 (wpAny_typeOf (s:=z₁.s) (v:= .ref p) (T:= "tuple") ⟨o,z₁.I _ _ B,K⟩ ?_);rw [iP (by decide)];refine d1 (d1 (wpAny_load (z₁.I _ _ B) ?_));rw [hD];refine g9 (g9 ?_);show c7 _ _ (match xs.toList with | [k,v]=>C9 [k,v] (dictSet m k v) | l=>_) _ _ _;rw [E];have h:=w.sub.T _ d;have hL:es.length+ps'.length+1≤20:=H;refine v9 (pG (s:=z₁.s) (es:=es) (λJ J=>Q9) ((z₁.inv.at_ _ _ h).2 (.dict es) (by rw [hs];exact JM)) Jn (d3 (d3 (A7 ..) (dO hL)) (by rw [bG];decide)) P λh' X U Q=>?_);have x:=u.but G w;let z₂:=z₁.set st.length m (.dict (A4 es key (.int i))) h' X h (B6 U) Q;have c:To z₁ z₂:= .setd λk J O B q v e=>by
     rw [cp] at e
     split at e
     ·exact k7 e▸trivial
     ·exact B (.dict es) (by rw [hs];exact JM) q v e
    refine g9 ⟨plainId_quiet J8 _,ih (k+1) (j+1) (A4 es key (.int i)) ps' _ z₂ (List.drop_drop.symm.trans (cG (Ah 1) hd)) D ?_ (hs▸HJ) h (x.trans c) (f.to c) q⟩;exact d3 (T1 (bh es).2.1 _) (by omega)) r
theorem Jc (w:a.A.handled=b8) {args:List V} {xs:List c5} (r:VRs z.W args xs):SE z (call (.type "dict") xs []) (A1 .dict args st):=
 VRs.on1 (P:=λxs r=>SE z (call (.type "dict") xs []) r) r (λg=> .no) λv x e=>VR.ref (P:=λx r=>SE z (call (.type "dict") [x] []) r) e (λg=> .no) λn p hp=>z.list hp .no λl ys m hg C r=> .some λps k=> .ite λhz Q E q=>by
  let z₁:=z.alloc z.h.objs.size (.dict []) (z.h.push {cls:= .type "dict",data:= .dict #[]}) z.t (i0 _) X5 (.mk _ #[] 0 (aS _ rfl) ⟨rfl,rfl,rfl⟩ rfl (λg he=>nomatch he) (T3 _) λg=> .nil);refine callType_codes (Q₁:=λf s₁=>f= .ref z.h.objs.size∧s₁=z₁.s) F.kt_called_dict (F.kt_typeCall_dict_1 _) F.entry_dict_init (kt_code_dict_new _ ⟨rfl,rfl⟩) ?_;rintro f s₁ ⟨rfl,rfl⟩;have hT:z₁.s.TypeIs (.ref z.h.objs.size) "dict" :=⟨_,aS _ rfl,rfl⟩
  refine ⟨hT,F.args_dict_init_2 _ _,?_⟩;delta Builtin.«dict.__init__»;refine d1 ?_;delta Builtin.Dict.selfAndRest;refine d1 (wpAny_notOrdered_dict hT ?_);show c7 _ _ (pure (z.h.objs.size,[L6 p])) _ _ _;refine g9 ?_;show c7 _ _ (Builtin.Dict.updateFrom "dict.__init__" z.h.objs.size (.ref p) [] .none) _ _ _;delta Builtin.Dict.updateFrom;have d:z₁.h.get? p=b6 (listOf ys m):=I4 _ C;refine d1 (wpAny_typeOf (s:=z₁.s) (v:= .ref p) (T:= "list") ⟨_,d,rfl⟩ ?_);rw [iP (by decide)];refine d1 (Hi (s:=z₁.s) d w λh' y O=>?_);have b:To z z₁:= .alloced;refine d1 (wpAny_rule (d1 (nR (z:=z₁.keep h' y O) (v:= .ref n) (src:= .live n) (λI z₂ c B D=>g9 ?_) (b.vr (.mk p hp)) ?_)))
  ·have u:To z z₂:=b.trans (To.trans .kept c);refine ⟨plainId_quiet J8 _,uT (A:=a.A.in1) w hg (z₀:=z₁.keep h' y O) B l 0 0 [] ps _ z₂ rfl k (d3 (w2 (gC _)) (d3 hz (by decide))) rfl (c.ext _ _ j6) c D ?_⟩;rintro st' z₃ rfl i j;exact ⟨rfl,q z₃ _ (b.trans (To.trans .kept i)) (.mk _ j)⟩
  ·exact cG (λo=>c8 o b8 λo:AObj=>o.onL b8 λg=>b6 (Src.live n)) ((cg (l₂:= [.dict []]) (U6.mp hg).1).trans hg)
theorem Cu (h:a.A.handled=b8) {args:List V} {xs:List c5} (r:VRs z.W args xs) (b:BI):SE z (call (kX b) xs []) (A1 b args st):=
 BI.casesOn b (Nu r) (AN r) .no (Az r) (IM r) (Jc h r) (OT r) (Pa r) (Ov h r) (PC h r) .no
theorem IC (b:BI):aE C (kX b):=⟨.machine,.inr rfl,λA s Q E z q=>by cases b <;> exact g9 q⟩
theorem CI.no {f:c5} {xs:List c5}:CI z f xs .stuck:=λa a p=>p.elim
theorem AT (P:P5 C a.N a.d a.Φ) (h:0 < a.N) {f:c5} {args:List V} {xs:List c5} (r:VRs z.W args xs):∀{v},VR z.W v f→CI z f xs (apply a.Φ v args st):=λ{v}=>
 V.casesOn v (λg=> .no) (λg g=> .no) (λg g=> .no) (λg g=> .no) (λg g=> .no) (λg g g=> .no) (λg g=> .no) (λg g g=> .no) (λc (e:f= .ref c)=>e▸P z rfl rfl h r) (λc (e:f= .ref c)=>e▸P z rfl rfl h r)
  (λb (e:f=kX b) Q E p=>e▸⟨IC b,Cu (a.hd h) r b Q E p⟩) (λg g=> .no)
theorem jt {l:List (Bool×j9 c5)} (h:l.all (λx=> !x.1)=true):l.any (·.1)=false:=List.any_eq_false.mpr λx hx e=>O0 ((cG (!·) e).symm.trans (aO.mp h x hx))
theorem lH {M:K9} {s:d0} {f:c5} {l:List (Bool×j9 c5)} {Q:Args→d0→Prop} (h:l.all (λx=> !x.1)=true)
  (a:c7 M A (spliced l) (λvs b=>Q ⟨vs,[]⟩ b) E s):c7 M A (evalArgs f true l []) Q E s:=by
 match l,h with
 | [],_=>
  delta evalArgs;exact show c7 M A (spliced [] >>= _) Q E s from d1 (aT a (λvs b h'=>v9 (d1 (g9 (d1 (g9 (g9 h')))))) λz z x=>x)
 | (false,x) :: r,_=>exact Calls.evalArgs_plain a
 | (true,x) :: r,h=>cases h
theorem fb {s:d0} {pos:n5} {f:c5} {first:List c5} {args:List (Bool×j9 c5)} {Q:c5→d0→Prop} (c:args.all (λx=> !x.1)=true) (d:args.length≤30)
  (h:c7 C.M A (spliced args) (λxs s₁=>aE C f∧(∀b o,C.s₀.heap.get? b=b6 o→s₁.heap.get? b=b6 o)∧c7 C.M A (call f (first++xs) []) Q E s₁) E s) :
  c7 C.M A (callWith pos f first args []) Q E s:=by
 delta callWith;refine d1 (v9 (lH c (aT h (λx s₁ a=>d1 (M0 ?_)) λz z x=>x)));obtain ⟨⟨k,O,l⟩,e,a⟩:=a;have tail:∀{t:j9 c5},c7 C.M A t Q E s₁→c7 C.M A (t >>= λr=>C9 [r] point >>= λz=>pure r) Q E s₁:=
  λi=>d1 (aT i (λr s₂ j=>d1 (v9 (wpAny_point (g9 j)))) λz z x=>x)
 rw [jt c];refine d1 (l _ _ _ _ e ?_);rcases O with rfl | rfl
 ·refine show c7 C.M A (if args.length+2*0 > 30 then _ else _) Q E s₁ from ?_
  rw [iN (show ¬args.length+2*0 > 30 from ae.mpr d)];exact tail (by delta callMarked;exact wpAny_keep a)
 ·exact tail a
section
variable {G:TC} {pos:n5} {c:CE} {cs:CEs} {e:f6} {es:List f6}
theorem vP (h:OK2 G c e) (h':OKs G cs es) (f:es.length≤8) (g:∀env,eval (.Call e es [] pos) env=(eval e env >>= λfv=>callWith pos fv [] (backTo pos (starEach es env)) [])):OK2 G (.call c cs) (.Call e es [] pos):=
 EOK.ok (λ{C a st} z env ρ L=>show SE z _ (if a.N=0 then .stuck else _) from if d:a.N=0 then (iP d).symm▸ .no else (iN d).symm▸λQ E p=>(g env).symm▸d1 ((h.e z L).q p λb b z₁ b u e p=>
  fb (h'.plain env pos) (d3 (w2 ((u7 ..).trans (h'.len env))) (d3 f (by decide))) ((h'.e z₁ pos (L.to u)).q p λb b z₂ b i e' b p=>
   have r:=AT L.phi (bD d) e' (i.vr e) Q E p
   ⟨r.1,z₂.inv.keep0,r.2⟩))) (λb b=>rfl) (by constructor <;> intros <;> rfl)
end
end
theorem xP (c:Nat):∀s:List Nat,c8 (A8 c s) (c∉s) λi=>s[i]?=b6 c∧∀k,k < i→s[k]?≠b6 c:=
 A3 (λh=>nomatch h) λx r ih=>by
  rw [CW];exact if h:x=c then (iP h).symm▸⟨cG b6 h,λk O=>absurd O (P9 _)⟩ else (iN h).symm▸by
   generalize A8 c r=o at ih ⊢;cases o with
   | none=>exact λm=>(x8.mp m).elim (λe=>h e.symm) ih
   | some j=>exact ⟨ih.1,λk=>oA k (λz e=>h (k7 e)) λk O=>ih.2 k (Z7 O)⟩
theorem vh (s:List Nat) (c:Nat):Txt.find (c6 s) ⟨#[c]⟩=match A8 c s with | some i=>(i:Int) | none=> -1:=by
 have h:=xP c s;have at_:∀i,StrLaws.At (c6 s) ⟨#[c]⟩ (c6 s).length i↔s[i]?=b6 c:=StrLaws.subAt_one (c6 s) c
 generalize A8 c s=o at h ⊢;exact (find_whole (c6 s) ⟨#[c]⟩).elim (λq=>q.1.trans (by cases o with | none=>rfl | some j=>exact absurd ((at_ j).mpr h.1) (q.2 j)))
  λq=>q.elim λi q=>q.1.trans (have hi:=(at_ i).mp q.2.1;by
   cases o with
   | none=>exact absurd (xq hi) h
   | some j=>exact cG _ (JF (kt λf=>q.2.2 j f ((at_ j).mpr h.1)) (kt λf=>h.2 i f hi)))
theorem pn {s:List Nat} {c i:Nat} (h:A8 c s=b6 i):∃r,lV (c6 s) ⟨#[c]⟩ 0 (c6 s).length 1=i :: r:=by
 have q:=vh s c;rw [h] at q;delta Txt.find at q;generalize lV (c6 s) ⟨#[c]⟩ 0 (c6 s).length 1=l at q ⊢;cases l with
 | nil=>exact absurd (q.symm:(i:Int)= -1) (JD (Ad (by decide) (V3 i)))
 | cons j r=>exact ⟨r,cG (· :: r) (JI.inj q)⟩
theorem fR {c:Nat}:∀p:List Nat,c∉p→j3 c p= [p]∧∀r,j3 c (p++c :: r)=p :: j3 c r:=
 A3 (λz=>⟨rfl,λr=>iP rfl⟩) λx p ih h=>have q:=ih λe=>h (F1 _ e);have hx:x≠c:=λe=>h (e▸D6);
  ⟨by rw [jV,iN hx,q.1],λr=>by rw [C5,jV,iN hx,q.2]⟩
theorem pF {c:Nat}:∀l:List (List Nat),l≠ []→(∀p∈l,c∉p)→j3 c (v8 [c] l)=l:=
 A3 (λh=>absurd rfl h) λp r=>H7 r (λz z h=>(fR p (h p D6)).1) λq r ih z h=>
  (cG (j3 c) (e7 p [c] (v8 [c] (q :: r)))).trans (((fR p (h p D6)).2 _).trans (cG (p :: ·) (ih (L5 _ _) λx hx=>h x (F1 _ hx))))
theorem cm (x y:c9):u8 (x++y)=u8 x++u8 y:=Vx
theorem ix (y:c9):∀l:List c9,u8 (c9.join y l)=v8 (u8 y) (l.map u8):=
 A3 rfl λx r=>H7 r (λa=>rfl) λz r ih=>(cm (x++y) _).trans (congr (cG _ (cm x y)) ih)
theorem BQ (x y:c9):Txt.split x y≠ []:=by
 delta Txt.split;refine if h:_ then (iP h).symm▸L5 _ _ else (iN h).symm▸if h':_ then (iP h').symm▸L5 _ _ else (iN h').symm▸?_
 rw [StrLaws.partsBetween_eq];exact (StrLaws.partsFrom_ne ..).elim λp h=>h.elim λr e=>e▸L5 _ _
theorem CY (s:List Nat) (c:Nat):(Txt.split (c6 s) ⟨#[c]⟩).map u8=j3 c s:=
 (pF (c:=c) _ (λh=>BQ _ _ (rU.mp h)) λp hp=>(O1.mp hp).elim λq h=>h.2▸StrLaws.split_free (c6 s) c q h.1).symm.trans
  (cG (j3 c) ((ix ⟨#[c]⟩ _).symm.trans (cG u8 (StrLaws.join_split (c6 s) ⟨#[c]⟩))))
theorem tG (c:Nat):∀s,(j3 c s).length≤s.length+1:=A3 (i0 _) λa r ih=>by
 rw [jV];refine if h:a=c then (iP h).symm▸Z1 ih else (iN h).symm▸?_
 generalize j3 c r=l at ih ⊢;cases l with
 | nil=>exact Z1 (T3 _)
 | cons p q=>exact fy ih
theorem De {s:List Nat} (h:s.all (· < 128)=true):Txt.lower (c6 s)=c6 (s.map iR):=
 (lower_ascii (x:=c6 s) λc a=>of_decide_eq_true (aO.mp h c a)).trans (cG c9.mk (QL.mp (Array.toList_map (f:=lo1) (xs:=s.toArray))))
theorem aj {p:Nat→Bool}:∀l:List Nat,l.dropWhile p=l.drop (l.takeWhile p).length:=A3 rfl λa r ih=>by
 rw [QN,Ae];cases p a with
 | true=>exact ih
 | false=>rfl
theorem pv (s y:List Nat):PySem.stripped (c6 y).cps.contains true true (c6 s)=c6 (Y5 y s):=by
 have e:(c6 y).cps.contains=y.contains:=funext λc=>List.contains_toArray;refine c9.ext' (QL.mp ((StrLaws.strSub_toList ..).trans ?_));rw [e];show (s.drop (s.takeWhile y.contains).length).take (s.length-((s.drop (s.takeWhile y.contains).length).reverse.takeWhile y.contains).length-(s.takeWhile y.contains).length)=Y5 y s;rw [Y5,aj s,aj (List.reverse _),List.drop_reverse,QG,oD,Nat.sub_right_comm]
theorem EL (s y:List Nat):Txt.stripChars (c6 s) (c6 y)=c6 (Y5 y s):=by
 refine JK ?_ (pv s y);delta Txt.stripChars Txt.stripBy;refine if h:_ then (iP h).trans ?_ else iN h
 have h:=q7.mp h;rw [PySem.stripped,eq_of_beq h.2,eq_of_beq h.1];exact (StrLaws.sub_whole _).symm
section
variable {vs:List V} {xs:List c5}
theorem PT {n:Nat} (h:n≤100000):n+1≤sizeLine:=d3 (Z1 h) (by rw [bG];decide)
theorem big {n:Nat} (h:n≤100000):n≤sizeLine:=dO (PT h)
theorem Va:∀l:List (c9×Tok),VRs W ((l.map λp=>u8 p.1).map V.str) (strValues l):=A3 rfl λp r ih=> .mk (.str p.1 p.2) (strValues r) (.mk p.2) ih
inductive RStrs (xs:List c5) (ss:List (List Nat)):Prop
 | mk (ps:List (c9×Tok)):xs=strValues ps→ps.map (·.1)=ss.map c6→RStrs xs ss
theorem vH:∀{l:List V} {xs:List c5} {ss},VRs W l xs→strs? l=b6 ss→RStrs xs ss:=λ{l}=>
 A3 (motive:=λl=>∀{xs:List c5} {ss},VRs W l xs→strs? l=b6 ss→RStrs xs ss) (λr e=> .mk [] r (cG (λo:Option (List (List Nat))=>(o.getD []).map c6) e))
  (λv l ih {xs ss} r=>by cases r with | mk x xs c b=>exact VR.str (P:=λx r=>r=b6 ss→RStrs (x :: xs) ss) c (λz e=>e6 e) λi t e=>(ch.mp e).elim λjs h=>by cases ih b h.1 with | mk ps f a=>exact .mk ((c6 i,t) :: ps) (cG (_ :: ·) f) (h.2▸cG (c6 i :: ·) a)) l
theorem DK:∀ss:List (List Nat),((ss.map c6).map (·.length)).sum=l0 ss:=A3 rfl λx r ih=>congr (cG HAdd.hAdd (j8 x)) ih
theorem qj {sep:List Nat} {ss:List (List Nat)} (h:l0 ss+sep.length*ss.length≤sizeLim):JoinOk (c6 sep) (ss.map c6)=true:=by
 delta JoinOk;rw [StrLaws.joinTotal,FT];delta Builtin.Str.tooLong;refine decide_eq_false (ae.mpr (d3 (w2 ?_) (sz h)));rw [DK,u7,j8,Nat.mul_comm]
theorem rz {sep:List Nat} {ss:List (List Nat)}:Txt.join (c6 sep) (ss.map c6)=c6 (v8 sep ss):=
 (StrLaws.glued_eq_join ..).trans (cG (λl:List Nat=>c6 l) ((ix (c6 sep) (ss.map c6)).trans (cG (v8 sep) ((wV).trans (List.map_id ss)))):c6 (u8 (c9.join (c6 sep) (ss.map c6)))=_)
section
variable {s:List Nat} {c:Nat} {t u:Tok}
theorem tP:SE z (call (.builtin "str.split") [.str (c6 s) t,.str (c6 [c]) u] []) (if s.length≤100000 then .ok (.ref st.length) (st++ [.list ((j3 c s).map V.str)]) else .stuck):= .ite λhz Q E p=>by
 have hs:=CY s c;have x:∀(l:List (c9×Tok)) (k:Nat),l.map (·.1)=Txt.split (c6 s) (c6 [c])→Q (.ref z.h.objs.size) {z.s with heap:=z.h.push {cls:= .type "list",data:= .seq (strValues l).toArray},toks:=k}:=λl k d=>
  p.newList (xs:=(strValues l).toArray) (hs▸d▸(wV (g:=u8) (f:=λp:c9×Tok=>p.1) (l:=l)).symm▸Va l) k
 have hx:(c6 s).length≤sizeLine:=big ((j8 s).symm▸hz);cases h1:(decide ((c6 s).length < (c6 [c]).length)||decide (Builtin.Str.strKind (c6 s) < Builtin.Str.strKind (c6 [c]))) with
 | true=>exact jP xf (gh _ _ _) F.entry_str_split (F.args_str_split_2 _ _) (meets_str_split_cannot_occur (c6 s) (c6 [c]) t u h1) (x [(c6 s,t)] z.s.toks (iP h1).symm)
 | false=>
  cases b:(lV (c6 s) (c6 [c]) 0 (c6 s).length ((c6 s).length+1)).isEmpty with
  | true=>exact jP xf (gh _ _ _) F.entry_str_split (F.args_str_split_2 _ _) (meets_str_split_not_found (c6 s) (c6 [c]) t u h1 rfl b) (x [(c6 s,t)] z.s.toks ((iN (ne_true_of_eq_false h1)).trans (iP b)).symm)
  | false=>
   have a:Txt.split (c6 s) (c6 [c])=Builtin.Str.partsBetween (c6 s) (lV (c6 s) (c6 [c]) 0 (c6 s).length ((c6 s).length+1)) (c6 [c]).length:=(iN (ne_true_of_eq_false h1)).trans (iN (ne_true_of_eq_false b));refine jP xf (gh _ _ _) F.entry_str_split (F.args_str_split_2 _ _) (meets_str_split_sep (c6 s) (c6 [c]) t u h1 rfl b hx (a▸d3 (w2 ((u7 (as:=Txt.split (c6 s) (c6 [c])) u8).symm.trans (cG oB hs))) (d3 (tG c s) (PT hz)))) ?_;show wants _ _ _ {z.s with toks:=_,heap:=z.h.push {cls:= .type "list",data:= .seq (strsFrom z.s.toks (Builtin.Str.partsBetween (c6 s) (lV (c6 s) (c6 [c]) 0 (c6 s).length ((c6 s).length+1)) (c6 [c]).length)).toArray}};rw [strsFrom_eq];exact x _ _ ((numbered_texts _ _).trans a.symm)
theorem we {id:String} {g:List Nat→Nat→Res} (k:∀s t c u,SE z (call (.builtin id) [.str (c6 s) t,.str (c6 [c]) u] []) (g s c)) (e:VR z.W v x) (b:VRs z.W vs xs):SE z (call (.builtin id) (x :: xs) []) (Mt v vs g):=
 VR.str (P:=λx r=>SE z (call (.builtin id) (x :: xs) []) r) e (λa=> .no) λs t=>VRs.on1 (P:=λxs r=>SE z (call (.builtin id) (_ :: xs) []) r) b (λa=> .no) λw y e=>VR.str (P:=λy r=>SE z (call (.builtin id) [_,y] []) r) e (λa=> .no) λl u=>
  H7 l .no λc r=>H7 r (k s t c u) λa a=> .no
theorem uN (e:VR z.W v x) (b:VRs z.W vs xs):SE z (call (.builtin "str.lower") (x :: xs) []) (o8 .lower v vs st):=
 VR.str (P:=λx r=>SE z (call (.builtin "str.lower") (x :: xs) []) r) e (λa=> .no) λs t=>VRs.on0 (P:=λxs r=>SE z (call (.builtin "str.lower") (_ :: xs) []) r) b (λa=> .no) (.ite λhz Q E p=>
  SC.lower (fit_lower (d3 (w2 (j8 s)) (d3 hz.2 (by decide)))) ((De hz.1).symm▸p.tok _ (.mk _)))
theorem uR (e:VR z.W v x) (b:VRs z.W vs xs):SE z (call (.builtin "str.strip") (x :: xs) []) (o8 .strip v vs st):=
 VR.str (P:=λx r=>SE z (call (.builtin "str.strip") (x :: xs) []) r) e (λa=> .no) λs t=>VRs.on1 (P:=λxs r=>SE z (call (.builtin "str.strip") (_ :: xs) []) r) b (λa=> .no) λw y e=>VR.str (P:=λy r=>SE z (call (.builtin "str.strip") [_,y] []) r) e (λa=> .no) λcs u=> .ite λhz Q E p=>
  SC.stripChars (λd k=>(EL s cs).symm▸p.tok _ (.mk _)) (big ((j8 s).symm▸hz))
theorem zp (e:VR z.W v x) (g:VRs z.W vs xs):SE z (call (.builtin "str.join") (x :: xs) []) (o8 .join v vs st):=
 VR.str (P:=λx r=>SE z (call (.builtin "str.join") (x :: xs) []) r) e (λa=> .no) λs t=>VRs.on1 (P:=λxs r=>SE z (call (.builtin "str.join") (_ :: xs) []) r) g (λa=> .no) λw y e=>VR.seq (P:=λy r=>SE z (call (.builtin "str.join") [_,y] []) r) e (λa=> .no) (λa a=> .no)
  (λl e=> .some λss hs=> .ite λhz Q E p=>by
   cases e with
   | mk q o n ys b c hd r=>cases vH r hs with
    | mk ps f i=>
     have h1:=qj hz;have h:Builtin.Str.tooLong ((ps.map (·.1)).toArray.foldl (·+ ·.length+(c6 s).length) 0)=false:=i▸(FT _).mp h1;exact jP F.slot_str_join (gh _ _ _) F.entry_str_join (F.args_str_join_2 _ _) (meets_str_join_tuple (c6 s) t q ps h) ⟨⟨o,n,z.I _ _ b,c,hd.trans (cG (Data.seq · n) (KJ.symm.trans (cG List.toArray f)))⟩,
      post_join ps ⟨joinFit_length h,λj k=>i▸rz▸p.tok k (.mk _)⟩⟩)
  λn q d=>z.list d .no λl ys m a b r=> .some λss hs=> .ite λhz Q E p=>by
   cases vH r hs with
   | mk ps f i=>exact SC.join ⟨_,b,rfl,m,cG (Data.seq · m) (KJ.symm.trans (cG List.toArray f))⟩ i (qj hz) λj k=>rz▸p.tok k (.mk _)
end
end
section
variable {vs:List V} {xs:List c5}
theorem BA {k:Nat} {m:List V}:∀l:List V,V.unds k l→V.unds k m→V.unds k (l++m):=A3 (λz h=>h) λa r ih h h'=>⟨h.1,ih h.2 h'⟩
theorem fF (e:VR z.W v x) (c:VRs z.W vs xs):SE z (call (.builtin "list.append") (x :: xs) []) (o8 .append v vs st):=
 VR.ref (P:=λx r=>SE z (call (.builtin "list.append") (x :: xs) []) r) e (λa=> .no) λn p hp=>VRs.on1 (P:=λxs r=>SE z (call (.builtin "list.append") (.ref p :: xs) []) r) c (λa=> .no) λw y e=>z.list hp .no λl ys m hg b r=> .ite λhz Q E q=>by
  have f:ys.size=l.length:=r.length;refine wpAny_call_entry slot_list_append (s:=z.s) (T:= "list") ⟨_,b,rfl⟩ entry_list_append ?_ (args_list_append _ _);show c7 _ _ (updateSeq p (·.push y) >>= λa=>ret .none) _ _ z.s;exact d1 (wpAny_updateSeq (hz:=sz (f▸rN hz.1)) (_hz':=d3 (w2 (JE ..)) (Z1 (sz (f▸rN hz.1)))) b rfl (g9 ⟨.none,rfl,
   q (z.set n p (.list (l++ [w])) _ z.t hp (B6 (gg ..)) (.mk (ys.push y) _ (aU (f7.mapSeq (·.push y)) b rfl) ((Array.toList_push (xs:=ys) (x:=y)).symm▸r.append (.one e))))
    .none (.setd λk a a h=>BA l (h _ hg) ⟨V.und_flat hz.2,trivial⟩) rfl⟩))
theorem BP (e:VR z.W v x) (d:VRs z.W vs xs):SE z (call (.builtin "list.pop") (x :: xs) []) (o8 .pop v vs st):=
 VR.ref (P:=λx r=>SE z (call (.builtin "list.pop") (x :: xs) []) r) e (λa=> .no) λn p hp=>VRs.on1 (P:=λxs r=>SE z (call (.builtin "list.pop") (.ref p :: xs) []) r) d (λa=> .no) λw y e=>VR.int (P:=λy r=>SE z (call (.builtin "list.pop") [.ref p,y] []) r) e (λa=> .no) λi t=> .ite λc=>c▸
  z.list hp .no λl=>H7 l (λa a a a a=> .no) λv l ys m hg b r=> .ite λhz Q E q=>by
   cases ys with
   | mk ys=>cases r with
    | mk y ys e r=>
     have f:ys.length=l.length:=r.length;exact jP F.slot_list_pop (s:=z.s) (T:= "list") ⟨_,b,rfl⟩ F.entry_list_pop (F.args_list_pop_2 _ _) (MeetsSeq.list_pop_at p (y :: ys).toArray m 0 t 0 y (by decide) (BX (Int.le_refl 0) (P1.mpr (uZ _))) rfl (d3 (Z1 (w2 f)) (PT hz)))
      ⟨b,q (z.set n p (.list l) _ z.t hp (B6 (gg ..)) (.mk ((y :: ys).toArray.eraseIdxIfInBounds 0) _ (aU (f7.mapSeq λxs=>xs.eraseIdxIfInBounds 0) b rfl) ((Array.toList_eraseIdxIfInBounds ..).symm▸r)))
       y (.setd λk a a h=>(h _ hg).2) e⟩
theorem Cd (e:VR z.W v x) (c:VRs z.W vs xs):SE z (call (.builtin "dict.get") (x :: xs) []) (o8 .get v vs st):=
 VR.ref (P:=λx r=>SE z (call (.builtin "dict.get") (x :: xs) []) r) e (λa=> .no) λn p hp=>VRs.on2 (P:=λxs r=>SE z (call (.builtin "dict.get") (.ref p :: xs) []) r) c (λa=> .no) λw d y b e e'=>VR.str (P:=λy r=>SE z (call (.builtin "dict.get") [.ref p,y,b] []) r) e (λa=> .no) λk t=>z.dict hp .no λes a r Q E q=>
  r.elim λm hm a g=>call_meetsIn F.slot_dict_get (s:=z.s) hm.typeIs F.entry_dict_get (F.args_dict_get_3 _ _ _) (meets_dict_get_default (strKind pg C.w) p (M2 k t) (z.low hp) b) ⟨m,hm,by
   have g:=g k;generalize look? es k=o at g q;generalize m (c6 k)=o' at g;cases g with
   | nil=>exact q.tok _ e'
   | val v x e=>exact q.tok _ e⟩
inductive IdxP (k:c9) (xs:List c5) (i:Nat):Prop
 | mk (y:c5):xs[i]?=b6 y→y.isStr k=true→(∀m y,m < i→xs[m]?=b6 y→y.isStr k=false)→IdxP k xs i
theorem AQ {k:List Nat}:∀{l xs i},VRs W l xs→nV k l=b6 i→IdxP (c6 k) xs i:=λ{l}=>
 A3 (motive:=λl=>∀{xs i},VRs W l xs→nV k l=b6 i→IdxP (c6 k) xs i) (λz e=>e6 e)
  (λv l ih {xs i} r=>by
   cases r with
   | mk x xs f d=>
  exact VR.str (P:=λx o=>o=b6 i→IdxP (c6 k) (x :: xs) i) f (λz e=>e6 e) λs t e=>
   if h:s=k then k7 ((iP h).symm.trans e)▸ .mk _ rfl (h▸beq_self_eq_true (c6 s)) λm y hm=>absurd hm (P9 _) else (ch.mp ((iN h).symm.trans e)).elim λj q=>q.2▸by
    cases ih d q.1 with
    | mk y a b c=>exact .mk y a b λm=>oA m (λy z e=>k7 e▸(eC s k).trans (decide_eq_false h)) λm y hm=>c m y (Z7 hm)) l
theorem uX {p:d4} (e:VR z.W v (.ref p)) (H:VRs z.W vs xs):SE z (call (.builtin "list.index") (.ref p :: xs) []) (o8 .index v vs st):=
 VR.seq (P:=λx r=>x= .ref p→SE z (call (.builtin "list.index") (.ref p :: xs) []) r) e (λd d=> .no) (λd d h=>nomatch h) (λd d d=> .no) (λn q D h=>(L6.inj h:q=p)▸
  VRs.on1 (P:=λxs r=>SE z (call (.builtin "list.index") (.ref q :: xs) []) r) H (λd=> .no) λw y e=>VR.str (P:=λy r=>SE z (call (.builtin "list.index") [.ref q,y] []) r) e (λd=> .no) λk t=>z.list D .no λl ys m hg j r=> .ite λhz=> .some λi hi Q E p=>by
   cases AQ r hi with
   | mk y o b c=>
    obtain ⟨b',B⟩:=xd.mp hz.2;have he:=(tH (A:=a.A.in1) (s:=z.s) (e:=λy=>y.isStr (c6 k)) (t:= .str (c6 k) t) (ou _ _) r B).1;obtain ⟨f,u⟩:=FX.mp ((Ac ..).symm.trans o);have C:ys.size=l.length:=r.length;exact jP F.slot_list_index (s:=z.s) (T:= "list") ⟨_,j,rfl⟩ F.entry_list_index (F.args_list_index_2 _ _)
     (SeqAt.list_indexAt q ys m b8 #[] (.str (c6 k) t) (λy=>y.isStr (c6 k)) i f (P1.mpr (M6 f (C▸d3 hz.1 (by decide)))) (u.symm▸b) λm hm g=>c m _ g ((Ac ..).trans (Array.getElem?_eq_getElem hm)))
     ⟨j,λy G=>he y (JG.mpr G),p.tok _ (.mk _)⟩) rfl
theorem oS {s:List Nat} {t:Tok} (e:VR z.W v (.str (c6 s) t)) (b:VRs z.W vs xs):SE z (call (.builtin "str.index") (.str (c6 s) t :: xs) []) (o8 .index v vs st):=
 VR.seq (P:=λx r=>x= .str (c6 s) t→SE z (call (.builtin "str.index") (x :: xs) []) r) e (λa a=> .no) (λs t a=>VRs.on1 (P:=λxs r=>SE z (call (.builtin "str.index") (_ :: xs) []) r) b (λa=> .no) λw y e=>VR.str (P:=λy r=>SE z (call (.builtin "str.index") [_,y] []) r) e (λa=> .no) λl u=>
  H7 l .no λc r=>H7 r (.some λi hi Q E p=>(pn hi).elim λr j=>SC.index j (p.tok _ (.mk _))) λa a=> .no) (λa a a=> .no) (λa a a h=>nomatch h) rfl
structure BMeth (n:c9) (T id:String):Prop where
 pa:PlainAttrs T
 slot:Slot T n id
 ty:typeOf (.builtin id)=pure (.type "method_descriptor")
inductive BMx (z:Z a st) (n:c9) (x:c5) (P:String→Prop):Prop
 | mk (T id):BMeth n T id→z.s.TypeIs x T→(∀p,x= .ref p→∃o,z.s.heap.get? p=b6 o∧o.dict=b8)→P id→BMx z n x P
def dA (a:Ar C) (m:BM) (v:V) (x:c5) (id:String):Prop:=∀{st:St} (z:Z a st) {vs xs},VR z.W v x→VRs z.W vs xs→SE z (call (.builtin id) (x :: xs) []) (o8 m v vs st)
theorem iH {n:c9} {id:String} {D:c5→String→Prop} (B:BMeth n "str" id) (h:∀s t,D (.str (c6 s) t) id) (e:VR z.W v x):v.onStr false (λa=>true)=true→BMx z n x (D x):=
 VR.str (s:=false) (f:=λa=>true) (P:=λx b=>b=true→BMx z n x (D x)) e (λa h=>nomatch h) λs t a=> .mk "str" id B (gh _ _ _) (λa e=>nomatch e) (h s t)
theorem mw {n:c9} {id:String} {D:c5→String→Prop} (B:BMeth n "list" id) {m:Nat} {p:d4} (hp:z.W p=b6 (.tr m)) (h:D (.ref p) id):r6 st m false (λa=>true)=true→BMx z n (.ref p) (D (.ref p)):=
 z.list (s:=false) (f:=λa=>true) (P:=λb=>b=true→BMx z n (.ref p) (D (.ref p))) hp (λh=>nomatch h) λl xs k a c a a=> .mk "list" id B ⟨_,c,rfl⟩ (λq e=>⟨_,L6.inj e▸c,rfl⟩) h
def Y8:BM→List Nat
 | .split=> [115,112,108,105,116]
 | .find=> [102,105,110,100]
 | .lower=> [108,111,119,101,114]
 | .join=> [106,111,105,110]
 | .index=> [105,110,100,101,120]
 | .strip=> [115,116,114,105,112]
 | .append=> [97,112,112,101,110,100]
 | .pop=> [112,111,112]
 | .get=> [103,101,116]
theorem HD (e:VR z.W v x):∀m,Q5 m v st=true→BMx z (c6 (Y8 m)) x (dA a m v x):=λm=>
 BM.casesOn m (iH ⟨lY,xf,F.type_str_split⟩ (D:=λx=>dA a .split v x) (λd d d d d d e r=>we (λd d d d=>tP) e r) e)
  (iH ⟨lY,F.slot_str_find,F.type_str_find⟩ (D:=λx=>dA a .find v x) (λd d d d d d e r=>we (λs d c d Q E p=>SC.find ((vh s c).symm▸p.tok _ (.mk _))) e r) e)
  (iH ⟨lY,F.slot_str_lower,F.type_str_lower⟩ (D:=λx=>dA a .lower v x) (λd d d d d d e r=>uN e r) e)
  (iH ⟨lY,F.slot_str_join,F.type_str_join⟩ (D:=λx=>dA a .join v x) (λd d d d d d e r=>zp e r) e)
  (VR.seq (s:=false) (P:=λx b=>b=true→BMx z (c6 (Y8 .index)) x (dA a .index v x)) e (λd h=>nomatch h) (λs t d=> .mk "str" "str.index" ⟨lY,F.slot_str_index,F.type_str_index⟩ (gh _ _ _) (λd e=>nomatch e) λd d d e r=>oS e r) (λd d h=>nomatch h)
   λn p hp=>mw ⟨F.plainAttrs_list,F.slot_list_index,F.type_list_index⟩ (D:=λx=>dA a .index v x) hp λd d d e r=>uX e r)
  (iH ⟨lY,F.slot_str_strip,F.type_str_strip⟩ (D:=λx=>dA a .strip v x) (λd d d d d d e r=>uR e r) e)
  (VR.ref (s:=false) (P:=λx b=>b=true→BMx z (c6 (Y8 .append)) x (dA a .append v x)) e (λd h=>nomatch h) λn p hp=>mw ⟨F.plainAttrs_list,F.slot_list_append,F.type_list_append⟩ (D:=λx=>dA a .append v x) hp λd d d e r=>fF e r)
  (VR.ref (s:=false) (P:=λx b=>b=true→BMx z (c6 (Y8 .pop)) x (dA a .pop v x)) e (λd h=>nomatch h) λn p hp=>mw ⟨F.plainAttrs_list,F.slot_list_pop,F.type_list_pop⟩ (D:=λx=>dA a .pop v x) hp λd d d e r=>BP e r)
  (VR.ref (s:=false) (P:=λx b=>b=true→BMx z (c6 (Y8 .get)) x (dA a .get v x)) e (λd h=>nomatch h) λn p hp=>z.dict (s:=false) (g:=λd=>true) (P:=λb=>b=true→BMx z (c6 (Y8 .get)) (.ref p) (dA a .get v (.ref p))) hp (λh=>nomatch h)
   λes d r d=>r.elim λm hm d d=> .mk "dict" "dict.get" ⟨F.plainAttrs_dict,F.slot_dict_get,F.type_dict_get⟩ (hm.typeIs (s:=z.s)) hm.noDict λd d d e r=>Cd e r)
section
variable {G:TC} {pos apos:n5} {c:CE} {cs:CEs} {e:f6} {es:List f6} {n:c9}
theorem Ue {env:i5} (h:OKs G cs es) (f:es.length≤8):((backTo pos (starEach es env)).all (λx=> !x.1)&&(backToKw pos (keywordEach [] env)).all (λx=>x.1.isSome)&&decide (es.length+([]:List Keyword).length+(if ([]:List Keyword).isEmpty then 0 else 1) < 30))=true:=
 q7.mpr ⟨q7.mpr ⟨h.plain env pos,rfl⟩,decide_eq_true (J7 f (by decide))⟩
theorem RQ (m:BM) (h:OK2 G c e) (h':OKs G cs es) (g:es.length≤8) (j:(apos.endLine==pos.line)=true) (i:∀n env w,mc e n env w=w) (l:u8 n=Y8 m):OK2 G (.bm m c cs) (.Call (.Attribute e n apos) es [] pos):=
 EOK.ok (λ{C a st} z env ρ L=>show SE z _ (if a.N=0 then .stuck else _) from if f:a.N=0 then (iP f).symm▸ .no else (iN f).symm▸λQ E p=>wpAny_Call_method_late (i ..) (Ue h' g) j rfl ((h.e z L).q p λv d z₁ x u e p=>by
  have k:=HD e m;generalize Q5 m v _=b at k p;cases b with
  | false=>exact p.elim
  | true=>cases k rfl with
   | mk T id B hT hd D=>exact ⟨T,id,B.pa,(show n=c6 (Y8 m) from cG c6 l)▸B.slot,B.ty,hT,hd,Calls.callWith_builtin (jt (h'.plain env pos)) (lH (h'.plain env pos) ((h'.e z₁ pos (L.to u)).q p λd d z₂ d o e' d p=>D z₂ (o.vr e) e' _ _ p))⟩)) (λd d=>rfl) (by constructor <;> intros <;> rfl)
end
end
section
variable {vs:List V} {xs:List c5}
def Z.adopt (z:Z a st) (q:d4) (o:AObj) (h':j5) (i:Nat) {f:f7} (m:z.W q=b6 (.own f)) (d:3 < q) (hg:∀p o,p≠q→z.h.get? p=b6 o→h'.get? p=b6 o) (r:OR C (up z.W q (.tr st.length)) h' q o):Z a (st++ [o]) where
 W:=up z.W q (.tr st.length)
 h:=h'
 t:=i
 inv:=z.inv.move q E5 hg (λj s e=>False.elim (V4 (motive:=Kn.sh) s (k7 (m.symm.trans e)).symm)) (qc▸w7 _) (λn o' j g e=>wu g e)
  (λk' e=>gc e▸⟨qc▸oC _,λo' e=>k7 ((JM (l:=st)).symm.trans e)▸r⟩)
  (λn e=> .inr ⟨w2 (om (gc e)),d⟩) λn h1 c=>j6.trans (cG (b6∘Kn.tr) (JF h1 (QF (JH c qc))))
 fr e he:=by cases z.fr e he with | mk L es Y a b=>exact .mk L es Y a ((E5 L λh=>nomatch (h▸b).symm.trans m).trans b)
theorem To.adopted {z₀:Z a H} {q o h' d f} {m:z.W q=b6 (.own f)} {c hg r} (u:To z₀ z) (b:z₀.W q=b8):To z₀ (z.adopt q o h' d m c hg r):=
 ⟨λp k e=>(E5 p λh=>nomatch (h▸b).symm.trans e).trans (u.ext p k e),qc▸fy u.grow,λk O hs h=>(u.keep k O hs h).app (d3 O u.grow)⟩
theorem Lu {q:d4} {k:Kn} {f:f7} (m:W q=b6 (.own f)):Sub W (up W q k):=λp k' s e=>(E5 p λh=>V4 (motive:=Kn.sh) s (k7 (m.symm.trans (h▸e))).symm).trans e
def CV:List (c5×c5)→List c5
 | []=> []
 | p :: r=>p.1 :: p.2 :: CV r
inductive Built {K K':Type} [DecidableEq K] [DecidableEq K'] (knd:KeyKind pg C.w K') (f:K→K') (W:Wd) (ps:List (c5×c5)) (es:List (K×V)):Prop
 | mk (kv:List (K'×c5)):Carries knd ps kv→(kv.map (·.1)).Nodup→kv.length=es.length→(∀k,RGet W (look? es k) (valueAt kv (f k)))→Built knd f W ps es
section
variable {K K':Type} [DecidableEq K] [DecidableEq K'] {knd:KeyKind pg C.w K'} {f:K→K'}
theorem EJ {a:List (K'×c5)} {k:K'} (h:valueAt a k=b8):k∉a.map (·.1):=λhm=>(O1.mp hm).elim λp hp=>List.find?_eq_none.mp (Lb.mp h) p hp.1 (decide_eq_true hp.2)
theorem Ra {key:V→Option K} (O:∀{v x k},VR W v x→key v=b6 k→knd.is (f k) x=true) (j:∀a b,f a=f b→a=b):∀(ps:List (c5×c5)) {vs es},VRs W vs (CV ps)→kvs? key vs=b6 es→Built knd f W ps es:=
 A3 (λ{vs es} r e=>by
   cases vs with
   | nil=>exact k7 e▸ .mk [] trivial xu rfl λz=> .nil
   | cons=>exact nomatch r)
  λp ps ih {vs es} r e=>by
   cases vs with
   | nil=>exact nomatch r
   | cons v vs=>cases vs with
    | nil=>exact e6 e
    | cons w vs=>cases r with
     | mk x xs N r=>cases r with
      | mk y ys n r=>
       refine l6 (s:=b8) (P:=λo=>o=b6 es→Built knd f W (p :: ps) es) (λe=>e6 e) (λk g=>l6 (s:=b8) (P:=λo=>o=b6 es→Built knd f W (p :: ps) es) (λe=>e6 e) λes' he e=>?_) e;cases i:look? es' k with
       | some u=>exact nomatch (iP (cG rP i)).symm.trans e
       | none=>
        have l:¬(look? es' k).isSome=true:=λh=>O0 ((cG rP i).symm.trans h);have e:=k7 ((iN l).symm.trans e);cases ih r he with
        | mk m a b c d=>
         exact e▸ .mk ((f k,p.2) :: m) ⟨O N g,rfl,a⟩ (xr.mpr ⟨EJ (RGet.toN (i▸d k)),b⟩) (cG jM c) λq=>by
          rw [pu,valueAt,List.find?_cons];exact if h:k=q then (iP h).symm▸(decide_eq_true (cG f h):decide (f k=f q)=true).symm▸ .val w _ n else (iN h).symm▸(decide_eq_false (λh'=>h (j _ _ h')):decide (f k=f q)=false).symm▸d q
theorem Built.dict {h:j5} {d:d4} {ps:List (c5×c5)} {es:List (K×V)} {i:List (K'×c5)} (hm:h.DictOf knd d i) (c:i.length=es.length) (g:∀k,RGet W (look? es k) (valueAt i (f k))):RDict knd f W h d es:=
 have m:=hm.mapOf
 hm.elim λo h=>h.elim λds h=>h.elim λY h=> .mk o ds Y h.1 h.2.1 h.2.2.1 h.2.2.2.1 (w2 ((xA (xs:=ds)).symm.trans (h.2.2.2.2.1.length.trans c))) λk=>by
  obtain ⟨o',j,l,a,_,b,_,e⟩:=m;cases h.1.symm.trans a;cases h.2.2.1.symm.trans b;exact (e (f k)).symm▸g k
end
def SP (z:Z a st) (t:j9 (List (c5×c5))) (r:ResL):Prop:=∀Q E,PostL z E r (λxs s=>∀ps,xs=CV ps→Q ps s)→c7 C.M a.A t Q E z.s
theorem PostL.map {Q Q':List c5→d0→Prop} (k:∀xs s,Q xs s→Q' xs s):∀{r},PostL z E r Q→PostL z E r Q':=λ{r}=>ResL.casesOn r (λa a p z' x u e=>k _ _ (p z' x u e)) (λa a=>id) id
theorem PostL.cons' {Q:List c5→d0→Prop} (h:VR z.W v x):∀{R},PostL z E (ResL.cons v R) Q→PostL z E R (λxs s=>Q (x :: xs) s):=λ{R}=>ResL.casesOn R (λvs st' p z' xs u e=>p z' (x :: xs) u (.mk x xs (u.vr h) e)) (λa a p=>p) id
structure OKkv (G:TC) (cs:CEs) (ks:List (Option f6)) (vs:List f6):Prop where
 e:∀{C:Cx} {a:Ar C} {st:St} (z:Z a st) {env:i5} {ρ:Loc} (pos:n5),Cn G z env ρ→SP z (evalPairs (pairTrees ks vs env pos)) (a.evs cs ρ st)
 all:ks.all (·.isSome)=true
 len:ks.length=vs.length
section
variable {G:TC} {pos:n5} {c d:CE} {cs:CEs} {e e':f6} {ks:List (Option f6)} {es:List f6}
theorem DR:OKkv G .nil [] []:=⟨λz a a a a a a p=>pairTrees_nil_walk (p z [] (.refl z) rfl [] rfl),rfl,rfl⟩
theorem yu (h:OK2 G c e) (h':OK2 G d e') (j:OKkv G cs ks es):OKkv G (.cons c (.cons d cs)) (b6 e :: ks) (e' :: es) where
 e z _ _ pos L Q E p:=pairTrees_cons_walk ((h.e z L).qL p λv f z₁ x u r p=>(h'.e z₁ (L.to u)).qL (p.cons' r) λw f z₂ y b a p=>j.e z₂ pos ((L.to u).to b) _ E ((p.cons' a).map λxs s h ps q=>h ((x,y) :: ps) (cG (x :: y :: ·) q)))
 all:=j.all
 len:=cG jM j.len
abbrev emptyO:Obj:={cls:= .type "dict",data:= .dict #[]}
theorem Uc {K K':Type} [DecidableEq K] [DecidableEq K'] {knd:KeyKind pg C.w K'} {f:K→K'} {key:V→Option K} {mk:List (K×V)→AObj} {env:i5} {Q:c5→d0→Prop} (O:∀{W v x k},VR W v x→key v=b6 k→knd.is (f k) x=true) (y:∀a b,f a=f b→a=b)
  (q:∀{W h p es},RDict knd f W h p es→OR C W h p (mk es)) (h:OKkv G cs ks es) (n:ks≠ []) (c:ks.length≤15) (t:SP (z.newOwn emptyO rfl) (evalPairs (pairTrees ks es env pos)) (.ok vs H))
  (p:Post z E (c8 ((kvs? key vs).map mk) .stuck λo=> .ok (.ref H.length) (H++ [o])) Q):c7 C.M a.A (eval (.Dict ks es pos) env) Q E z.s:=by
 cases hv:kvs? key vs with
 | none=>rw [hv] at p;exact p.elim
 | some ds=>
  rw [hv] at p;refine wpAny_Dict_walk (knd:=knd) h.all h.len n c (t _ _ λz₂ xs u r ps d=>?_);cases Ra O y ps (d▸r) hv with
  | mk g i j l m=>
   have hd:z₂.W z.h.objs.size=b6 (.own emptyO):=u.ext _ _ j6;refine ⟨g,i,?_,λh' hm hs=>p (z₂.adopt z.h.objs.size (mk ds) h' (z₂.t+ps.length) hd (z.inv.high (i0 _)) (B6 hs) (q (Built.dict (ps:=ps) (merged_nil_of_nodup g j▸hm) l λk=>(m k).map λe e e=>VR.mono (Lu hd)))) _ (.adopted (To.trans .immd u) z.fresh) (.mk _ j6)⟩;exact ⟨_,#[],0,z₂.inv.at_ _ _ hd,⟨rfl,rfl,rfl⟩,rfl,(λe he=>nomatch he),.nil,xu⟩
theorem Dv:OK2 G (.dict .nil) (.Dict [] [] pos):=EOK.ok (λz a a a a a p=>wpAny_Dict_empty (p (z.alloc z.h.objs.size (.dict []) _ z.t (i0 _) X5 (.mk _ #[] 0 (aS _ rfl) ⟨rfl,rfl,rfl⟩ rfl (λa he=>nomatch he) (T3 _) λa=> .nil)) _ .alloced (.mk _ j6))) (λa a=>rfl) (by constructor <;> intros <;> rfl)
theorem xV {W:Wd} {v:V} {x:c5} {k:List Nat} (r:VR W v x):uV v=b6 k→(strKind pg C.w).is (c6 k) x=true:=VR.str (P:=λx o=>o=b6 k→(strKind pg C.w).is (c6 k) x=true) r (λz e=>e6 e) λi t e=>k7 e▸M2 i t
theorem zU {W:Wd} {v:V} {x:c5} {k:Int} (r:VR W v x):uj v=b6 k→(intKind pg C.w).is k x=true:=VR.int (P:=λx o=>o=b6 k→(intKind pg C.w).is k x=true) r (λz e=>e6 e) λi t e=>k7 e▸gX i t
theorem GN (h:OKkv G cs ks es) (d:ks≠ []) (c:ks.length≤15):OK2 G (.dict cs) (.Dict ks es pos):=EOK.ok (λ{C a st} z env ρ L Q E p=>by
 have t:=h.e (z.newOwn emptyO rfl) pos (L.to .immd);have p:Post z E ((a.evs cs ρ st).bind λvs st=>E6 vs st) Q:=p;generalize a.evs cs ρ st=r at t p;have S:∀{vs H},SP (z.newOwn emptyO rfl) (evalPairs (pairTrees ks es env pos)) (.ok vs H)→Post z E (c8 ((kvs? uV vs).map .dict) .stuck λo=> .ok (.ref H.length) (H++ [o])) Q→c7 C.M a.A (eval (.Dict ks es pos) env) Q E z.s:=Uc xV (λb b=>Q9) id h d c;exact ResL.casesOn (motive:=λr=>SP (z.newOwn emptyO rfl) (evalPairs (pairTrees ks es env pos)) r→Post z E (r.bind λvs st=>E6 vs st) Q→c7 C.M a.A (eval (.Dict ks es pos) env) Q E z.s) r
  (λvs b=>H7 vs S λv l=>V.casesOn v (λb p=>p.elim) (λb b p=>p.elim) (λi t p=>Uc (mk:= .idict) (key:=uj) (f:=id) zU (λb b=>id) id h d c t p) (λb=>S) (λb b p=>p.elim) (λb b b p=>p.elim) (λb b p=>p.elim) (λb b b p=>p.elim) (λb b p=>p.elim) (λb b p=>p.elim) (λb b p=>p.elim) (λb b p=>p.elim))
  (λb b t p=>wpAny_Dict_walk (knd:=strKind pg C.w) h.all h.len d c (t _ _ (PostL.to (r:= .bad _ _) .immd p))) (λb p=>p.elim) t p) (λb b=>rfl) (by constructor <;> intros <;> rfl)
theorem UW:∀{v},VR z.W v x→SE z (formatField x c9.empty) (uF v st):=λ{v}=>
 V.casesOn v (λa=> .no) (λa a=> .no) (λi r=>by cases r with | mk t=>exact .ite λhz Q E p=>wpAny_formatField_int (ky hz) (kB i▸p.tok _ (.mk _)))
  (λs r=>by cases r with | mk t=>exact .ite λhz Q E p=>wpAny_formatField_str (p.ok (.mk t)) (p.tok _ (.mk _)) (j8 s▸sz hz))
  (λa a=> .no) (λa a a=> .no) (λa a=> .no) (λa a a=> .no) (λa a=> .no) (λa a=> .no) (λa a=> .no) (λa a=> .no)
theorem Pu (h:OK2 G c e):OK2 G (.fmt c) (.FormattedValue e (-1) b8 pos):=EOK.ok (λz a a L a a p=>wpAny_FormattedValue_plain ((h.e z L).q p λv a z₁ x u r p=>UW r _ _ p)) (λa a=>rfl) (by constructor <;> intros <;> rfl)
theorem iV (s:List Nat):∀ss,v8 [] (s :: ss)=s++v8 [] ss:=λss=>H7 ss (P0 s).symm λt r=>cG (·++v8 [] (t :: r)) (P0 s)
theorem yk:∀ss,(v8 [] ss).length=l0 ss:=A3 rfl λs ss ih=>(cG oB (iV s ss)).trans (u3.trans (cG (s.length+ ·) ih))
def PF (z:Z a st) (st':St) (acc:List Nat) (Q:c9→d0→Prop) (o:Option (List (List Nat))):Prop:=c8 o False λss=>acc.length+l0 ss≤sizeLim∧∀z':Z a st',To z z'→Q (c6 (acc++v8 [] ss)) z'.s
def PostF (z:Z a st) (r:ResL) (acc:List Nat) (Q:c9→d0→Prop):Prop:=ResL.casesOn r (λvs st'=>PF z st' acc Q (strs? vs)) (λb b=>False) False
inductive PartP (z:Z a st) (x:c5) (R:ResL) (acc:List Nat) (Q:c9→d0→Prop):Prop
 | mk (s t):x= .str (c6 s) t→acc.length+s.length≤sizeLim→PostF z R (acc++s) Q→PartP z x R acc Q
section
variable {acc s:List Nat} {Q:c9→d0→Prop} {st':St}
theorem PF.cons:∀{o},PF z st' acc Q (o.map (s :: ·))→acc.length+s.length≤sizeLim∧PF z st' (acc++s) Q o:=λ{o}=>aQ o (λp=>p.elim) λss p=>
 have h:=d3 (w2 (A2 acc.length s.length (l0 ss))) p.1
 ⟨d3 (A7 ..) h,d3 (w2 (cG (·+l0 ss) u3)) h,λz' u=>(cG c6 ((cG (acc++·) (iV s ss)).trans (e7 acc s _).symm):c6 (acc++v8 [] (s :: ss))=_)▸p.2 z' u⟩
theorem PF.to {z₁:Z a H} (u:To z z₁):∀{o},PF z st' acc Q o→PF z₁ st' acc Q o:=λ{o}=>aQ o id λss p=>⟨p.1,λz' t=>p.2 z' (u.trans t)⟩
theorem PF.of {Q:c5→d0→Prop}:∀{o},Post z E (c8 o .stuck λss=>if l0 ss≤sizeLim then .ok (.str (v8 [] ss)) st' else .stuck) Q→PF z st' [] (λout s₁=>out.length≤bH∧Q (.str out s₁.toks) {s₁ with toks:=s₁.toks+1}) o:=λ{o}=>
 aQ o (λp=>p.elim) λss=>C3 (P:=λr=>Post z E r Q→PF z st' [] _ (b6 ss)) (λp=>p.elim) λhz p=>
  ⟨d3 (w2 (gC _)) hz,λz' u=>⟨d3 (w2 ((j8 _).trans (yk ss))) (sz hz),(p.to u).tok _ (.mk _)⟩⟩
theorem PostF.cons (h:VR z.W v x):∀{R},PostF z (ResL.cons v R) acc Q→PartP z x R acc Q:=λ{R}=>ResL.casesOn R (λvs st' p=>VR.str (s:=Option.none) (f:=λs=>(strs? vs).map (s :: ·)) (P:=λx o=>PF z st' acc Q o→PartP z x (.ok vs st') acc Q) h (λa p=>False.elim p)
  (λs t p=> .mk s t rfl p.cons.1 p.cons.2) p) (λa a p=>p.elim) λp=>p.elim
theorem PostF.to {z₁:Z a H} (u:To z z₁):∀{r},PostF z r acc Q→PostF z₁ r acc Q:=λ{r}=>ResL.casesOn r (λvs st' p=>PF.to u p) (λb b p=>p) id
theorem SE.qF {t:j9 c5} {g:V→St→ResL} {K:c5→d0→Prop}:∀{r},SE z t r→PostF z (r.bindL g) acc Q→(∀v H (z₁:Z a H) x,To z z₁→VR z₁.W v x→PostF z₁ (g v H) acc Q→K x z₁.s)→c7 C.M a.A t K E z.s:=λ{r}=>
 Res.casesOn r (λv st' h p k=>h K E λz' x u e=>k v st' z' x u e (p.to u)) (λb b b p b=>p.elim) (λb b h p b=>p.elim) λb p b=>p.elim
end
def Fd (G:TC) (cs:CEs) (es:List f6):Prop:=∀{C:Cx} {a:Ar C} {st:St} (z:Z a st) {env:i5} {ρ:Loc} {acc Q E},Cn G z env ρ→PostF z (a.evs cs ρ st) acc Q→Joins C.M a.A E (evalEach es env) (c6 acc) Q z.s
theorem Hq:Fd G .nil []:=λz a a acc Q a a p=>V4 (motive:=λl=>Q (c6 l) z.s) (p.2 z (.refl z)) (P0 acc)
theorem ED (h:OK2 G c e) (j:Fd G cs es):Fd G (.cons c cs) (e :: es):=λz a a acc a a L p=>(h.e z L).qF p λv a z₁ x u r p=>by
 cases p.cons r with
 | mk s t ex hz p=>exact ⟨c6 s,t,ex,Q2 acc s▸(j8 (acc++s)).symm▸sz (d3 (w2 u3) hz),Q2 acc s▸j z₁ (L.to u) p⟩
theorem HT {Q:c5→d0→Prop}:∀{r},Post z E (kF r) Q→PostF z r [] (λout s₁=>out.length≤bH∧Q (.str out s₁.toks) {s₁ with toks:=s₁.toks+1}):=λ{r}=>ResL.casesOn r (λa a p=>PF.of p) (λa a p=>p) λp=>p
theorem Js {cs:CEs} {e':f6} (h:Fd G cs (e :: e' :: es)):OK2 G (.fstr cs) (.JoinedStr (e :: e' :: es) pos):=EOK.ok (λz a a L a a p=>wpAny_JoinedStr (h z (acc:= []) L (HT p))) (λa a=>rfl) (by constructor <;> intros <;> rfl)
end
end
section
open Builtin.ObjectAttr
variable {C:Cx} {a:Ar C} {st H:St} {z:Z a st} {W:Wd} {v w:V} {x y:c5} {E:c5→d0→Prop}
theorem ES (self:c5):bindSpecial (.builtin "BaseException.__getattribute__") self=pure (.builtin "BaseException.__getattribute__",[self]):=
 (Slot.of (T:= "BaseException") (name:= "__getattribute__") (owner:= "BaseException") (n:= "__getattribute__") (by rw [typeLookup_type,builtinLookup_eq_fast];kernel_rfl) (by decide +kernel) (by decide +kernel) (by decide +kernel)
  (.inl (by decide +kernel)) (by rw [isSubtype_type];kernel_rfl)).bind self
theorem jU {prog:mj} {w:D8} {A:q8} {s:d0} {K:Frag} {x C:d4} {p:f7} {od:Option f7} {name:c9} {e:Bool} {Q:c5→d0→Prop} {v:c5} (X:K.In s.heap) (I:InstAt s.heap x p C od)
  (b:findIn K (.ref C) "__getattribute__" =b6 (b6 (.builtin "BaseException.__getattribute__"))) (c:findIn K (.ref C) "__getattr__" =b6 b8) (m:mroIn K C (.type "BaseException")=b6 true)
  (n:findObj K C od name=b6 (.value v)) (o:handedIn v=true) (h:Q v {s with toks:=s.toks+1}):c7 (J6 prog w) A (PySem.getAttr (.ref x) name e) Q E s:=by
 obtain ⟨hp,g,d,t,os⟩:=s;have L:=I.type (M:=J6 prog w);have i:=looks_findIn (M:=J6 prog w) X b;have j:=looks_findIn (M:=J6 prog w) X c;have k:=looks_find (M:=J6 prog w) X I n;have l:Looks (J6 prog w) hp (isInstance (.ref x) (.type "BaseException")) true:=L.andThen (looks_mroIn X m);delta PySem.getAttr getAttrBy;refine d1 (wpAny_mkText (v9 (d1 (L.at (d1 (i.at ?_))))));show c7 _ _ (getAttrByItsOwn _ _ _ _ _ _) _ _ _;delta getAttrByItsOwn;refine d1 (j.at ?_)
 have f:(e&&onTheHeap (c5.builtin "BaseException.__getattribute__"))=false:=by cases e <;> rfl
 have a:callGetattribute (.ref x) (.str name t) (.builtin "BaseException.__getattribute__") e=boundAndCalled (.builtin "BaseException.__getattribute__") (.ref x) (.str name t):=by
  delta callGetattribute;rw [f];rfl
 rw [a];delta boundAndCalled;rw [ES];refine d1 (wpAny_attempt (v9 (d1 (g9 ?_))));refine dN (codeAny_call_builtin (by decide +kernel) F.entry_bexc_ga (@check_slot (J6 prog w) _ _ _ "BaseException.__getattribute__" "BaseException" "__getattribute__" (.ref x) [.str name t] [] _ (by decide +kernel) (by decide +kernel) l (F.args_bexc_ga _ _) ?_));delta Builtin.«object.__getattribute__»;refine d1 (g9 (d1 (g9 (d1 (L.at (d1 (k.at ?_)))))));refine g9 ?_;show c7 _ _ (handedOut v) _ _ _;rw [handedOut_of o];exact g9 h
theorem lI {o:f7} {ds:Array P8} {Y:Nat} (hd:o.data= .dict ds Y) (O:StrKeys ds) (name:c9):lookIn name o=b6 (E8 ds name):=by
 delta lookIn E8 findBy;rw [hd];dsimp only;rw [← Array.find?_toList];cases a:ds.toList.find? (λe=>e.key.isStr name) with
 | some e=>rfl
 | none=>
  dsimp only;refine iN λh=>?_;obtain ⟨e,he,j⟩:=List.any_eq_true.mp h;obtain ⟨n,t,m⟩:=O e (JG.mp he);rw [P8.refKey,m] at j;cases j
theorem kJ:∀{v x},VR W v x→handedIn x=true:=λ{v x}=>
 have q {x y:c5} (h:handedIn y=true) (e:x=y):handedIn x=true:=e▸h
 V.casesOn v (q rfl) (λz=>q rfl) (λz r=>by cases r with | mk=>rfl) (λz r=>by cases r with | mk=>rfl) (λz r=>by cases r with | mk=>rfl) (λz z r=>by cases r with | mk=>rfl) (λz r=>by cases r with | mk=>rfl) (λz z r=>by cases r with | mk=>rfl)
  (λz=>q rfl) (λz=>q rfl) (λb=>q (by cases b <;> first | rfl | decide +kernel)) λz r=>by cases r with | mk=>rfl
inductive FldAt (z:Z a st) (d:d4) (name:List Nat) (v:V):Prop
 | mk (o y):z.h.get? d=b6 o→lookIn (c6 name) o=b6 (b6 y)→VR z.W v y→FldAt z d name v
theorem RNs.fld {d:d4} {es:List (List Nat×V)} {name:List Nat} (r:RNs z.W z.h d es) (e:look? es name=b6 v):FldAt z d name v:=by
 cases r with
 | mk o ds Y a b hd O hs hg=>
  have g:=hg name;have l:=lI hd O (c6 name);rw [e] at g;generalize E8 ds (c6 name)=u at g l;cases g with | val v y r=>exact .mk o y a l r
theorem qK {K:Frag}:∀{o:Option (Option c5)},(match o with | some a=>noGet K a | none=>false)=true→∃a,o=b6 a∧noGet K a=true:=λ{o}=>aQ o (λh=>nomatch h) λa h=>⟨a,rfl,h⟩
theorem Z.kin (z:Z a st):C.K.In z.s.heap:=C.kin.keeps z.inv.keep0
theorem xQ {name:List Nat} {c n:Nat} {p d:d4} (hp:z.W p=b6 (.imm (instObj c d))) (hd:z.W d=b6 (.tr n)):SE z (PySem.getAttr (.ref p) (c6 name) true) (getAttr b7.tabs name (.inst c n) st):= .ite λhm=>z.ns hd .no λes i e=> .some λv f Q E q=>by
 have h:=q7.mp (C.attr _ hm).1;have h':=q7.mp h.1;obtain ⟨u,a,g⟩:=qK h.2;cases e.fld f with
 | mk o y b l r=>exact get_value z.kin ⟨z.I _ _ hp,rfl,rfl,b⟩ (plainGet_of h'.1).1 (findObj_own h'.2 a g l) (kJ r) (q.tok _ r)
theorem Dh {name:List Nat} {n:Nat} {p d:d4} {o:f7} (hp:z.W p=b6 (.imm o)) (hd:z.W d=b6 (.tr n)) (g:o.cls= .ref XC) (a:o.dict=b6 d) (b:notCls o=true):SE z (PySem.getAttr (.ref p) (c6 name) true) (getAttr b7.tabs name (.exc n) st):= .ite λhm=>z.ns hd .no λes s m=> .some λv i Q E q=>by
 have h:=q7.mp (C.xattr _ hm);have h1:=q7.mp h.1;have c:=q7.mp h1.1;have e:=q7.mp c.1;obtain ⟨u,f,j⟩:=qK h.2;cases m.fld i with
 | mk o' y k l r=>exact jU z.kin ⟨z.I _ _ hp,g,b,by rw [a];exact k⟩ (of_decide_eq_true e.1) (of_decide_eq_true e.2) (of_decide_eq_true c.2) (findObj_own h1.2 f j l) (kJ r) (q.tok _ r)
theorem lG {name:List Nat}:∀{v},VR z.W v x→SE z (PySem.getAttr x (c6 name) true) (getAttr b7.tabs name v st):=λ{v}=>
 V.casesOn v (λa=> .no) (λa a=> .no) (λa a=> .no) (λa a=> .no) (λa a=> .no) (λa a a=> .no) (λa a=> .no)
  (λc n r=>by cases r with | mk p d hp hd=>exact xQ hp hd) (λa a=> .no) (λa a=> .no) (λa a=> .no)
  (λn r=>by cases r with | mk p o d hp hd e h b=>exact Dh hp hd e h b)
theorem HR {G:TC} {pos:n5} {c:CE} {e:f6} {n:c9} (h:OK2 G c e) (b:∀n env w,mc e n env w=w):OK2 G (.attr (u8 n) c) (.Attribute e n pos):=EOK.ok (λz env a L Q E p=>by
 rw [arm_eval_Attribute,b]
 exact d1 ((h.e z L).q p λv a z₁ x u r p=>d1 (M0 (d1 (v9 (aT (lG r _ _ p) (λa a q=>d1 (wpAny_letTemporaryGo (g9 q))) λa a q=>q)))))) (λa a=>rfl) (by constructor <;> intros <;> rfl)
section
variable {c:c5} {d:Option d4} {ds:Array P8} {Y i:Nat} {sl:Array (Option c5)} {name:c9} {h:Int} {key:c5}
theorem ut (hi:ds.findIdx? (·.key.isStr name)=b6 i):f7.putName name h key y ⟨c,d,.dict ds Y,sl⟩=⟨c,d,.dict (ds.modify i λe=>{e with val:=y}) Y,sl⟩:=by
 rw [f7.putName_eq,f7.putNameByArray,hi]
theorem rC (hi:ds.findIdx? (·.key.isStr name)=b8):f7.putName name h key y ⟨c,d,.dict ds Y,sl⟩=⟨c,d,.dict (ds.push ⟨h,key,y⟩) (Y+1),sl⟩:=by
 rw [f7.putName_eq,f7.putNameByArray,hi]
end
theorem yq (name:c9) (t:Tok) (q:c9):(c5.str name t).isStr q=decide (q=name):=(nY name q).trans (decide_eq_decide.mpr eq_comm)
theorem X7 {M:K9} {A:q8} {s:d0} {p:d4} {o:f7} {ds:Array P8} {Y:Nat} {k:c9} {Q:Unit→d0→Prop} (r:s.heap.get? p=b6 o) (hd:o.data= .dict ds Y) (O:StrKeys ds)
  (G:∀h' j l,h'.get? p=b6 {o with data:= .dict j l}→StrKeys j→(j.size≤ds.size∨E8 ds k=b8∧j.size=ds.size+1)→(∀x,E8 j x=if x=k then b6 y else E8 ds x)→aR p s.heap h'→Q () {s with heap:=h',toks:=s.toks+1}):c7 M A (nsSet p k y) Q E s:=λw p' _=>by
 have m:ds.any (·.refKey)=false:=KT.mpr λe he h=>(O e he).elim λn q=>q.elim λt q=>O0 ((cG c5.onHeap q).symm.trans h);delta nsSet strHash;simp only [j9.wp_bind',j9.wp_cmd_ask,j9.wp_pure',j9.wp_cmd_mkText];rw [j9.wp_loadPart_of M w _ p' {s with toks:=s.toks+1} (o:=o) _ r];simp only [hd,aRefKeyMayBeTheName_eq,aRefKeyMayBeTheNameByArray,m,Bool.and_false,bF,if_false,j9.wp_cmd_updatePart];refine ⟨r▸rfl,?_⟩;obtain ⟨c,d,z,sl⟩:=o;subst hd;have go:∀{f:f7→f7} {j:Array P8} {l:Nat},f ⟨c,d,.dict ds Y,sl⟩=⟨c,d,.dict j l,sl⟩→StrKeys j→(j.size≤ds.size∨E8 ds k=b8∧j.size=ds.size+1)→(∀x,E8 j x=if x=k then b6 y else E8 ds x)→Q () {s with heap:=s.heap.update p f,toks:=s.toks+1}:=λu a b g=>
  G _ _ _ ((aU _ r (cG f7.isFreed u)).trans (cG b6 u)) a b g (gg ..)
 cases hi:ds.findIdx? (·.key.isStr k) with
 | some i=>exact go (ut hi) (O.modify _ _) (.inl (w2 KY)) λx=>findBy_modify (λn v=>v.isStr n) c5.isStr_inj ds k x y i hi
 | none=>exact go (rC hi) (O.push _ _ _ _) (.inr ⟨by delta E8;rw [findBy_of_findIdx?,hi],JE ..⟩) λx=>findBy_push (λn v=>v.isStr n) ds k x _ _ y (yq _ _) hi
theorem CZ {M:K9} {A:q8} {s:d0} {p:d4} {es:List (List Nat×V)} {k:List Nat} {Q:Unit→d0→Prop} (r:RNs W s.heap p es) (hz:es.length≤bH) (e:VR W v y)
  (G:∀h' o ds Y,h'.get? p=b6 o→o.data= .dict ds Y→ds.size≤es.length+1→aR p s.heap h'→RNs W h' p (A4 es k v)→Q () {s with heap:=h',toks:=s.toks+1}):c7 M A (nsSet p (c6 k) y) Q E s:=by
 cases r with
 | mk o ds Y d c hd O hs hg=>
  refine X7 d hd O λh' j l a f b g u=>?_;have h:j.size≤(A4 es k v).length:=b.elim (λq=>d3 q (d3 hs (bh es).1)) λq=>d3 (w2 q.2) (d3 (Z1 hs) (w2 ((bh es).2.2 (RGet.no (q.1▸hg k))).symm));exact G h' _ j l a rfl (d3 h (bh es).2.1) u (.mk _ j l a c rfl f h λx=>(g (c6 x)).symm▸RGet.put (g:=E8 ds) (λz z=>Q9) e (hg x))
theorem wH {K:Type} [DecidableEq K] {es:List (K×V)} {x:K} {k:Nat} (he:∀q w,look? es q=b6 w→w.und k) (h:v.und k):∀q w,look? (A4 es x v) q=b6 w→w.und k:=λq w e=>
 if m:q=x then k7 ((iP m).symm.trans ((cp es).symm.trans e))▸h else he q w ((iN m).symm.trans ((cp es).symm.trans e))
theorem Fg {name:List Nat} {c n:Nat} {p d:d4} {Q:Unit→d0→Prop} (hp:z.W p=b6 (.imm (instObj c d))) (hd:z.W d=b6 (.tr n)) (F:VR z.W v y) (hm:(c,name)∈b7.tabs.attrs) {es:List (List Nat×V)} (hg:st[n]?=b6 (.ns es)) (u:(v.flat=true∨a.slf=b6 n)∧es.length < 1000)
  (q:∀z':Z a (st.set n (.ns (A4 es name v))),To z z'→Q () z'.s):c7 C.M a.A (PySem.setAttr (.ref p) (c6 name) y) Q E z.s:=by
 have w:RNs z.W z.h d es:=(z.inv.at_ _ _ hd).2 _ hg;have ⟨od,l⟩:∃o,z.h.get? d=b6 o:=by cases w with | mk o _ _ a=>exact ⟨o,a⟩
 have h1:=q7.mp (C.attr _ hm).2;have m:=q7.mp h1.1;have t:=q7.mp m.1;have I:InstAt z.s.heap p (instObj c d) c (b6 od):=⟨z.I _ _ hp,rfl,rfl,l⟩
 refine set_plain z.kin I (of_decide_eq_true h1.2) (osa_open (s:={z.s with toks:=z.s.toks+1}) z.kin I t.1 (of_decide_eq_true m.2) λb=>?_);obtain ⟨J,x,f⟩:=any_some t.2;refine d1 (g9 (d1 (d1 (xm (z.I _ _ hp) (d1 (looks_clsIn z.kin x _ _ _ _ (λH H e=>e) ?_))))));rw [f];have hsz:es.length+1≤sizeLine:=d3 u.2 (by rw [bG];decide);exact g9 (a:=b6 d) (d1 (g9 (d1 (CZ (s:={z.s with toks:=z.s.toks+1}) w (dO hsz) F λh' o ds Y B g hz G r=>
  d1 (wpAny_lookBehind B (by rw [g];exact pastItsLine_dict (fy (d3 hz hsz))) (g9 (q (z.set n d (.ns (A4 es name v)) h' _ hd (B6 G) r) (.setd λk i j D=>wH (D _ hg) (u.1.elim V.und_flat λe=>absurd (i n e) (Nat.not_le.mpr j)))))))))) 
theorem zb {name:List Nat} {c n:Nat} {st':St} {Q:Unit→d0→Prop} (r:VR z.W (.inst c n) x) (b:VR z.W v y) (q:∀z':Z a st',To z z'→Q () z'.s) (e:setAttr b7.tabs a.slf name (.inst c n) v st=b6 st'):c7 C.M a.A (PySem.setAttr x (c6 name) y) Q E z.s:=by
 cases r with
 | mk p d hp hd=>exact C3 (s:=b8) (P:=λo=>o=b6 st'→c7 C.M a.A (PySem.setAttr (.ref p) (c6 name) y) Q E z.s) (λe=>e6 e) (λhm=>z.ns (s:=b8) (P:=λo=>o=b6 st'→c7 C.M a.A (PySem.setAttr (.ref p) (c6 name) y) Q E z.s) hd (λe=>e6 e) λes hg f=>
   C3 (s:=b8) (P:=λo=>o=b6 st'→c7 C.M a.A (PySem.setAttr (.ref p) (c6 name) y) Q E z.s) (λe=>e6 e) λh e=>by cases e;exact Fg hp hd b hm hg h q) e
theorem lK {name:List Nat} {Q:Unit→d0→Prop} (d:VR z.W v y) {st':St} (q:∀z':Z a st',To z z'→Q () z'.s):∀{w},VR z.W w x→setAttr b7.tabs a.slf name w v st=b6 st'→c7 C.M a.A (PySem.setAttr x (c6 name) y) Q E z.s:=λ{w}=>
 V.casesOn (motive_1:=λw=>VR z.W w x→setAttr b7.tabs a.slf name w v st=b6 st'→c7 C.M a.A (PySem.setAttr x (c6 name) y) Q E z.s) w (λb e=>e6 e) (λb b e=>e6 e) (λb b e=>e6 e) (λb b e=>e6 e) (λb b e=>e6 e) (λb b b e=>e6 e) (λb b e=>e6 e)
  (λc n r e=>zb r d q e) (λb b e=>e6 e) (λb b e=>e6 e) (λb b e=>e6 e) (λb b e=>e6 e)
end
theorem Iy {name:List Nat} {c n f:Nat} {p d:d4} {i:j9 Bool} {Q:c5×List c5→d0→Prop} (hp:z.W p=b6 (.imm (instObj c d))) (hd:z.W d=b6 (.tr n)) (q:Q (.ref f,[.ref p]) z.s) (e:Y4 b7.tabs name (.inst c n) st=b6 f):c7 C.M a.A (aM (.ref p) (c6 name) i) Q E z.s:=
 z.ns (s:=b8) (P:=λo=>o=b6 f→c7 C.M a.A (aM (.ref p) (c6 name) i) Q E z.s) hd (λe=>e6 e) (λes m r e=>by
  cases r with
  | mk o ds Y j k b O hs hg=>
   have g:=hg name;have l:=lI b O (c6 name);generalize look? es name=u at e g;cases u with
   | some v=>exact e6 e
   | none=>
    have h1:=q7.mp (C.meth _ _ _ e);have h:=q7.mp h1.1;rw [g.toN] at l;exact method_fn (od:=b6 o) z.kin ⟨z.I _ _ hp,rfl,rfl,j⟩ (plainGet_of h.1).1 (plainGet_of h.1).2 (of_decide_eq_true h.2) (eq_of_beq h1.2) (cG (dK rP) l) q) e
theorem Ws {name:List Nat} {f:Nat} {i:j9 Bool} {Q:c5×List c5→d0→Prop} (q:Q (.ref f,[x]) z.s):∀{v},VR z.W v x→Y4 b7.tabs name v st=b6 f→c7 C.M a.A (aM x (c6 name) i) Q E z.s:=λ{v}=>
 V.casesOn (motive_1:=λv=>VR z.W v x→Y4 b7.tabs name v st=b6 f→c7 C.M a.A (aM x (c6 name) i) Q E z.s) v (λb e=>e6 e) (λb b e=>e6 e) (λb b e=>e6 e) (λb b e=>e6 e) (λb b e=>e6 e) (λb b b e=>e6 e) (λb b e=>e6 e)
  (λc n r e=>by cases r with | mk p d hp hd=>exact Iy hp hd q e) (λb b e=>e6 e) (λb b e=>e6 e) (λb b e=>e6 e) (λb b e=>e6 e)
theorem wD {G:TC} {cs:CEs} {es:List f6} {pos:n5} {env:i5} (h:OKs G cs es) (f:es.length≤8):methodCallForm (es.length+([]:List Keyword).length) (backTo pos (starEach es env)) (backToKw pos (keywordEach [] env))=true:=Ue h f
theorem Tq {G:TC} {pos apos:n5} {c:CE} {cs:CEs} {e:f6} {es:List f6} {n:c9} (h:OK2 G c e) (h':OKs G cs es) (i:es.length≤8) (l:(apos.endLine==pos.line)=true) (j:∀n env w,mc e n env w=w):OK2 G (.im (u8 n) c cs) (.Call (.Attribute e n apos) es [] pos):=
 EOK.ok (λ{C a st} z env ρ L=>show SE z _ (if a.N=0 then .stuck else _) from if g:a.N=0 then (iP g).symm▸ .no else (iN g).symm▸λQ E p=>by
  rw [arm_eval_Call,j];refine d1 ((h.e z L).q p λv b z₁ x u r p=>d1 (M0 ?_));have d:methodCallPos true e env apos pos=pure pos:=by delta methodCallPos;rw [l];rfl
  delta methodCall;rw [wD h' i,d];refine d1 (v9 ?_);show c7 _ _ (aM _ _ _) _ _ _;generalize hi:Y4 b7.tabs (u8 n) v _=o at p;cases o with
  | none=>exact p.elim
  | some f=>exact Ws (name:=u8 n) (d1 (g9 (fb (h'.plain env pos) (d3 (w2 ((u7 ..).trans (h'.len env))) (d3 i (by decide))) ((h'.e z₁ pos (L.to u)).q p λb b z₂ b m e' b p=>
    have k:=L.phi z₂ rfl rfl (bD g) (args:=v :: _) (.mk x _ (m.vr r) e') Q E p
    ⟨k.1,z₂.inv.keep0,k.2⟩)))) r hi) (λb b=>rfl) (by constructor <;> intros <;> rfl)
section
variable {G:TC} {env:i5} {ρ:Loc}
theorem t6 {x:c9}:∀{l:List (c9×B0)} {i:Nat} {k:B0},r4 l x=b6 (i,k)→l.lookup x=b6 k∧i < l.length∧(l[i]?).map (·.1)=b6 x:=λ{l}=>
 A3 (motive:=λl=>∀{i:Nat} {k:B0},r4 l x=b6 (i,k)→l.lookup x=b6 k∧i < l.length∧(l[i]?).map (·.1)=b6 x) (λh=>e6 h) (λp l ih {i k} h=>by
  rw [RU] at h;by_cases a:p.1=x
  ·cases (iP a).symm.trans h;exact ⟨by rw [jO,beq_iff_eq.mpr a.symm],uZ _,cG b6 a⟩
  ·refine l6 (s:=b8) (P:=λo=>o=b6 (i,k)→_) (λe=>e6 e) (λq m e=>?_) ((iN a).symm.trans h);cases e;exact ⟨by rw [jO,beq_eq_false_iff_ne.mpr (Ne.symm a)];exact (ih m).1,Nat.succ_lt_succ (ih m).2.1,(ih m).2.2⟩) l
theorem eV {x y:c9} {l:List (c9×B0)} {i:Nat} {k k':B0} (h:r4 l x=b6 (i,k)) (h':r4 l y=b6 (i,k')):x=y:=k7 ((t6 h).2.2.symm.trans (t6 h').2.2)
def Pl (env:i5) (p:d4):Prop:=p=env.locals∨∃x,env.cells.lookup x=b6 p
structure ToS (env:i5) (z:Z a st) (z':Z a st'):Prop where
 ext:∀p k,¬Pl env p→z.W p=b6 k→z'.W p=b6 k
 sub:Sub z.W z'.W
 grow:st.length≤st'.length
 keep:∀k,k≤st.length→(∀n,a.slf=b6 n→k≤n)→OldK k st→OldK k st'
theorem To.s {z':Z a st'} (u:To z z'):ToS env z z':=⟨λp k b=>u.ext p k,u.sub,u.grow,u.keep⟩
theorem ToS.refl (z:Z a st):ToS env z z:=(To.refl z).s
theorem ToS.trans {z₁:Z a H} {z':Z a st'} (x:ToS env z z₁) (y:ToS env z₁ z'):ToS env z z':=⟨λp k h e=>y.ext p k h (x.ext p k h e),x.sub.trans y.sub,d3 x.grow y.grow,λk O hs h=>y.keep k (d3 O x.grow) hs (x.keep k O hs h)⟩
inductive CellP (W:Wd) (env:i5) (x:c9) (o:Option V):Prop
 | mk (c ob vo):env.cells.lookup x=b6 c→W c=b6 (.own ob)→ob.data= .cell vo→(∀v,o=b6 v→∃y,vo=b6 y∧VR W v y)→CellP W env x o
structure LS (W:Wd) (G:TC) (env:i5) (ρ:Loc):Prop where
 fn:env.scope.kind= .function
 gl:env.globals=N9
 bi:env.builtins=jS
 inn:G.inner=b8
 nm:∀x,env.kindOf x=G.names.lookup x
 len:ρ.length=G.names.length
 frame:env.frame=b6 env.locals
 apart:∀x y c,env.cells.lookup x=b6 c→env.cells.lookup y=b6 c→x=y
 loc:∃es Y,W env.locals=b6 (.fr es Y)∧∀i x v,r4 G.names x=b6 (i,.local)→ρ[i]?=b6 (b6 v)→∃y,E8 es x=b6 y∧VR W v y
 cell:∀x j,r4 G.names x=b6 (j,.cell)→CellP W env x (ρ[j]?.join)
 all:∀p,Pl env p→∃k,W p=b6 k
theorem CellP.mono {W':Wd} {x:c9} {o:Option V} (hs:∀p k,W p=b6 (.own k)→W' p=b6 (.own k)) (s:Sub W W') (h:CellP W env x o):CellP W' env x o:=by
 cases h with | mk c ob f a b d e=>exact .mk c ob f a (hs _ _ b) d λv hv=>(e v hv).imp λy q=>⟨q.1,q.2.mono s⟩
theorem LS.to {z':Z a st'} (u:To z z') (S:LS z.W G env ρ):LS z'.W G env ρ:={S with
 loc:=S.loc.elim λes h=>h.elim λY h=>⟨es,Y,u.ext _ _ h.1,λi x v b hv=>(h.2 i x v b hv).imp λy q=>⟨q.1,u.vr q.2⟩⟩
 cell:=λx j b=>(S.cell x j b).mono (λp k=>u.ext p _) u.sub
 all:=λp hp=>(S.all p hp).imp λk=>u.ext p k}
theorem NV {i:Nat} {x:c9} (hi:G.inner=b8) (h:G.idx x=b6 i):r4 G.names x=b6 (i,.local)∨r4 G.names x=b6 (i,.cell):=by
 delta TC.idx at h;rw [hi] at h;exact l6 (s:=b8) (P:=λo=>o=b6 i→_) (λe=>e6 e) (λq m e=>by
  obtain ⟨j,k⟩:=q;cases k with
  | «local»=>cases e;exact .inl m
  | cell=>cases e;exact .inr m
  | _=>exact e6 e) h
theorem LS.cn (S:LS z.W G env ρ) (P:P5 C a.N a.d a.Φ):Cn G z env ρ where
 phi:=P
 fn:=S.fn
 gl:=S.gl
 bi:=S.bi
 nm x h:=(S.nm x).trans (by delta TC.look at h;rw [S.inn] at h;exact h)
 inr _:=⟨S.len,λx j h=>⟨(S.nm x).trans (t6 h).1,by cases S.cell x j h with | mk c _ _ a=>exact ⟨c,a⟩⟩⟩
 rd i x v _ h e:=(NV S.inn h).elim (λh=>S.loc.elim λes q=>q.elim λY q=>(q.2 i x v h e).elim λy r=> .loc es Y y ((S.nm x).trans (t6 h).1) q.1 r.1 r.2)
  λh=>by cases S.cell x i h with | mk c o f a b d g=>exact (g v (cG FC e)).elim λy r=> .cell c o y (.inl ((S.nm x).trans (t6 h).1)) a b (r.1▸d) r.2
def Z.wr (z:Z a st) (I:d4) (es':Array P8) (l:Nat) (h':j5) (g:Nat) {es:Array P8} {Y:Nat} (f:z.W I=b6 (.fr es Y)) (hg:∀p o,p≠I→z.h.get? p=b6 o→h'.get? p=b6 o) (O:FrAt h' I es' l):Z a st where
 W:=up z.W I (.fr es' l)
 h:=h'
 t:=g
 inv:=z.inv.move I E5 hg (λc s e=>False.elim (V4 (motive:=Kn.sh) s (k7 (f.symm.trans e)).symm)) (i0 _) (λc c c c e=>e)
  (λk' e=>gc e▸O) (λn e=>nomatch gc e) λn h1 d=>absurd d (ae.mpr h1)
 fr e he:=by cases z.fr e he with | mk L es Y a b=>exact (if h:L=I then .mk L es' l a (h▸j6) else .mk L es Y a ((E5 L h).trans b))
theorem Kj {I:d4} {k:Kn} {es:Array P8} {Y:Nat} (a:W I=b6 (.fr es Y)):Sub W (up W I k):=λp k' s e=>(E5 p λh=>V4 (motive:=Kn.sh) s (k7 (a.symm.trans (h▸e))).symm).trans e
theorem CellP.set {x:c9} {o:Option V} (h:CellP W env x o) {I:d4} {k:Kn} (f:∀c,env.cells.lookup x=b6 c→c≠I) (s:Sub W (up W I k)):CellP (up W I k) env x o:=by
 cases h with | mk c ob g a b d e=>exact .mk c ob g a ((E5 c (f c a)).trans b) d λv hv=>(e v hv).imp λy q=>⟨q.1,q.2.mono s⟩
theorem G0 {i j:Nat} {o:Option V} (h:i≠j):(ρ.set i o)[j]?=ρ[j]?:=QK h
theorem CellP.ne {x c:_} {o:Option V} {I:d4} {es:Array P8} {Y:Nat} (h:CellP W env x o) (d:W I=b6 (.fr es Y)) (f:env.cells.lookup x=b6 c):c≠I:=λe=>by
 cases h with | mk g ob v a b=>cases f.symm.trans a;exact nomatch (e▸b).symm.trans d
theorem jm {l:List (c9×B0)} {i j:Nat} {n x:c9} {k k':B0} (h:r4 l n=b6 (j,k)) (h':r4 l x=b6 (i,k')) (O:k≠k'):i≠j:=λe=>by
 cases e;cases eV h h';exact O (cG Prod.snd (k7 (h.symm.trans h')))
theorem W8 (S:LS z.W G env ρ) {i:Nat} {x:c9} (hx:r4 G.names x=b6 (i,.local)) (r:VR z.W v y) {Q:Unit→d0→Prop}
  {A:q8} (F:∀z':Z a st,ToS env z z'→LS z'.W G env (ρ.set i (b6 v))→Q () z'.s):c7 C.M A (storeName env x y) Q E z.s:=by
 obtain ⟨es,Y,hL,B⟩:=S.loc;rw [storeName_local ((S.nm x).trans (t6 hx).1) (by rw [S.fn];rfl)];cases z.inv.at_ _ _ hL with
 | mk o D d hd O=>
  refine X7 (s:=z.s) D hd O λh' es' l t f _ g H=>?_;have s:=Kj (k:= .fr es' l) hL;refine F (z.wr env.locals es' l h' _ hL (B6 H) (.mk _ t d rfl f)) ⟨λp k hp e=>(E5 p λh=>hp (.inl h)).trans e,s,i0 _,λw w w h=>h⟩
   {S with len:=vb.trans S.len,loc:=⟨es',l,j6,λj n u b hv=>?_⟩,cell:=λn j b=>(G0 (ρ:=ρ) (o:=b6 v) (jm b hx nofun)).symm▸(S.cell n j b).set (λc d=>(S.cell n j b).ne hL d) s,all:=λp hp=>if h:p=env.locals then ⟨_,iP h⟩ else (S.all p hp).imp λk=>(E5 p h).trans}
  rw [g];exact if m:n=x then by
   cases m;cases (k7 (b.symm.trans hx):(j,_)=(i,_));cases (xy (S.len.symm▸(t6 hx).2.1)).symm.trans hv;exact ⟨y,iP rfl,r.mono s⟩
  else (B j n u b ((G0 λe=>m (eV (e▸b) hx)).symm.trans hv)).imp λy q=>⟨(iN m).trans q.1,q.2.mono s⟩
theorem jk {env:i5} {x:c9} {v:c5} (f:env.kindOf x=b6 .cell) (a:env.scope.kind= .function):storeName env x v=(cellOf env x >>= λc=>cellSet c v):=by
 delta storeName;rw [f,a];rfl
theorem bO (S:LS z.W G env ρ) {i:Nat} {x:c9} (hx:r4 G.names x=b6 (i,.cell)) (r:VR z.W v y) {Q:Unit→d0→Prop}
  {A:q8} (L:∀z':Z a st,ToS env z z'→LS z'.W G env (ρ.set i (b6 v))→Q () z'.s):c7 C.M A (storeName env x y) Q E z.s:=by
 obtain ⟨es,Y,hL,J⟩:=S.loc;cases S.cell x i hx with
 | mk c ob N l H hd _=>
  have m:=z.inv.at_ _ _ H;have f:env.kindOf x=b6 .cell:=(S.nm x).trans (t6 hx).1;rw [jk f S.fn];refine d1 (wpAny_cellOf l ?_);delta cellSet;refine d1 (wpAny_load (s:=z.s) m ?_);rw [hd];have hg:=aU (λo=>{o with data:= .cell (b6 y)}) m rfl;let z':=z.re c (b6 {ob with data:= .cell (b6 y)}) (z.h.update c λo=>{o with data:= .cell (b6 y)}) z.t H (B6 (gg ..)) λF e=>k7 e▸hg;have n:Nx z z' c:= .re;refine wpAny_update (s:=z.s) m (L z' ⟨λp k hp=>n.ext p k λe=>hp (.inr ⟨x,e▸l⟩),n.sub,i0 _,λF F F h=>h⟩
   {S with len:=vb.trans S.len,loc:=⟨es,Y,n.ext _ _ (λe=>(S.cell x i hx).ne hL l e.symm) hL,λj q u g hv=>(J j q u g ((G0 (jm g hx nofun)).symm.trans hv)).imp λy q=>⟨q.1,q.2.mono n.sub⟩⟩,cell:=λq j g=>?_,all:=λp hp=>if h:p=c then ⟨_,iP h⟩ else (S.all p hp).imp λk=>n.ext p k h})
  exact if w:q=x then by
   cases w;cases (k7 (g.symm.trans hx):(j,_)=(i,_));exact .mk c _ (b6 y) l (iP rfl) rfl λu K=>⟨y,rfl,k7 ((cG FC (xy (S.len.symm▸(t6 hx).2.1))).symm.trans K)▸r.mono n.sub⟩
  else by
   rw [G0 λe=>w (eV (e▸g) hx)];cases S.cell q j g with
   | mk I B D a b d e=>exact .mk I B D a (n.ext _ _ (λh=>w (S.apart _ _ _ (h▸a) l)) b) d λv hv=>(e v hv).imp λy q=>⟨q.1,q.2.mono n.sub⟩
end
section
variable {G:TC} {env:i5} {ρ:Loc}
theorem ToS.vr {z':Z a st'} (u:ToS env z z') (e:VR z.W v x):VR z'.W v x:=e.mono u.sub
theorem ToS.vrs {z':Z a st'} {l xs} (u:ToS env z z') (e:VRs z.W l xs):VRs z'.W l xs:=e.mono u.sub
def Bd (z:Z a st) (G:TC) (env:i5) (t:j9 Unit) (o:Option Loc):Prop:=∀ρ' Q E,o=b6 ρ'→(∀z':Z a st,ToS env z z'→LS z'.W G env ρ'→Q () z'.s)→c7 C.M a.A t Q E z.s
structure OKt (G:TC) (t:CT) (e:f6):Prop where
 b:∀{C:Cx} {a:Ar C} {st:St} (z:Z a st) {env:i5} {ρ:Loc} {v x},(t.isTup=true→a.A.handled=b8)→LS z.W G env ρ→VR z.W v x→Bd z G env (assign e env x) (n7 t v ρ)
 star:∀env rest,assignEach (e :: rest) env=(false,assign e env) :: assignEach rest env
structure OKts (G:TC) (ts:CTs) (es:List f6):Prop where
 b:∀{C:Cx} {a:Ar C} {st:St} (z:Z a st) {env:i5} {ρ:Loc} {l xs},a.A.handled=b8→LS z.W G env ρ→VRs z.W l xs→Bd z G env (assignInOrder ((assignEach es env).map (·.2)) xs) (bindTs ts l ρ)
 plain:∀env,(assignEach es env).any (·.1)=false
 len:∀env,(assignEach es env).length=es.length
 num:∀l ρ ρ',bindTs ts l ρ=b6 ρ'→es.length=l.length
section
variable {pos:n5} {i:Nat} {n:c9} {t:CT} {ts:CTs} {e:f6} {es:List f6}
theorem Dm {k:B0} (h:r4 G.names n=b6 (i,k)) (O:k= .local∨k= .cell):OKt G (.name i) (.Name n pos) where
 b z _ ρ _ _ _ S r ρ' Q E e q:=C3 (s:=b8) (P:=λo=>o=b6 ρ'→_) (λe=>e6 e) (λa e=>wpAny_assign_Name (O.elim (λO=>W8 S (O▸h) r (k7 e▸q)) λO=>bO S (O▸h) r (k7 e▸q))) e
 star _ _:=rfl
theorem El:OKts G .nil [] where
 b z _ _ l xs _ S r:=λρ' Q E e q=>by
  cases l with
  | nil=>cases e;exact g9 (q z (.refl z) S)
  | cons=>exact e6 e
 plain _:=rfl
 len _:=rfl
 num l _ _:=H7 l (λa=>rfl) λa a e=>e6 e
theorem yU (h:OKt G t e) (j:OKts G ts es):OKts G (.cons t ts) (e :: es) where
 b z env ρ l xs d S r:=λρ' Q E e' q=>by
  cases l with
  | nil=>exact e6 e'
  | cons v l=>cases r with
   | mk x xs N f=>
    rw [h.star];exact l6 (s:=b8) (P:=λo=>o=b6 ρ'→_) (λe=>e6 e) (λρ₁ c e'=>show c7 _ _ (do C9 xs (assign e env x);assignInOrder ((assignEach es env).map (·.2)) xs) Q E z.s from d1 (v9 (h.b z (λi=>d) S N ρ₁ _ E c λz₁ u a=>j.b z₁ d a (u.vrs f) ρ' Q E e' λz' g=>q z' (u.trans g)))) e'
 plain env:=h.star env es▸j.plain env
 len env:=(cG oB (h.star env es)).trans (cG jM (j.len env))
 num l ρ ρ':=H7 l (λe=>e6 e) λv l e=>l6 (s:=b8) (P:=λo=>o=b6 ρ'→_) (λe=>e6 e) (λρ₁ _ e=>cG jM (j.num l ρ₁ ρ' e)) e
theorem oi {k:Nat} (h:OKts G ts es):OKt G (.tup ts) (.Tuple es k pos) where
 b z env ρ v x a S r ρ' Q E e q:=VR.tup (s:=b8) (P:=λx o=>o=b6 ρ'→c7 _ _ (assign (.Tuple es k pos) env x) Q E z.s) r (λg e=>e6 e) (λl r e=>by
  cases r with
  | mk p o n xs f d hd c=>
   refine wpAny_assign_Tuple (a rfl) ⟨o,z.I _ _ f,d,n,hd⟩ ((h.len env).trans ((h.num l ρ ρ' e).trans (c.length.symm.trans xA))) (List.findIdx?_eq_none_iff.mpr λq m=>FO.mpr λe=>O0 ((h.plain env).symm.trans (List.any_eq_true.mpr ⟨q,m,e⟩))) λh' hx=>?_;exact h.b (z.keep h' z.t λb ob i=>hx b ob (Ab (gk i)) i) (a rfl) (S.to .kept) c ρ' Q E e λz' u=>q z' ((To.kept.s).trans u)) e
 star _ _:=rfl
end
end
section
variable {env:i5} {outer:List i5} {p:d4} {e:Exc}
def Soft (W:Wd) (h h':j5):Prop:=∀p k o,W p=b6 k→h.get? p=b6 o→∃sl,h'.get? p=b6 {o with slots:=sl}∧((∀es Y,k≠ .fr es Y)→h'.get? p=b6 o)
theorem Soft.of {h h':j5} (k:∀p o,W p≠b8→h.get? p=b6 o→h'.get? p=b6 o):Soft W h h':=λp q o e a=>have k:=k p o (λh=>nomatch h.symm.trans e) a;⟨o.slots,k,λz=>k⟩
theorem Soft.trans {h c h':j5} (a:Soft W h c) (b:Soft W c h'):Soft W h h':=λp k o e d=>(a p k o e d).elim λsl q=>(b p k _ e q.1).elim λs f=>⟨s,f.1,λg=>(b p k o e (q.2 g)).elim λz r=>r.2 g⟩
theorem Soft.at {h h':j5} (s:Soft W h h'):∀{k},W p=b6 k→Holds C W st h p k→Holds C W st h' p k:=λ{k}=>
 Kn.casesOn k (λo e f=>(s p _ o e f).elim λz q=>q.2 nofun) (λo e f=>(s p _ o e f).elim λz q=>q.2 nofun)
  (λes Y e r=>by cases r with | mk o a b c d=>exact (s p _ o e a).elim λsl q=> .mk _ q.1 b c d) λn e r=>⟨r.1,λo f=>OR.mono (λo' g=>(s p _ o' e g).elim λz q=>q.2 nofun) (λz z z=>id) (r.2 o f)⟩
def Z.soft (z:Z a st) (h':j5) (d:Nat) (s:Soft z.W z.h h'):Z a st where
 W:=z.W
 h:=h'
 t:=d
 inv:={z.inv with at_:=λp k e=>s.at e (z.inv.at_ p k e)}
 fr:=z.fr
theorem To.soft {h' d s}:To z (z.soft h' d s):=⟨λa a e=>e,i0 _,λa a a h=>h⟩
theorem ye {T:d4} {h h':j5} (hT:W T=b8) (s:aR T h h'):Soft W h h':= .of λp o hp e=>(s.2 p λh=>hp (h▸hT)).trans e
theorem Z.fun_frames (z:Z a st):∀{l:List i5},(∀e∈l,e∈a.envs)→z.h.FunFrames C.s₀.heap l:=λ{l}=>
 A3 (motive:=λl=>(∀e∈l,e∈a.envs)→z.h.FunFrames C.s₀.heap l) (λf=>trivial) (λe r ih h=>by
  have he:=h e D6;cases z.fr e he with
  | mk L es Y b hL=>cases z.inv.at_ _ _ hL with
   | mk o c d hd O=>
    refine ⟨a.scop e he,⟨L,o,b,?_,c,λvs q=>nomatch hd.symm.trans q⟩,ih λe' h'=>h e' (F1 _ h')⟩;cases q:C.s₀.heap.get? L with
    | none=>rfl
    | some o'=>exact nomatch (z.inv.stay L o' q).symm.trans hL) l
theorem RNs.at {h h':j5} {d:d4} {es:List (List Nat×V)} (r:RNs W h d es) (k:∀o,h.get? d=b6 o→(∀vs,o.data≠ .fields vs)→h'.get? d=b6 o):RNs W h' d es:=by
 cases r with | mk o ds Y a b c f g i=>exact .mk o ds Y (k o a λvs q=>nomatch c.symm.trans q) b c f g i
inductive ExcAt (z:Z a st) (p:d4) (e:Exc) (o:f7) (vs:Array c5):Prop
 | mk (d):z.W p=b8→z.W d=b8→z.h.get? p=b6 o→o.cls= .ref XC→o.dict=b6 d→o.data= .fields vs→RNs W0 z.h d (fW e)→ExcAt z p e o vs
theorem eN {o:f7} {vs:Array c5} {f:Array c5→Array c5} (hd:o.data= .fields vs):f7.mapFields f o={o with data:= .fields (f vs)}:=by
 obtain ⟨c,d,z,sl⟩:=o;subst hd;rfl
theorem Ee {fl:c5} {M:K9} {A:q8} {Q:Unit→d0→Prop} {o:f7} {vs:Array c5} {T:d4} (f:Flight z p e fl) (i:z.h.get? p=b6 o) (hd:o.data= .fields vs) (hv:vs[1]?=b6 (.ref T)) (k:∀z':Z a st,To z z'→Flight z' p e y→z'.h.get? p=b6 o→Q () z'.s):c7 M A (setField (.ref T) 3 y) Q E z.s:=by
 cases f with
 | mk o' D F G ts d w l c g r x q n t hT m b j C=>
  cases i.symm.trans r;cases hd.symm.trans n;cases hv.symm.trans t;refine wpAny_setField (s:=z.s) hT b (FX.mp j).1 ?_;have v:=eN (f:=(·.setIfInBounds 3 y)) b;have hg:=(aU _ hT (cG f7.isFreed v)).trans (cG b6 v);have u:aR T z.h (z.h.update T (f7.mapFields (·.setIfInBounds 3 y))):=gg ..;have hp:=(u.2 p (Ne.symm g)).trans i;exact k (z.soft _ _ (ye c u)) .soft (.mk o vs T _ _ d w l c g hp x q hd hv hg m rfl (Lh (FX.mp j).1) (C.at λo i B=>(u.2 d λh=>B ts (by cases hT.symm.trans (h▸i);exact b)).trans i)) hp
theorem Z.fr_mem (z:Z a st) (he:p∈a.envs.filterMap (·.frame)):∃es Y,z.W p=b6 (.fr es Y):=(Le.mp he).elim λe h=>by
 cases z.fr e h.1 with | mk L es Y b hL=>exact ⟨es,Y,k7 (b.symm.trans h.2)▸hL⟩
theorem Z.not_fr (z:Z a st) (hp:z.W p=b8):p∉a.envs.filterMap (·.frame):=λh=>(z.fr_mem h).elim λes q=>q.elim λY q=>nomatch hp.symm.trans q
theorem Z.slots (z:Z a st) {h':j5} (s:j5.SlotsOnly (a.envs.filterMap (·.frame)) z.h h'):Soft z.W z.h h':=λp k o e b=>(s.2.2 p o b).elim λsl q=>⟨sl,q,λg=>(s.2.1 p λhm=>(z.fr_mem hm).elim λes r=>r.elim λY r=>g es Y (k7 (e.symm.trans r))).trans b⟩
theorem rm (top:a.envs=env :: outer) {L:d4} (I:env.frame=b6 L) {o:f7} {vs:Array c5} (x:ExcAt z p e o vs) (hsz:1 < vs.size)
  {M:K9} {j:c5} {b:Bool} {Q:Unit→d0→Prop} (k:∀z':Z a st,To z z'→Flight z' p e (rawInt L)→Q () z'.s) :
  c7 M a.A (do let fo ← frameOf env;let n ← entryPlaceOf L b;let t ← EntryCells.newEntry j fo .none (rawInt L) .none n;setField (.ref p) 1 t) Q E z.s:=by
 cases x with
 | mk d u l D H w hd J=>
  refine d1 (wpAny_frameOf_fun (s:=z.s) (a.frames.trans (cG b6 top)) (z.fun_frames λe h=>top▸h) I λc g=>?_);rw [← top] at g;refine d1 (wpAny_entryPlaceOf λn B=>?_);delta EntryCells.newEntry newFields;refine d1 (xj ?_ (B.sizeOk5 _ _ _ _ _));have i:c.get? p=b6 o:=(g.2.1 p (z.not_fr u)).trans D;have hT:c.objs.size≠p:=Nat.ne_of_gt (gk i);have F:=eN (f:=(·.setIfInBounds 1 (L6 c.objs.size))) hd;refine wpAny_setField (I4 _ i) hd hsz ?_;generalize C:([j,.ref L,.none,rawInt L,.none]++(if n.isEmpty then dW 6 bE else n)).toArray=q;have G:q[3]?=b6 (rawInt L):=C▸rfl;have hg:=(aU _ (I4 (h:=c) {cls:= .type "traceback",data:= .fields q} i) (cG f7.isFreed F)).trans (cG b6 F);have keep:∀b ob,b≠p→c.get? b=b6 ob→((c.push {cls:= .type "traceback",data:= .fields q}).update p (f7.mapFields (·.setIfInBounds 1 (L6 c.objs.size)))).get? b=b6 ob:=λb ob v r=>(j5.get?_update_other _ _ (Ne.symm v)).trans (I4 _ r);refine k (z.soft _ _ ((z.slots g).trans (.of λb ob v r=>keep b ob (λh=>v (h▸u)) r))) .soft (.mk _ _ c.objs.size _ q d u l (z.inv.fresh (w2 g.1.symm)) hT hg H w rfl (Lh hsz) ((j5.get?_update_other _ _ (Ne.symm hT)).trans (aS c rfl)) rfl rfl G (J.at λo' m y=>keep d o' (λh=>?_) ((g.2.1 d (z.not_fr l)).trans m)));cases D.symm.trans (h▸m);exact y vs hd
inductive Flown (z:Z a st) (L p:d4) (e:Exc):Prop
 | new:NewExc z p e→Flown z L p e
 | fly (fl):fl= .none∨fl=rawInt L→Flight z p e fl→Flown z L p e
theorem nT (top:a.envs=env :: outer) {L:d4} (n:env.frame=b6 L) (x:Flown z L p e) {M:K9} {Q:Unit→d0→Prop} (k:∀z':Z a st,To z z'→Flight z' p e (rawInt L)→Q () z'.s):c7 M a.A (noteFrame (.ref p) env) Q E z.s:=by
 delta noteFrame;simp only [n];cases x with
 | new x=>cases x with
  | mk t d B l c C=>exact d1 (dQ (s:=z.s) c rfl (x:= .none) rfl (by
    rw [iN (by decide)];exact rm top n (.mk d B l c rfl rfl rfl C) (by decide:1 < 6) k))
 | fly fl q x=>
  have D:=x;cases x with
  | mk o vs T S ts d B l G J c R I hd hv hT H m w C=>
   refine d1 (dQ (s:=z.s) c hd hv ?_);rw [iP (show (L6 T != bE)=true from rfl)];refine d1 (dQ (s:=z.s) hT m w ?_);rcases q with rfl | rfl
   ·rw [iN (show ¬((bE==rawInt L)=true) from O0)];exact d1 (Ee D c hd hv λz₁ u f P=>by
     cases f with
     | mk o' N O _ _ F g h _ _ v j b i y _ _ _ _ r=>exact rm top n (.mk F g h v j b i r) (FX.mp y).1 λz' K=>k z' (u.trans K))
   ·rw [iP (beq_self_eq_true _)];exact g9 (k z (.refl z) D)
theorem ba {fl:c5} {fr:Option d4} (x:Flight z p e fl) {M:K9} {A:q8} {Q:Unit→d0→Prop} (k:∀z':Z a st,To z z'→Flight z' p e (fr.elim .none λf=>rawInt f)→Q () z'.s):c7 M A (setFlight (.ref p) fr) Q E z.s:=by
 have i:=x;cases x with
 | mk o vs T G ts d j l c g h m b hd hv=>
  delta setFlight;refine d1 (dQ (s:=z.s) h hd hv ?_);rw [iP (show (L6 T != bE)=true from rfl)];exact Ee i h hd hv λz' u f n=>k z' u f
theorem tn (top:a.envs=env :: outer) {L:d4} (h:env.frame=b6 L) (x:Flown z L p e) {M:K9} {Q:Unit→d0→Prop} (k:∀z':Z a st,To z z'→Flight z' p e .none→Q () z'.s):c7 M a.A (leaving env (.ref p)) Q E z.s:=
 d1 (nT top h x λz₁ u f=>ba (fr:=b8) f λz' d=>k z' (u.trans d))
end
section
variable {G:TC} {env:i5} {ρ:Loc}
structure Sx (z:Z a st) (G:TC) (env:i5) (ρ:Loc):Prop where
 ls:LS z.W G env ρ
 phi:P5 C a.N a.d a.Φ
 top:∃outer,a.envs=env :: outer
theorem Sx.to {z':Z a st'} (S:Sx z G env ρ) (u:To z z'):Sx z' G env ρ:=⟨S.ls.to u,S.phi,S.top⟩
theorem Sx.mv {z':Z a st'} {ρ':Loc} (S:Sx z G env ρ) (l:LS z'.W G env ρ'):Sx z' G env ρ':=⟨l,S.phi,S.top⟩
theorem Sx.cn (S:Sx z G env ρ):Cn G z env ρ:=S.ls.cn S.phi
def PostO (z:Z a st) (G:TC) (env:i5) (E:c5→d0→Prop) (r:Out) (Q:C8→d0→Prop):Prop:=Out.casesOn (motive:=λb=>Prop) r
 (λρ' st'=>∀z':Z a st',ToS env z z'→LS z'.W G env ρ'→Q .next z'.s) (λρ' st'=>∀z':Z a st',ToS env z z'→LS z'.W G env ρ'→Q .brk z'.s)
 (λv st'=>∀(z':Z a st') x,ToS env z z'→VR z'.W v x→(∃ρ',LS z'.W G env ρ')→Q (.ret x) z'.s) (λe st'=>∀(z':Z a st') p,ToS env z z'→NewExc z' p e→Q (.ret (.ref p)) z'.s)
 (λe ρ' st'=>∀(z':Z a st') p,ToS env z z'→LS z'.W G env ρ'→Flown z' env.locals p e→E (.ref p) z'.s) False
def SO (z:Z a st) (G:TC) (env:i5) (t:j9 C8) (r:Out):Prop:=∀Q E,PostO z G env E r Q→c7 C.M a.A t Q E z.s
abbrev Ar.ex (a:Ar C) (c:CS) (ρ:Loc) (st:St):Out:=Internal.exec b7.tabs a.N a.Φ a.slf c ρ st
abbrev Ar.exs (a:Ar C) (c:CSs) (ρ:Loc) (st:St):Out:=Internal.execs b7.tabs a.N a.Φ a.slf c ρ st
def F0 (G:TC) (c:CS) (t:n6):Prop:=∀{C:Cx} {a:Ar C} {st:St} (z:Z a st) {env:i5} {ρ:Loc},Sx z G env ρ→SO z G env (PySem.exec t env) (a.ex c ρ st)
def bq (G:TC) (c:CSs) (t:List n6):Prop:=∀{C:Cx} {a:Ar C} {st:St} (z:Z a st) {env:i5} {ρ:Loc},Sx z G env ρ→SO z G env (PySem.execs t env) (a.exs c ρ st)
section
variable {z₁:Z a H} {Q:C8→d0→Prop}
theorem PostO.to (u:ToS env z z₁):∀{r},PostO z G env E r Q→PostO z₁ G env E r Q:=λ{r}=>
 Out.casesOn r (λa a p z' t=>p z' (u.trans t)) (λa a p z' t=>p z' (u.trans t)) (λa a p z' x t=>p z' x (u.trans t)) (λa a p z' x t=>p z' x (u.trans t)) (λa a a p z' x t=>p z' x (u.trans t)) id
theorem SO.no {t:j9 C8}:SO z G env t .stuck:=λa a p=>p.elim
theorem SE.qO {t:j9 c5} {K:c5→d0→Prop} {g:V→St→Out} (S:LS z.W G env ρ):∀{r},SE z t r→PostO z G env E (r.bindO ρ g) Q→(∀v H (z₁:Z a H) x,To z z₁→VR z₁.W v x→PostO z₁ G env E (g v H) Q→K x z₁.s)→c7 C.M a.A t K E z.s:=λ{r}=>
 Res.casesOn r (λv st' h p k=>h K E λz' x u e=>k v st' z' x u e (p.to u.s)) (λb b b p b=>p.elim) (λb b h p b=>h K E λz' q u f=>p z' q u.s (S.to u) (.fly _ (.inl rfl) f)) λb p b=>p.elim
theorem BE.qO {t:j9 Bool} {K:Bool→d0→Prop} {f:Bool→St→Out} (S:LS z.W G env ρ):∀{r},BE z t r→PostO z G env E (r.bindO ρ λv st=>v.onB .stuck λb=>f b st) Q→(∀b H (z₁:Z a H),To z z₁→PostO z₁ G env E (f b H) Q→K b z₁.s)→c7 C.M a.A t K E z.s:=λ{r}=>
 Res.casesOn r (λv st'=>V.casesOn v (λc p c=>p.elim) (λb h p k=>h K E λz' u=>k b st' z' u (p.to u.s)) (λc c p c=>p.elim) (λc c p c=>p.elim) (λc c p c=>p.elim) (λc c c p c=>p.elim) (λc c p c=>p.elim) (λc c c p c=>p.elim)
  (λc c p c=>p.elim) (λc c p c=>p.elim) (λc c p c=>p.elim) (λc c p c=>p.elim)) (λc c c p c=>p.elim) (λc c h p c=>h K E λz' q u f=>p z' q u.s (S.to u) (.fly _ (.inl rfl) f)) λc p c=>p.elim
theorem SO.some {α:Type} {t:j9 C8} {f:α→Out} {o:Option α} (k:∀a,o=b6 a→SO z G env t (f a)):SO z G env t (c8 o .stuck f):=l6 .no k
theorem F2 {α:Type} {o:Option α} {g:α→Out} {P:Prop} (p:PostO z G env E (c8 o .stuck g) Q) (k:∀u,o=b6 u→PostO z G env E (g u) Q→P):P:=l6 (s:=Out.stuck) (P:=λr=>PostO z G env E r Q→P) (λp=>p.elim) k p
theorem PostO.next (p:PostO z G env E (.next ρ st) Q) (S:LS z.W G env ρ):Q .next z.s:=p z (.refl z) S
end
section
variable {pos:n5} {c d f:CE} {e l r:f6} {i:Nat} {n:c9} {cs ds:CSs} {b o:List n6} {t:n6} {k:CS}
def Z0 (e:f6):Prop:=∀t n env,swapsWith e t n env=pure false
theorem wp {Q:C8→d0→Prop} {s:d0} {A:q8} (q:Q .next s):c7 C.M A (dropValue e pos x) Q E s:=wpAny_dropValue q
theorem AA (h:OK2 G c e) (hs:Z0 e):F0 G (.expr c) (.Expr e pos):=λz env ρ S Q E p=>by
 have go:PySem.exec (.Expr e pos) env=(do S8 pos;let v ← eval e env;dropValue e pos v):=by
  show (do S8 pos;if interactive env then printExpr (eval e env) else if ← swapsWith e b8 pos.line env then do evalThenUse e env λa=>point;pure .next else do dropValue e pos (← eval e env))=_;rw [show interactive env=false by delta interactive;rw [S.ls.fn];rfl,hs];rfl
 rw [go];exact d1 (M0 (d1 ((h.e z S.cn).qO S.ls p λa a z₁ a u a p=>wp (p.next (S.ls.to u)))))
theorem Gm (h:OK2 G c e):F0 G (.ret c) (.Return (b6 e) pos):=λ{C a st} z env ρ S Q E p=>wpAny_Return_some (by
 have h:=h.e z S.cn;have p:PostO z G env E (GE ρ (a.ev c ρ st)) Q:=p;generalize a.ev c ρ st=r at h p;exact h _ _ (Res.casesOn (motive:=λr=>PostO z G env E (GE ρ r) Q→Post z E r λv=>Q (.ret v)) r (λv st' p z' x u r=>p z' x u.s r ⟨ρ,S.ls.to u⟩) (λe st' p z' q u n=>p z' q u.s n) (λe st' p z' q u f=>p z' q u.s (S.ls.to u) (.fly _ (.inl rfl) f)) id p))
theorem Jr:F0 G .brk (.Break pos):=λz env ρ S Q E p=>wpAny_Break (p z (.refl z) S.ls)
theorem Jx (h:OK2 G c e) (h1:bq G cs b) (a:bq G ds o):F0 G (.ite c cs ds) (.If e b o pos):=λz env ρ S Q E p=>
 wpAny_If ((h.t z S.cn).qO S.ls p λq d z₁ u=>kq q (λp=>a z₁ (S.to u) Q E p) λp=>h1 z₁ (S.to u) Q E p)
theorem Dc:bq G .nil []:=λz env ρ S Q E p=>jN (p.next S.ls)
theorem PostO.seq {Q:C8→d0→Prop} {g:Loc→St→Out} {K:C8→d0→Prop} (h:∀ρ' st' (z':Z a st'),ToS env z z'→LS z'.W G env ρ'→PostO z' G env E (g ρ' st') Q→K .next z'.s) (c:∀s,Q .brk s→K .brk s) (j:∀x s,Q (.ret x) s→K (.ret x) s):∀{r:Out},PostO z G env E (r.seq g) Q→PostO z G env E r K:=λ{r}=>
 Out.casesOn r (λρ' st' p z' u l=>h ρ' st' z' u l (p.to u)) (λb b p z' u l=>c _ (p z' u l)) (λb b p z' x u r l=>j _ _ (p z' x u r l)) (λb b p z' q u n=>j _ _ (p z' q u n)) (λb b b p=>p) id
theorem xF (h:F0 G k t) (j:bq G cs b):bq G (.cons k cs) (t :: b):=λ{C a st} z env ρ S Q E p=>
 mi (h z S _ _ (PostO.seq (K:=λf s=>match f with | .next=>c7 C.M a.A (PySem.execs b env) Q E s | f=>Q f s) (λρ' st' z' u l p=>j z' (S.mv l) Q E p) (λc q=>q) (λc c q=>q) p))
theorem Pn {k:B0} (hi:G.inner=b8) (a:r4 G.names n=b6 (i,k)) (O:k= .local∨k= .cell):G.idx n=b6 i:=by
 delta TC.idx;rw [hi,a];cases O with
 | inl h=>rw [h];rfl
 | inr h=>rw [h];rfl
theorem rA (op:BOp) {p':n5} {k:B0} (m:r4 G.names n=b6 (i,k)) (O:k= .local∨k= .cell) (hd:bv n) (h:OK2 G c e):F0 G (.augName i op c) (.AugAssign (.Name n p') op.py e pos):=λz env ρ S Q E p=>
 F2 p λu t p=>F2 p λo q p=>wpAny_AugAssign_Name ((S.cn.rd i n o hd (Pn S.ls.inn m O) (q▸t)).load S.ls.fn hd (st:=_) (E:=E) λz₁ B b f=>
  (h.e z₁ (S.to b).cn).qO (S.ls.to b) (p.to b.s) λv A z₂ x a g p=>(jz op (a.vr f) g).qO ((S.ls.to b).to a) p λw A z₃ y j r p=>
   have d:=((S.ls.to b).to a).to j
   O.elim (λO=>W8 d (O▸m) r λz' u l=>p z' u l) λO=>bO d (O▸m) r λz' u l=>p z' u l)
theorem oL {p':n5} (h:OK2 G d l) (h':OK2 G c e) (hs:Z0 e):F0 G (.setAttr (u8 n) d c) (.Assign [.Attribute l n p'] e pos):=λz env ρ S Q E p=>
 plainObj_wpAny_Assign_Attribute ((h'.e z S.cn).qO S.ls p λv i z₁ x b g p=>(h.e z₁ (S.to b).cn).qO (S.ls.to b) p λo i z₂ y a r p=>F2 p λst' f p=>
  lK (name:=u8 n) (a.vr g) (λz' u=>p z' u.s (((S.ls.to b).to a).to u)) r f) (hs _ _ _)
theorem oZ (op:BOp) {p':n5} (h:OK2 G d l) (h':OK2 G c e):F0 G (.augAttr (u8 n) d op c) (.AugAssign (.Attribute l n p') op.py e pos):=λz env ρ S Q E p=>
 wpAny_AugAssign_AttributeAny ((h.e z S.cn).qO S.ls p λq k z₁ x b g p=>(lG (name:=u8 n) g).qO (S.ls.to b) p λo k z₂ y a r p=>have S₂:=(S.to b).to a
  (h'.e z₂ S₂.cn).qO S₂.ls p λv k z₃ y i f p=>(jz op (i.vr r) f).qO (S₂.ls.to i) p λw k z₄ k A j p=>F2 p λst' m p=>
   lK (name:=u8 n) j (λz' u=>p z' u.s (((S₂.ls.to i).to A).to u)) (A.vr (i.vr (a.vr g))) m)
theorem oW {es:List (List Nat×V)} {k:List Nat} {t:Tok} {p:d4} {A:q8} {Q:Unit→d0→Prop} {s:d0} (r:RDict (strKind pg C.w) c6 W s.heap p es) (hz:es.length≤bH) (e:VR W v y)
  (G:∀h' d,aR p s.heap h'→RDict (strKind pg C.w) c6 W h' p (A4 es k v)→Q () {s with heap:=h',toks:=d}):c7 C.M A (setItem (.ref p) (.str (c6 k) t) y) Q E s:=r.elim λm hm z z=>by
 delta setItem
 try with_reducible refine v9 ?_
 refine d1 (wpAny_sequenceKey hm.typeIs (by decide) ?_);refine d1 (wpAny_callSpecial?_slot (name:=dM "__setitem__") hm.typeIs slot_dict_setitem (wpAny_call_entry slot_dict_setitem hm.typeIs entry_dict_setitem ?_ (args_dict_setitem _ _ _)));show c7 _ _ (Builtin.Dict.notOrdered "__setitem__" ⟨[.ref p,.str (c6 k) t,y],[]⟩ >>= _) _ _ s;refine d1 (wpAny_notOrdered_dict hm.typeIs ?_);show c7 _ _ (dictSet p (.str (c6 k) t) y >>= _) _ _ s;exact d1 (pG (λz z=>Q9) r (M2 k t) hz e λh' d u c=>g9 ⟨.none,rfl,g9 (G h' d u c)⟩)
theorem rj {d i:V} {b x:c5} {Q:Unit→d0→Prop} {st':St} (l:VR z.W d b) (g:VR z.W i x) (m:VR z.W v y) (e:setSub d i v st=b6 st') (q:∀z':Z a st',To z z'→Q () z'.s):c7 C.M a.A (setItem b x y) Q E z.s:=
 VR.ref (s:=b8) (P:=λb o=>o=b6 st'→c7 C.M a.A (setItem b x y) Q E z.s) l (λc e=>e6 e) (λn p hp=>VR.str (s:=b8) (P:=λx o=>o=b6 st'→c7 C.M a.A (setItem (.ref p) x y) Q E z.s) g (λc e=>e6 e) λk t=>
  z.dict (s:=b8) (P:=λo=>o=b6 st'→c7 C.M a.A (setItem (.ref p) (.str (c6 k) t) y) Q E z.s) hp (λe=>e6 e) λes hg r=>C3 (s:=b8) (P:=λo=>o=b6 st'→c7 C.M a.A (setItem (.ref p) (.str (c6 k) t) y) Q E z.s) (λe=>e6 e) λhz e=>by
   cases e;exact oW (s:=z.s) r (d3 (rN hz.1) (by rw [bG];decide)) m λh' w u f=>q (z.set n p (.dict (A4 es k v)) h' w hp (B6 u) f) (.setd λj c c h=>wH (h _ hg) (V.und_flat hz.2))) e
theorem sK {p':n5} (h:OK2 G c l) (h1:OK2 G d r) (o:OK2 G f e) (hs:Z0 e):F0 G (.setSub c d f) (.Assign [.Subscript l r p'] e pos):=λz env ρ S Q E p=>
 wpAny_Assign_Subscript ((o.e z S.cn).qO S.ls p λv n z₁ x b g p=>(h.e z₁ (S.to b).cn).qO (S.ls.to b) p λt n z₂ y a j p=>have S₂:=(S.to b).to a
  (h1.e z₂ S₂.cn).qO S₂.ls p λq n z₃ n i k p=>F2 p λst' m p=>rj (i.vr j) k (i.vr (a.vr g)) m λz' u=>p z' u.s ((S₂.ls.to i).to u)) (hs _ _ _)
theorem uo (op:BOp) {p':n5} (h:OK2 G c l) (h1:OK2 G d r) (F:OK2 G f e) (H:∀o i w,augStore r o i w=(do C9 [w,o,i] (setItem o i w);release [w,o,i] [];pure .next)):F0 G (.augSub c d op f) (.AugAssign (.Subscript l r p') op.py e pos):=λz env ρ S Q E p=>
 show c7 _ _ (do
   S8 pos
   let t ← eval l env;let C ← C9 [t] (eval r env);let new ← C9 [t,C] do
    S8 p'
    let k ← getItem t C;let v ← C9 [k] (eval e env)
    S8 pos
    operate [k,v] (inplaceOp op.py k v)
   S8 p'
   augStore r t C new) Q E z.s from d1 (M0 (d1 ((h.e z S.cn).qO S.ls p λt q z₁ J b m p=>d1 (v9 ((h1.e z₁ (S.to b).cn).qO (S.ls.to b) p λC q z₂ I g n p=>have S₂:=(S.to b).to g
  d1 (v9 (d1 (M0 (d1 (SE.qO S₂.ls (λQ E p=>(jr (g.vr m) n Q E p).2) p λk q z₃ q a x p=>d1 (v9 ((F.e z₃ (S₂.to a).cn).qO (S₂.ls.to a) p λv q z₄ q A y p=>have S₄:=(S₂.to a).to A
   d1 (M0 (eW ((jz op (A.vr x) y).qO S₄.ls p λw q z₅ K j B p=>d1 (M0 (F2 p λst' D p=>(H J I K).symm▸d1 (v9
    (rj (j.vr (A.vr (a.vr (g.vr m)))) (j.vr (A.vr (a.vr n))) B D λz' u=>d1 (en (g9 (p z' u.s ((S₄.ls.to j).to u)))))))))))))))))))))))
end
end
section
variable {G:TC} {env:i5} {ρ:Loc}
section
variable {Q:C8→d0→Prop}
theorem PostO.pass {outer:List i5} (top:a.envs=env :: outer) (k:env.frame=b6 env.locals):∀{r},PostO z G env E r Q→PostO z G env (notedBy C.M a.A env (cameBackBy C.M a.A env E)) r Q:=λ{r}=>
 Out.casesOn r (λi i p=>p) (λi i p=>p) (λi i p=>p) (λi i p=>p) (λe ρ' st' p z' q u l f=>show c7 C.M a.A (noteFrame (.ref q) env) (λi j=>cameBackBy C.M a.A env E (.ref q) j) _ z'.s from nT top k f λz₁ g c=>by
  have b:=c;cases b with
  | mk o vs T B ts d x n m v w y t hd hv=>
   refine d1 (dQ (s:=z₁.s) w hd hv ?_);rw [iN (show ¬((L6 T==bE)=true) from O0),k];exact ba (fr:=b6 env.locals) c λz₂ h b=>p z₂ q (u.trans (g.trans h).s) (l.to (g.trans h)) (.fly _ (.inr rfl) b)) id
theorem PostO.turn {z₀:Z a H} (t:ToS env z₀ z) {g:Loc→St→Out} {K:C8→d0→Prop} (h:∀ρ' st' (z':Z a st'),ToS env z z'→LS z'.W G env ρ'→PostO z₀ G env E (g ρ' st') Q→K .next z'.s) (c:∀s,Q .next s→K .brk s) (j:∀x s,Q (.ret x) s→K (.ret x) s):∀{r:Out},PostO z₀ G env E (r.turn g) Q→PostO z G env E r K:=λ{r}=>
 Out.casesOn r (λρ' st' p z' u l=>h ρ' st' z' u l p) (λb b p z' u l=>c _ (p z' (t.trans u) l)) (λb b p z' x u r l=>j _ _ (p z' x (t.trans u) r l)) (λb b p z' q u n=>j _ _ (p z' q (t.trans u) n)) (λb b b p z' q u=>p z' q (t.trans u)) id
end
section
variable {pos:n5} {c:CE} {e:f6} {i:Nat} {n:c9} {cs:CSs} {b:List n6}
def TO (a:Ar C) (env:i5) (e:f6) (b:List n6) (I:Nat→d0→Prop) (Q:C8→d0→Prop) (E:c5→d0→Prop) (n:Nat) (s:d0):Prop:=c7 C.M a.A (isTrue e env (eval e env)) (λq s₂=>
    if q then c7 C.M a.A (PySem.execs b env) (λf c=>match f with
      | .next | .cont=>∃m,m < n∧I m c
      | .brk=>Q .next c
      | .ret v=>Q (.ret v) c) E s₂
    else c7 C.M a.A (PySem.execs [] env) (λf c=>Q f c) E s₂) E s
def Wz (a:Ar C) (c:CE) (cs:CSs) (n:Nat) (ρ:Loc) (st:St):Out:=wJ (λρ st=>a.ev c ρ st) (λρ st=>a.exs cs ρ st) n ρ st
inductive WhP (a:Ar C) (G:TC) (env:i5) (E:c5→d0→Prop) (Q:C8→d0→Prop) (c:CE) (cs:CSs) (n:Nat):d0→Prop
 | mk {ρ₁ H} (z₁:Z a H):Sx z₁ G env ρ₁→PostO z₁ G env E (Wz a c cs n ρ₁ H) Q→WhP a G env E Q c cs n z₁.s
theorem DO {Q:C8→d0→Prop} (h:OK2 G c e) (d:bq G cs b):∀n s₁,WhP a G env E Q c cs n s₁→TO a env e b (WhP a G env E Q c cs) Q E n s₁:=λn s₁ x=>by
 cases x with
 | mk z₁ S p=>cases n with
  | zero=>exact p.elim
  | succ n=>
   refine (h.t z₁ S.cn).qO S.ls p λq _ z₂ u=>?_;cases q with
   | false=>exact λp=>jN (p.next (S.ls.to u))
   | true=>exact λp=>d z₂ (S.to u) _ _ (PostO.turn (Q:=Q) (.refl z₂) (λρ' st' z' f l p=>by exact ⟨n,oC n,.mk z' (S.mv l) (p.to f)⟩) (λz q=>by exact q) (λz z q=>by exact q) p)
theorem Hc (h:OK2 G c e) (d:bq G cs b):F0 G (.whl c cs) (.While e b [] pos):=λ{C a st} z env ρ S Q E p=>S.top.elim λouter top=>
 wpAny_While (codeAny_whileLoop (WhP a G env (notedBy C.M a.A env (cameBackBy C.M a.A env E)) Q c cs) (DO h d) a.N (.mk z S (p.pass top S.ls.frame)))
theorem It.toS {z':Z a H} {I k src} (u:ToS env z z') (h:¬Pl env I) (i:It z.W I k src):It z'.W I k src:=by
 cases i with
 | str s t o a b c=>exact .str s t o (u.ext _ _ h a) b c
 | tup l q xs n o o' a b c d e f g=>exact .tup l q xs n o o' (u.ext _ _ h a) b c (u.sub.I _ _ d) e f (u.vrs g)
 | rng lo hi a b=>exact .rng lo hi a (u.ext _ _ h b)
 | live n p o a b c d=>exact .live n p o (u.sub.T _ a) (u.ext _ _ h b) c d
theorem ToS.but {z₀:Z a H} {z':Z a st} {I:d4} (u:ToS env z₀ z) (b:z₀.W I=b8) (n:Nx z z' I):ToS env z₀ z':=⟨λp k hp e=>n.ext p k (λh=>nomatch (h▸b).symm.trans e) (u.ext p k hp e),u.sub.trans n.sub,u.grow,u.keep⟩
theorem LS.nx {z':Z a st} {I:d4} (S:LS z.W G env ρ) (f:¬Pl env I) (n:Nx z z' I):LS z'.W G env ρ:={S with
 loc:=S.loc.elim λes h=>h.elim λY h=>⟨es,Y,n.ext _ _ (λe=>f (e▸ .inl rfl)) h.1,λi x v g hv=>(h.2 i x v g hv).imp λy q=>⟨q.1,q.2.mono n.sub⟩⟩
 cell:=λx j g=>by cases S.cell x j g with | mk c ob l a b d e=>exact .mk c ob l a (n.ext _ _ (λe=>f (e▸ .inr ⟨x,a⟩)) b) d λv hv=>(e v hv).imp λy q=>⟨q.1,q.2.mono n.sub⟩
 all:=λp hp=>(S.all p hp).imp λk=>n.ext p k λe=>f (e▸hp)}
theorem LS.out {I:d4} (S:LS W G env ρ) (h:W I=b8):¬Pl env I:=λhp=>(S.all I hp).elim λk e=>nomatch h.symm.trans e
def RA (a:Ar C) (env:i5) (j:c5) (x:f6) (b:List n6) (I:Nat→d0→Prop) (Q:C8→d0→Prop) (E:c5→d0→Prop) (n:Nat) (s:d0):Prop:=c7 C.M a.A (pyNext j) (λr s₁=>match r with
   | none=>c7 C.M a.A (PySem.execs [] env) (λf c=>Q f c) E s₁
   | some v=>c7 C.M a.A (letOwnedTupleGo x j v) (λz d=>
     c7 C.M a.A (assign x env v) (λz s₂=>c7 C.M a.A (PySem.execs b env) (λf c=>match f with
      | .next | .cont=>∃m,m < n∧I m c
      | .brk=>Q .next c
      | .ret v=>Q (.ret v) c) E s₂) E d) E s₁) E s
def Lm (a:Ar C) (src:Src) (t:CT) (cs:CSs) (m k:Nat) (ρ:Loc) (st:St):Out:=fX src.at (λx ρ st=>c8 (n7 t x ρ) .stuck λρ'=>a.exs cs ρ' st) m k ρ st
inductive ForP (z₁:Z a H) (G:TC) (env:i5) (E:c5→d0→Prop) (Q:C8→d0→Prop) (src:Src) (t:CT) (cs:CSs) (I:d4) (m:Nat):d0→Prop
 | mk {k ρ₂ st₂} (z₂:Z a st₂):ToS env z₁ z₂→LS z₂.W G env ρ₂→It z₂.W I k src→PostO z₁ G env E (Lm a src t cs m k ρ₂ st₂) Q→ForP z₁ G env E Q src t cs I m z₂.s
theorem As {z₁:Z a H} {Q:C8→d0→Prop} {src:Src} {t:CT} {x:f6} (g:0 < a.N) (J:OKt G t x) (F:bq G cs b) (hg:∀I v,letOwnedTupleGo x I v=pure ()) (P:P5 C a.N a.d a.Φ) (top:∃outer,a.envs=env :: outer) {I:d4} (j:z₁.W I=b8) (B:¬Pl env I) :
  ∀n s₂,ForP z₁ G env E Q src t cs I n s₂→RA a env (.ref I) x b (ForP z₁ G env E Q src t cs I) Q E n s₂:=λn s₂ x=>by
 cases x with
 | mk z₂ u S₂ m p=>cases n with
  | zero=>exact p.elim
  | succ n=>
   refine F2 p λo k p=>?_;cases o with
   | none=>exact jA (a.hd g) m k λz' f=>jN (p z' (u.but j f) (S₂.nx B f))
   | some w=>
    refine eU m k λz₃ y f c r=>?_;have i:=u.but j f;refine l6 (s:=Out.stuck) (P:=λo:Out=>PostO z₁ G env E (o.turn λρ' st'=>Lm a src t cs n _ ρ' st') Q→_) (λp=>p.elim) (λe h p=>?_) p;show c7 _ _ _ _ _ _;rw [hg];exact g9 (J.b z₃ (λz=>a.hd g) (S₂.nx B f) r e _ _ h λz₄ A S₄=>F z₄ ⟨S₄,P,top⟩ _ _ (PostO.turn (Q:=Q) (i.trans A) (λρ' st' z' D l p=>by exact ⟨n,oC n,.mk z' ((i.trans A).trans D) l ((c.toS A B).toS D B) p⟩) (λz q=>by exact q) (λz z q=>by exact q) p))
theorem Ie {t:CT} {x:f6} (m:OKt G t x) (h:OK2 G c e) (k:bq G cs b) (hg:∀I v,letOwnedTupleGo x I v=pure ()) (l:∀env x,dT e env x=pure x):F0 G (.for t c cs) (.For x e b [] pos):=λ{C a st} z env ρ S Q E p=>S.top.elim λouter top=>
 wpAny_For ((h.e z S.cn).qO S.ls p λv H z₁ o f g p=>F2 p λsrc hs p=>by
  have p:PostO z₁ G env E (Lm a src t cs a.N 0 ρ H) Q:=p;have j:0 < a.N:=bD λe=>by
   rw [e] at p;exact p.elim
  have d:=S.to f;exact nR (z:=z₁) (λI z₂ u i n=>codeAny_forLoop_any (ForP z₁ G env (notedBy C.M a.A env (cameBackBy C.M a.A env E)) Q src t cs I) (As j m k hg S.phi S.top i (d.ls.out i)) a.N (.mk z₂ u.s (d.ls.to u) n (p.pass top S.ls.frame))) g hs) (l env)
end
end
section
variable {G:TC} {env:i5} {ρ:Loc}
inductive Two (z:Z a st) (I J:d4) (h':j5) (t':Nat) (ei ej ot:f7):Prop
 | mk (z':Z a st):z'.s={z.s with heap:=h',toks:=t'}→(∀p k,p≠I→p≠J→z.W p=b6 k→z'.W p=b6 k)→Sub z.W z'.W→z'.W I=b6 (.own ei)→z'.W J=b6 (.own ej)→z'.W z.h.objs.size=b6 (.imm ot)→Two z I J h' t' ei ej ot
def Z.lose (z:Z a st) (I:d4) {o:f7} (c:z.W I=b6 (.own o)):Z a st:=z.re I b8 z.h z.t c (λb b b e=>e) λb e=>e6 e
theorem Z.two (z:Z a st) {I J:d4} {v s g j ot:f7} (d:z.W I=b6 (.own v)) (u:z.W J=b6 (.own s)) (l:I≠J) (h':j5) (t:Nat) (O:∀p o,p≠I→p≠J→z.h.get? p=b6 o→h'.get? p=b6 o)
  (h1:h'.get? I=b6 g) (w:h'.get? J=b6 j) (x:h'.get? z.h.objs.size=b6 ot):Two z I J h' t g j ot:=by
 have n1:Nx z (z.lose I d) I:= .re;have b:(z.lose I d).W J=b6 (.own s):=n1.ext J _ (Ne.symm l) u;have n2:Nx (z.lose I d) ((z.lose I d).lose J b) J:= .re;have q:((z.lose I d).lose J b).W I=none:=(iN l).trans (iP rfl);have r:((z.lose I d).lose J b).W J=none:=iP rfl;have hT:((z.lose I d).lose J b).W z.h.objs.size=none:=((z.lose I d).lose J b).inv.fresh (i0 _);have y:Soft ((z.lose I d).lose J b).W z.h h':= .of λp o hp e=>O p o (λh=>hp (h▸q)) (λh=>hp (h▸r)) e;have m:∀{p k},z.W p=b6 k→p≠z.h.objs.size:=λe h=>nomatch (h▸z.inv.fresh (i0 _)).symm.trans e
 have i:=(E5 (k:= .imm ot) I (m d)).trans q;have f:=(E5 (k:= .own g) J (Ne.symm l)).trans ((E5 (k:= .imm ot) J (m u)).trans r);exact .mk ((((((z.lose I d).lose J b).soft h' t y).imm z.h.objs.size (.imm ot) (λc e=>nomatch e) h' t hT (λc c c e=>e) λc=>x).imm I (.own g) (λc e=>nomatch e) h' t i (λc c c e=>e) λc=>h1).imm J (.own j) (λc e=>nomatch e) h' t f (λc c c e=>e) λc=>w) rfl
  (λp k hp n e=>D3 f _ _ (D3 i _ _ (D3 hT _ _ (n2.ext p k n (n1.ext p k hp e))))) ((n1.sub.trans n2.sub).trans ((aI hT).trans ((aI i).trans (aI f)))) (D3 f _ _ j6) j6 (D3 f _ _ (D3 i _ _ j6))
abbrev AZ (J:d4) (k:Nat) (c:c5):Obj:={cls:= .type "enumerate",dict:=b8,data:= .fields #[.none,.bool false,.ref J,rawInt k,.none,c],slots:=#[]}
inductive En (W:Wd) (I J:d4) (k n:Nat):Prop
 | mk (p o old):I≠J→W p=b6 (.tr n)→W J=b6 (.own o)→o.cls= .type "list_iterator" →o.data= .fields #[.ref p,.int k 0]→W I=b6 (.own (AZ J k old))→En W I J k n
theorem En.toS {z':Z a H} {I J k n} (u:ToS env z z') (h:¬Pl env I) (j:¬Pl env J) (i:En z.W I J k n):En z'.W I J k n:=by
 cases i with | mk p o g a b c d e f=>exact .mk p o g a (u.sub.T _ b) (u.ext _ _ j c) d e (u.ext _ _ h f)
theorem LS.two {z':Z a st} {I J:d4} (S:LS z.W G env ρ) (l:¬Pl env I) (u:¬Pl env J) (n:∀p k,p≠I→p≠J→z.W p=b6 k→z'.W p=b6 k) (s:Sub z.W z'.W):LS z'.W G env ρ:=
 have g:∀p k,Pl env p→z.W p=b6 k→z'.W p=b6 k:=λp k hp=>n p k (λe=>l (e▸hp)) λe=>u (e▸hp)
 {S with
  loc:=S.loc.elim λes h=>h.elim λY h=>⟨es,Y,g _ _ (.inl rfl) h.1,λi x v f hv=>(h.2 i x v f hv).imp λy q=>⟨q.1,q.2.mono s⟩⟩
  cell:=λx j f=>by cases S.cell x j f with | mk c ob m a b d e=>exact .mk c ob m a (g _ _ (.inr ⟨x,a⟩) b) d λv hv=>(e v hv).imp λy q=>⟨q.1,q.2.mono s⟩
  all:=λp hp=>(S.all p hp).imp λk=>g p k hp}
theorem Ii {n k:Nat} {p:d4} {r:Option V} {P:Prop} (hp:z.W p=b6 (.tr n)) (h:nO n st k=b6 r) (q:∀l xs m,z.h.get? p=b6 (listOf xs m)→VRs z.W l xs.toList→(l[k]?.map λx=>V.tup [.int k,x])=r→P):P:=
 z.list (s:=b8) (P:=λo:Option (Option V)=>o=b6 r→P) hp (λe=>e6 e) (λl xs m c a b e=>q l xs m a b (k7 e)) h
section
variable {pos pc pp p':n5} {c:CE} {e:f6} {i:Nat} {f:c9} {cs:CSs} {b:List n6} {ts:CTs} {es:List f6} {q:Nat}
def LU (a:Ar C) (n:Nat) (ts:CTs) (cs:CSs) (m k:Nat) (ρ:Loc) (st:St):Out:=fX (nO n) (λx ρ st=>c8 (n7 (.tup ts) x ρ) .stuck λρ'=>a.exs cs ρ' st) m k ρ st
inductive EnP (z₁:Z a H) (G:TC) (env:i5) (E:c5→d0→Prop) (Q:C8→d0→Prop) (n:Nat) (ts:CTs) (cs:CSs) (I J:d4) (m:Nat):d0→Prop
 | mk {k ρ₂ st₂} (z₂:Z a st₂):ToS env z₁ z₂→LS z₂.W G env ρ₂→En z₂.W I J k n→PostO z₁ G env E (LU a n ts cs m k ρ₂ st₂) Q→EnP z₁ G env E Q n ts cs I J m z₂.s
theorem Ho {z₁:Z a H} {Q:C8→d0→Prop} {n:Nat} {I J:d4} (N0:0 < a.N) (ht:OKt G (.tup ts) (.Tuple es q pp)) (hb:bq G cs b) (P:P5 C a.N a.d a.Φ) (top:∃outer,a.envs=env :: outer) (hI1:z₁.W I=b8) (X:z₁.W J=b8) (R:¬Pl env I) (i:¬Pl env J) :
  ∀m s₂,EnP z₁ G env E Q n ts cs I J m s₂→RA a env (.ref I) (.Tuple es q pp) b (EnP z₁ G env E Q n ts cs I J) Q E m s₂:=λm s₂ x=>by
 cases x with
 | @mk k ρ₂ st₂ z₂ u S₂ x p=>cases m with
  | zero=>exact p.elim
  | succ m=>cases x with
   | mk lp oJ old g hlp hJ hcJ hdJ hI=>
    refine F2 p λo ho p=>Ii hlp ho λl ys j ho r eo=>?_;have hit:=(⟨oJ,z₂.inv.at_ _ _ hJ,hcJ,hdJ⟩:z₂.s.heap.IsListIter J lp _)
    have hls:=(⟨_,ho,rfl,j,rfl⟩:z₂.s.heap.IsList lp ys)
    cases hw:l[k]? with
    | none=>
     rw [hw] at eo;subst eo;exact wpAny_pyNext_enum_end (a.hd N0) (z₂.inv.at_ _ _ hI) hit hls (r.nth0 hw) λh' hx=>jN (by
      have nx:Nx z₂ (z₂.re J b8 h' z₂.t hJ hx λzz e=>e6 e) J:= .re;exact p _ (u.but X nx) (S₂.nx i nx))
    | some w=>
     rw [hw] at eo;subst eo;obtain ⟨y,hy,ry⟩:=r.nth hw;refine wpAny_pyNext_enum_item (z₂.inv.at_ _ _ hI) hit hls hy g λh₃ heo hlit htu hsz O=>wpAny_letOwnedTupleGo_enum heo λz hen sb=>?_;obtain ⟨oJ',hoJ',Y,hdJ'⟩:=hlit;cases z₂.two hI hJ g z (z₂.t+1) (λp o hp hp' e=>(sb.2 p hp).trans (O p o hp hp' e)) hen ((sb.2 J (Ne.symm g)).trans hoJ') ((sb.2 _ λe=>absurd (gk (z₂.inv.at_ _ _ hI:z₂.h.get? I=_)) (e▸FH _)).trans htu) with
     | mk z₅ S B c F K L=>
      have D:ToS env z₁ z₅:=⟨λp k hp e=>B p k (λh=>nomatch (h▸hI1).symm.trans e) (λh=>nomatch (h▸X).symm.trans e) (u.ext p k hp e),u.sub.trans c,u.grow,u.keep⟩
      have x₅:En z₅.W I J (k+1) n:= .mk lp oJ' _ g (c.T _ hlp) K Y hdJ' F;refine l6 (s:=Out.stuck) (P:=λo:Out=>PostO z₁ G env E (o.turn λρ' st'=>LU a n ts cs m (k+1) ρ' st') Q→_) (λp=>p.elim) (λU hb' p=>?_) p;refine show c7 C.M a.A _ _ _ {z₂.s with heap:=z,toks:=z₂.t+1} from ?_
      rw [← S];exact ht.b (v:= .tup [.int k,w]) (x:= .ref z₂.h.objs.size) z₅ (λzz=>a.hd N0) (S₂.two R i B c) (.mk _ _ 0 _ L rfl rfl (.mk _ _ (.mk _) (.one (ry.mono c)))) U _ _ hb' λz₆ f V=>hb z₆ ⟨V,P,top⟩ _ _
       (PostO.turn (Q:=Q) (D.trans f) (λρ' st' z' u' l p=>by exact ⟨m,oC m,.mk z' ((D.trans f).trans u') l ((x₅.toS f R i).toS u' R i) p⟩) (λzz q=>by exact q) (λzz zz q=>by exact q) p)
theorem BO {z₁:Z a H} {n:Nat} {r:d4} {h':j5} {d:f7} (hp:z₁.W r=b6 (.tr n)) (c:∀p o,z₁.h.get? p=b6 o→h'.get? p=b6 o) (q:h'.get? z₁.h.objs.size=b6 d) (k:d.cls= .type "list_iterator") (l:d.data= .fields #[.ref r,.int 0 0]) (m:h'.get? (z₁.h.objs.size+1)=b6 (AZ z₁.h.objs.size 0 .none)) :
  ∃z₃:Z a H,z₃.s={z₁.s with heap:=h'}∧To z₁ z₃∧En z₃.W (z₁.h.objs.size+1) z₁.h.objs.size 0 n:=
 have j:=z₁.inv.fresh (i0 _);have f:z₁.W (z₁.h.objs.size+1)=none:=z₁.inv.fresh (w7 z₁.h.objs.size);let z₂:=(z₁.keep h' z₁.t c).imm z₁.h.objs.size (.own d) (λb e=>nomatch e) h' z₁.t j (λb b b e=>e) λb=>q;have g:z₂.W (z₁.h.objs.size+1)=none:=(E5 _ (Gc _)).trans f;let z₃:=z₂.imm (z₁.h.objs.size+1) (.own (AZ z₁.h.objs.size 0 .none)) (λb e=>nomatch e) h' z₁.t g (λb b b e=>e) λb=>m;have i:To z₁ z₃:=To.trans .kept (To.trans .immd .immd)
 ⟨z₃,rfl,i,.mk r d _ (Gc _) (i.ext _ _ hp) ((To.immd (z:=z₂)).ext _ _ j6) k l j6⟩
theorem qH (T:OKt G (.tup ts) (.Tuple es q pp)) (h:OK2 G c e) (K:bq G cs b) (L:G.look f=b6 .globalImplicit) (hd:bv f) (hg:U8 G6 f (.bi .enumerate)=true):F0 G (.forEnum (.tup ts) c cs) (.For (.Tuple es q pp) (.Call (.Name f p') [e] [] pc) b [] pos):=λ{C a st} z env ρ S Q E p=>S.top.elim λouter top=>
 wpAny_For (wpAny_Call_Name_kw (ee S.cn (S.cn.nm f L) hd hg λyv U=>by
  cases U;rw [h.s.star];refine callWith_type1 ((h.e z S.cn).qO S.ls p λv H z₁ Z y w p=>?_);refine VR.ref (s:=Out.stuck) (P:=λx o=>PostO z₁ G env E o Q→c7 C.M a.A (call (.type "enumerate") [x]) _ E z₁.s) w (λX p=>p.elim) (λn V hp p=>?_) p;refine z₁.list (s:=Out.stuck) (P:=λo=>PostO z₁ G env E o Q→c7 C.M a.A (call (.type "enumerate") [.ref V]) _ E z₁.s) hp (λp=>p.elim) (λl ys m O R r p=>?_) p;have p:PostO z₁ G env E (LU a n ts cs a.N 0 ρ H) Q:=p;have J:0 < a.N:=bD λe=>by
   rw [e] at p;exact p.elim
  have d:=S.to y;refine call_enumerate_1 (s:=z₁.s) R λh' t u hsz g=>?_;obtain ⟨Y,I,D,F⟩:=u;have k:=z₁.inv.fresh (i0 _);have j:z₁.W (z₁.h.objs.size+1)=none:=z₁.inv.fresh (w7 z₁.h.objs.size);obtain ⟨z₃,hs,i,B⟩:=BO hp g I D F t;refine wpAny_pyIter_enum t ?_;show O3 _ _ _ _ {z₁.s with heap:=h'};rw [← hs];exact codeAny_forLoop_any (EnP z₁ G env (notedBy C.M a.A env (cameBackBy C.M a.A env E)) Q n ts cs (z₁.h.objs.size+1) z₁.h.objs.size) (Ho J T K S.phi S.top j k (d.ls.out j) (d.ls.out k)) a.N (.mk z₃ i.s (d.ls.to i) B (p.pass top S.ls.frame)))) (λX=>rfl)
end
end
section
variable {G:TC} {env:i5} {ρ ρ':Loc}
section
variable {pos p':n5} {c:CE} {e:f6} {i:Nat} {n:c9} {ts:CTs} {es vs:List f6} {k:Nat}
theorem E1 {kd:B0} (S:LS z.W G env ρ) (h:r4 G.names n=b6 (i,kd)) (O:kd= .local∨kd= .cell) (r:VR z.W v y) {Q:Unit→d0→Prop} {A:q8} (k:∀z':Z a st,ToS env z z'→LS z'.W G env (ρ.set i (b6 v))→Q () z'.s):c7 C.M A (storeName env n y) Q E z.s:=
 O.elim (λO=>W8 S (O▸h) r k) λO=>bO S (O▸h) r k
theorem fg {P:Out→Prop} {g:Loc→Out} (hs:P .stuck) (h:P (g (ρ.set i (b6 v)))):P (c8 (n7 (.name i) v ρ) .stuck g):=l6 hs λρ' e=>C3 (s:=b8) (P:=λo=>o=b6 ρ'→P (g ρ')) (λe=>e6 e) (λz e=>k7 e▸h) e
theorem CM {kd:B0} (b:r4 G.names n=b6 (i,kd)) (O:kd= .local∨kd= .cell) (h:OK2 G c e) (hs:Z0 e):F0 G (.set (.name i) c) (.Assign [.Name n p'] e pos):=λ{C a st} z env ρ S=>
 show SO z G env _ (if a.N=0∧false=true then .stuck else _) from (iN λh=>nomatch h.2:(if a.N=0∧false=true then _ else _)=_).symm▸λQ E p=>wpAny_Assign_Name ((h.e z S.cn).qO S.ls p λv H z₁ x u r p=>
  fg (g:=λρ'=> .next ρ' H) (P:=λo=>PostO z₁ G env E o Q→_) (λp=>p.elim) (λp=>E1 (S.ls.to u) b O r λz' d l=>p z' d l) p) (hs _ _ _)
def eh:f6→Option c9
 | .Name n _=>b6 n
 | _=>b8
def jC (vs:List f6):Bool:= !(vs.all (PySem.constantsAlone 8))||vs.all (PySem.foldedForSure 8)
inductive StoresP (es:List f6) (t:j9 (Option (List c9))):Prop
 | plain:t=pure b8→StoresP es t
 | rev (names):t=pure (b6 names)→es.map eh=names.map b6→StoresP es t
theorem AC {f:f6→Option c9} (d:∀e n,f e=b6 n→eh e=b6 n):∀es:List f6,(es.filterMap f).length=es.length→es.map eh=(es.filterMap f).map some:=
 A3 (λz=>rfl) λa r ih h=>by
  cases c:f a with
  | none=>exact absurd (KZ f r) (Nat.not_le.mpr (JH (oC _) ((cG oB (List.filterMap_cons_none c)).symm.trans h).symm))
  | some b=>
   rw [KQ c] at h ⊢;exact congr (cG FK (d a b c)) (ih (jM.inj h))
theorem tW {p q:n5} {k':Nat} (h:jC vs=true):StoresP es (swappedStores [.Tuple es k p] (.Tuple vs k' q) env):=by
 delta swappedStores;dsimp only;generalize (es.head?.map (·.pos.line)).getD 0=line;refine if h1:_ then .plain (iP h1) else (iN h1).symm▸?_
 refine if h1:_ then .plain (iP h1) else (iN h1).symm▸?_
 refine if b:_ then .plain (iP b) else (iN b).symm▸?_
 refine if c:_ then .plain (iP c) else (iN c).symm▸?_
 have d:¬vs.all (constantsAlone 8)=true:=λd=>c (by delta jC at h;rw [d] at h;exact h);rw [iN d];refine .rev _ rfl (AC (λe a h=>?_) es ?_)
 ·cases e with
  | Name n p=>exact C3 (s:=b8) (P:=λo=>o=b6 a→_) (λe=>e6 e) (λz e=>e) h
  | _=>exact e6 h
 ·exact Classical.byContradiction λq=>b (QQ.mpr (.inl (bne_iff_ne.mpr q)))
def lN (G:TC) (ts:CTs) (es:List f6):Prop:=∀{C:Cx} {a:Ar C} {st:St} (z:Z a st) {env:i5} {ρ:Loc} {l xs} (names:List c9),es.map eh=names.map b6→LS z.W G env ρ→VRs z.W l xs→Bd z G env (assignInOrder (names.reverse.map λn=>bindName env n) xs.reverse) (bindTs ts l ρ)
theorem rM {es:List f6} {l:List c9} (h:es.map eh=l.map b6) {m:List c9} (e:es.map eh=m.map b6):l=m:=(List.map_inj_right λz z=>k7).mp (h.symm.trans e)
inductive BindC (t:CT) (r:CTs) (l:List V) (ρ ρ':Loc):Prop
 | mk (v l' ρ₁):l=v :: l'→n7 t v ρ=b6 ρ₁→bindTs r l' ρ₁=b6 ρ'→BindC t r l ρ ρ'
theorem pb {t:CT} {r:CTs}:∀{l:List V},bindTs (.cons t r) l ρ=b6 ρ'→BindC t r l ρ ρ':=λ{l}=>H7 l (λe=>e6 e) λv l e=>l6 (s:=b8) (P:=λo=>o=b6 ρ'→BindC t r (v :: l) ρ ρ') (λe=>e6 e) (λρ₁ h e=> .mk v l ρ₁ rfl h e) e
theorem ju {l:List V} (h:bindTs .nil l ρ=b6 ρ'):l= []∧ρ'=ρ:=by
 cases l with
 | nil=>exact ⟨rfl,(k7 h).symm⟩
 | cons=>exact e6 h
theorem sC (h:n7 (.name i) v ρ=b6 ρ'):ρ'=ρ.set i (b6 v):=C3 (s:=b8) (P:=λo=>o=b6 ρ'→ρ'=ρ.set i (b6 v)) (λe=>e6 e) (λz e=>(k7 e).symm) h
section
variable {i1 i2 i3:Nat} {n1 n2 n3:c9} {p1 p2 p3:n5} {k1 k2 k3:B0} {l:List V}
theorem mE {r:CTs} (h:bindTs (.cons (.name i) r) l ρ=b6 ρ'):∃v l',l=v :: l'∧bindTs r l' (ρ.set i (b6 v))=b6 ρ':=by
 cases pb h with
 | mk v l' ρ₁ e b h=>exact ⟨v,l',e,sC b▸h⟩
theorem qY (h:bindTs (.cons (.name i1) (.cons (.name i2) .nil)) l ρ=b6 ρ'):∃v1 v2,l= [v1,v2]∧ρ'=(ρ.set i1 (b6 v1)).set i2 (b6 v2):=
 (mE h).elim λv1 h=>h.elim λt h=>(mE h.2).elim λv2 c=>c.elim λl2 c=>⟨v1,v2,by rw [h.1,c.1,(ju c.2).1],(ju c.2).2⟩
theorem uG (h:bindTs (.cons (.name i1) (.cons (.name i2) (.cons (.name i3) .nil))) l ρ=b6 ρ'):∃v1 v2 v3,l= [v1,v2,v3]∧ρ'=((ρ.set i1 (b6 v1)).set i2 (b6 v2)).set i3 (b6 v3):=
 (mE h).elim λv1 h=>h.elim λt h=>(qY h.2).elim λv2 c=>c.elim λv3 c=>⟨v1,v2,v3,by rw [h.1,c.1],c.2⟩
theorem YA (f:r4 G.names n1=b6 (i1,k1)) (g:k1= .local∨k1= .cell) (v:r4 G.names n2=b6 (i2,k2)) (e:k2= .local∨k2= .cell) (d:i1≠i2):lN G (.cons (.name i1) (.cons (.name i2) .nil)) [.Name n1 p1,.Name n2 p2]:=by
 intro C a st z env ρ l xs names i S r ρ' Q E h q;cases rM i (m:= [n1,n2]) rfl;obtain ⟨v1,v2,rfl,rfl⟩:=qY h;obtain ⟨x,j,rfl,N,P⟩:=r.two;show c7 _ _ (do C9 [x] (bindName env n2 j);(do C9 [] (bindName env n1 x);pure ())) _ _ _;exact d1 (v9 (bindName_ (E1 S v e P λz₁ b c=>d1 (v9 (bindName_ (E1 c f g (b.vr N) λz₂ u S₂=>g9 (q z₂ (b.trans u) (xz _ _ (Ne.symm d)▸S₂))))))))
theorem Wk {v1 v2 v3:Option V} (h:i1≠i2) (a:i1≠i3) (b:i2≠i3):((ρ.set i3 v3).set i2 v2).set i1 v1=((ρ.set i1 v1).set i2 v2).set i3 v3:=by rw [xz _ _ (Ne.symm b),xz _ _ (Ne.symm a),xz _ _ (Ne.symm h)]
theorem Yj (g:r4 G.names n1=b6 (i1,k1)) (n:k1= .local∨k1= .cell) (v:r4 G.names n2=b6 (i2,k2)) (o:k2= .local∨k2= .cell) (k:r4 G.names n3=b6 (i3,k3)) (p:k3= .local∨k3= .cell) (h:i1≠i2) (e:i1≠i3) (f:i2≠i3):lN G (.cons (.name i1) (.cons (.name i2) (.cons (.name i3) .nil))) [.Name n1 p1,.Name n2 p2,.Name n3 p3]:=by
 intro C a st z env ρ l xs names t S r ρ' Q E s q;cases rM t (m:= [n1,n2,n3]) rfl;obtain ⟨v1,v2,v3,rfl,rfl⟩:=uG s;cases r with
 | mk x xs N r=>
  obtain ⟨j,y,rfl,P,w⟩:=r.two;show c7 _ _ (do C9 [j,x] (bindName env n3 y);(do C9 [x] (bindName env n2 j);(do C9 [] (bindName env n1 x);pure ()))) _ _ _;exact d1 (v9 (bindName_ (E1 S k p w λz₁ b c=>d1 (v9 (bindName_ (E1 c v o (b.vr P) λz₂ u S₂=>d1 (v9 (bindName_ (E1 S₂ g n (u.vr (b.vr N)) λz₃ i d=>
   g9 (q z₃ ((b.trans u).trans i) (Wk h e f▸d)))))))))))
end
theorem Ds {f:n5} (F:OKts G ts es) (L:lN G ts es) (h:OK2 G c e) (hs:Z0 e) (d:∀env,StoresP es (swappedStores [.Tuple es k f] e env)):F0 G (.set (.tup ts) c) (.Assign [.Tuple es k f] e pos):=λ{C a st} z env ρ S=>
 show SO z G env _ (if a.N=0∧true=true then .stuck else _) from if g:a.N=0 then (iP ⟨g,rfl⟩:(if a.N=0∧true=true then Out.stuck else _)=_).symm▸ .no else (iN λh=>g h.1:(if a.N=0∧true=true then Out.stuck else _)=_).symm▸λQ E p=>by
  have B:=a.hd (bD g);cases d env with
  | plain d=>exact Assign_Tuple ((h.e z S.cn).qO S.ls p λv n z₁ x u r p=>F2 p λρ' i p=>(oi F).b z₁ (λn=>B) (S.ls.to u) r ρ' _ _ i λz' j l=>p z' j l) (hs (b6 (.Tuple es k f)) pos.line env) d
  | rev names d D=>exact Assign_Tuple_swapped ((h.e z S.cn).qO S.ls p λv n z₁ x u r p=>F2 p λρ' i p=>VR.tup (s:=b8) (P:=λx o=>o=b6 ρ'→c7 C.M a.A (unpackItems x names.length b8) _ E z₁.s) r (λn e=>e6 e) (λl r e=>by
    cases r with
    | mk q o m xs K J hd H=>
     have hsz:names.length=xs.size:=by
      have w:=cG oB D;rw [u7,u7] at w;exact w.symm.trans ((F.num l ρ ρ' e).trans (H.length.symm.trans xA))
     rw [hsz];exact unpackItems_tuple B ⟨o,z₁.I _ _ K,J,m,hd⟩ λh' hx=>L (z₁.keep h' z₁.t λb ob y=>hx b ob (Ab (gk y)) y) names D ((S.ls.to u).to .kept) H ρ' _ _ e λz' j l=>p z' ((To.kept.s).trans j) l) i) (hs (b6 (.Tuple es k f)) pos.line env) d
end
end
section
variable {G:TC} {env:i5} {ρ ρ':Loc}
theorem tC {M:K9} {A:q8} {env:i5} {C:d4} {X:XD}
  {s:d0} {x:j9 c5} {Q:C8→d0→Prop} (a:X.bm.contains (.type "BaseException")=true) (i:A.handled=b8)
  (h:c7 M A x (λv s₁=>∃e t d,v= .ref e∧s₁.heap.get? C=b6 (X.obj C)∧
   s₁.heap.get? e=b6 {cls:= .ref C,dict:=b6 d,data:= .fields #[.ref t,.none,.none,.none,.bool false,.none]}∧E (.ref e) s₁) E s) :
  c7 M A (raiseStmt env (b6 x) b8) Q E s:=by
 have c:(L6 C :: X.bm).contains (.type "BaseException")=true:=by rw [mf,a,Fz]
 delta raiseStmt;refine d1 (aT h (λv s₁ b=>?_) λz z x=>x);obtain ⟨e,t,d,rfl,hC,he,f⟩:=b;obtain ⟨hp,g,j,w,os⟩:=s₁
 repeat (first | with_reducible refine dL he ?_ | with_reducible refine dL hC ?_ | (with_reducible refine rQ hC ?_;rw [c]) | wp_step)
 exact wpAny_raiseNew_none i f
theorem zj {pos:n5} {c:CE} {e:f6} (h:OK2 G c e):F0 G (.raise c) (.Raise (b6 e) b8 pos):=λ{C a st} z env ρ S=>
 show SO z G env _ (if a.N=0 then .stuck else nA ρ (a.ev c ρ st)) from if g:a.N=0 then (iP g).symm▸ .no else (iN g).symm▸λQ E p=>by
  obtain ⟨X,hC,b,_⟩:=C.xcls;rw [arm_exec_Raise];refine d1 (M0 (tC (X:=X) (C:=XC) b (a.hd (bD g)) (d1 ?_)));have h:=h.e z S.cn;generalize a.ev c ρ st=r at h p;refine h _ _ (Res.casesOn (motive:=λr=>PostO z G env E (nA ρ r) Q→Post z E r _) r (λm m p=>p.elim) (λe st' p z' q u n=>d1 (M0 (g9 ?_))) (λe st' p z' q u f=>p z' q u.s (S.ls.to u) (.fly _ (.inl rfl) f)) (λp=>p.elim) p);cases n with
  | mk t d j l i k=>exact ⟨q,t,d,rfl,z'.inv.keep0 _ _ hC,i,p z' q u.s (S.ls.to u) (.new (.mk t d j l i k))⟩
section
variable {c:c5} {d:Option d4} {ds:Array P8} {Y i:Nat} {sl:Array (Option c5)} {name:c9}
theorem rI (hi:ds.findIdx? (·.key.isStr name)=b6 i):f7.dropName name ⟨c,d,.dict ds Y,sl⟩=⟨c,d,.dict (ds.eraseIdxIfInBounds i) (Y+1),sl⟩:=by
 rw [f7.dropName_eq,f7.dropNameByArray,hi]
theorem pC (hi:ds.findIdx? (·.key.isStr name)=b8):f7.dropName name ⟨c,d,.dict ds Y,sl⟩=⟨c,d,.dict ds Y,sl⟩:=by
 rw [f7.dropName_eq,f7.dropNameByArray,hi]
end
theorem uk {M:K9} {A:q8} {s:d0} {p:d4} {o:f7} {ds:Array P8} {Y:Nat} {k:c9} {Q:Bool→d0→Prop} (m:s.heap.get? p=b6 o) (hd:o.data= .dict ds Y) (O:StrKeys ds) (hs:(E8 ds k).isSome=true)
  (G:∀h' j l,h'.get? p=b6 {o with data:= .dict j l}→StrKeys j→(∀x,x≠k→E8 j x=E8 ds x)→aR p s.heap h'→Q true {s with heap:=h'}):c7 M A (nsDel p k) Q E s:=by
 have r:ds.any (·.refKey)=false:=KT.mpr λe he h=>(O e he).elim λn q=>q.elim λt q=>O0 ((cG c5.onHeap q).symm.trans h);have f:ds.any (·.key.isStr k)=true:=by
  delta E8 findBy at hs;rw [KU,Array.find?_isSome] at hs;obtain ⟨x,hx,hp⟩:=hs;obtain ⟨i,hi,rfl⟩:=Array.mem_iff_getElem.mp hx;exact Array.any_eq_true.mpr ⟨i,hi,hp⟩
 have g:nsHas k o=pure true:=by
  rw [nsHas_eq];delta nsHasByArray;rw [hd];exact iP f
 delta nsDel;refine d1 (xm m ?_);rw [g];refine d1 (g9 (d1 (wpAny_updatePart m (g9 ?_))));obtain ⟨c,d,v,sl⟩:=o;subst hd;have go:∀{j:Array P8} {l:Nat},f7.dropName k ⟨c,d,.dict ds Y,sl⟩=⟨c,d,.dict j l,sl⟩→StrKeys j→(∀x,x≠k→E8 j x=E8 ds x)→Q true {s with heap:=s.heap.update p (f7.dropName k)}:=λu a b=>
  G _ _ _ ((aU _ m (cG f7.isFreed u)).trans (cG b6 u)) a b (gg ..)
 cases hi:ds.findIdx? (·.key.isStr k) with
 | some i=>exact go (rI hi) (O.erase i) λx hx=>nsFind_erase_other hi hx
 | none=>exact go (pC hi) O λz z=>rfl
theorem kR (S:LS z.W G env ρ) {i:Nat} {x:c9} {pos:n5} (hx:r4 G.names x=b6 (i,.local)) {Q:Unit→d0→Prop} (L:∀z':Z a st,ToS env z z'→LS z'.W G env (ρ.set i b8)→Q () z'.s) :
  c7 C.M a.A (do bindName env x .none;unbindBehindTheSuite env x pos) Q E z.s:=by
 have hi:i < ρ.length:=S.len.symm▸(t6 hx).2.1;refine d1 (wpAny_bindName (W8 S hx (v:= .none) (y:= .none) rfl λz₁ f b=>?_));delta unbindBehindTheSuite;refine wpAny_onRaise ?_;delta unbindName;refine d1 (wpAny_point (d1 ?_));delta deleteName;have I:env.kindOf x=b6 .local:=(S.nm x).trans (t6 hx).1;have hp:(env.scope.kind== .class||(env.scope.kind== .module&&env.locals != env.globals))=false:=by rw [S.fn];rfl
 simp only [I,hp];rw [iN (by decide)];obtain ⟨es,Y,hL,D⟩:=b.loc;obtain ⟨y0,B,_⟩:=D i x .none hx (xy hi);cases z₁.inv.at_ _ _ hL with
 | mk o J H hd O=>
  refine d1 (uk (s:=z₁.s) J hd O (B▸rfl) λh' es' l w q g N=>?_);simp only [if_true,xg,bF,if_false];have s:=Kj (k:= .fr es' l) hL;refine g9 (wpAny_point (L (z₁.wr env.locals es' l h' z₁.t hL (B6 N) (.mk _ w H rfl q)) (f.trans ⟨λp k hp e=>(E5 p λh=>hp (.inl h)).trans e,s,i0 _,λF F F h=>h⟩)
   {b with len:=vb.trans S.len,loc:=⟨es',l,j6,λj n u d hv=>?_⟩,cell:=λn j d=>?_,all:=λp hp=>if h:p=env.locals then ⟨_,iP h⟩ else (b.all p hp).imp λk=>(E5 p h).trans}))
  ·exact if hij:i=j then by
    cases hij;cases (xy hi).symm.trans hv
   else by
    have hv:=(G0 (o:=b8) hij).symm.trans hv;obtain ⟨y,K,r⟩:=D j n u d ((G0 hij).trans hv);exact ⟨y,(g n λe=>hij (cG Prod.fst (k7 ((e▸hx:r4 G.names n=_).symm.trans d)))).trans K,r.mono s⟩
  ·have hij:=jm d hx nofun
   rw [G0 hij];have c:=b.cell n j d;rw [G0 hij] at c;exact c.set (λP m=>c.ne hL m) s
end
section
variable {G:TC} {env:i5} {ρ ρ':Loc} {e:Exc} {q:d4}
def Ar.marked (a:Ar C) (v:c5):Ar C where
 A:=a.A.mark (b6 v)
 envs:=a.envs
 N:=0
 d:=a.d
 Φ:=λz z z=> .stuck
 slf:=a.slf
 frames:=a.frames
 hd h:=absurd h (FH 0)
 depth:=a.depth
 units:=a.units
 scop:=a.scop
def Z.as (z:Z a st) (v:c5):Z (a.marked v) st:=⟨z.W,z.h,z.t,z.inv,z.fr⟩
def Z.un {v:c5} (z:Z (a.marked v) st):Z a st:=⟨z.W,z.h,z.t,z.inv,z.fr⟩
theorem ToS.un {v:c5} {z:Z (a.marked v) st} {z':Z (a.marked v) st'} (u:ToS env z z'):ToS env z.un z'.un:=⟨u.ext,u.sub,u.grow,u.keep⟩
theorem To.un {v:c5} {z:Z (a.marked v) st} {z':Z (a.marked v) st'} (u:To z z'):To z.un z'.un:=⟨u.ext,u.grow,u.keep⟩
theorem Flight.as {fl v:c5} (f:Flight z q e fl):Flight (z.as v) q e fl:=by
 cases f with | mk o vs T G ts d a b c F e f g h i j k l m n=>exact .mk o vs T G ts d a b c F e f g h i j k l m n
theorem Sb {d:Nat}:P5 C 0 d λz z z=> .stuck:=λz z z h=>absurd h (FH 0)
theorem Z.high (z:Z a st) (h:z.W q=b8):3 < q:=Nat.lt_of_not_le λf=>(C.low q f).elim λo b=>nomatch h.symm.trans (z.inv.stay q o b)
theorem Pb:Sub W0 W:=λz z z e=>e6 e
inductive Caught (z:Z a st) (q:d4) (e:Exc):Prop
 | mk (z':Z a (st++ [D7 e])):z'.s=z.s→To z z'→VR z'.W (.exc st.length) (.ref q)→Caught z q e
theorem Flight.caught {fl:c5} (f:Flight z q e fl):Caught z q e:=by
 cases f with
 | mk o vs T G ts d w i x C s y n hd hv hT A B D r=>
  have l:∃od,z.h.get? d=b6 od∧∀vs,od.data≠ .fields vs:=by cases r with | mk od ds Y a b c=>exact ⟨od,a,λvs q=>nomatch c.symm.trans q⟩
  obtain ⟨od,l,p⟩:=l;have j:d≠q:=λh=>p vs (k7 (l.symm.trans (h▸s))▸hd);let u:=z.imm q (.imm o) (λg e=>nomatch e) z.h z.t w (λg g g e=>e) λg=>s;have k:u.W d=none:=(E5 d j).trans i;let v:=u.imm d (.own od) (λg e=>nomatch e) z.h z.t k (λg g g e=>e) λg=>l;have m:v.W d=b6 (.own od):=j6;refine .mk (v.adopt d (D7 e) z.h z.t m (z.high i) (λg g g e=>e) (OR.mono (o:= .ns (fW e)) (λg e=>e) Pb r)) rfl (.adopted (To.trans .immd .immd) i) (.mk q o d ((E5 q j.symm).trans ((E5 q j.symm).trans j6)) j6 y n ?_);show notCls o=true;delta notCls;rw [hd]
theorem PostO.unset {a':Ar C} {Q K:C8→d0→Prop} {c:c5→d0→Prop} {i:Nat} {z₀:Z a H} {z:Z a' st} (g:∀ρ' st' (z':Z a' st'),ToS env z z'→LS z'.W G env ρ'→PostO z₀ G env E (.next (ρ'.set i b8) st') Q→K .next z'.s)
  (j:∀v st' (z':Z a' st') x,ToS env z z'→VR z'.W v x→(∃ρ',LS z'.W G env ρ')→PostO z₀ G env E (.ret v st') Q→K (.ret x) z'.s):∀{r:Out},PostO z₀ G env E (r.unset i) Q→PostO z G env c r K:=λ{r}=>
 Out.casesOn r (λρ' st' p z' u l=>g ρ' st' z' u l p) (λb b p=>p.elim) (λv st' p z' x u r l=>j v st' z' x u r l p) (λb b p=>p.elim) (λb b b p=>p.elim) λp=>p.elim
theorem PostO.caught {Q K:C8→d0→Prop} {c:c5→d0→Prop} {g:Exc→Loc→St→Out} (d:∀s,Q .next s→K .next s) (j:∀x s,Q (.ret x) s→K (.ret x) s) (h:∀e ρ' st' (z':Z a st') p,ToS env z z'→LS z'.W G env ρ'→Flown z' env.locals p e→PostO z G env E (g e ρ' st') Q→c (.ref p) z'.s):∀{r:Out},PostO z G env E (r.caught g) Q→PostO z G env c r K:=λ{r}=>
 Out.casesOn r (λρ' st' p z' u l=>d _ (p z' u l)) (λb b p=>p.elim) (λv st' p z' x u r l=>j _ _ (p z' x u r l)) (λb b p=>p.elim) (λe ρ' st' p z' q u l f=>h e ρ' st' z' q u l f p) λp=>p.elim
section
variable {pos hp np:n5} {i:Nat} {n y:c9} {cs ds:CSs} {b rest:List n6} {b0:n6}
theorem IB (hb:bq G cs b) (hg:G.look n=b6 .globalImplicit) (hd:bv n) (hgl:U8 G6 n (.cls XC)=true) (hf:r4 G.names y=b6 (i,.local)) (hh:bq G ds (b0 :: rest)):F0 G (.try cs i ds) (.Try b [.ExceptHandler (b6 (.Name n np)) (b6 y) (b0 :: rest) hp] [] [] pos):=λ{C a st} z env ρ S Q E p=>S.top.elim λouter top=>
 wpAny_Try_except (hb z S _ _ (PostO.caught (Q:=Q) (E:=E) (λs q=>by exact jN q) (λx s q=>by exact q) (λe ρ₁ H z₁ q u₁ l₁ O p=>by
  refine show c7 C.M a.A (noteFrame (.ref q) env) _ E z₁.s from nT top S.ls.frame O λz₂ F R=>ba (fr:=b8) R λz₃ I w=>?_
  have B:=(l₁.to F).to I;have Z:ToS env z z₃:=u₁.trans (F.trans I).s;have p:PostO z G env E (if i < ρ₁.length then ((execs b7.tabs 0 (λzz zz zz=> .stuck) a.slf ds (ρ₁.set i (b6 (.exc H.length))) (H++ [D7 e])).unset i) else .stuck) Q:=p;refine wpAny_handleBy_cons (codeAny_handlers_test ?_) (λq=>nomatch q);have cn:Cn G (z₃.as (.ref q)) env ρ₁:=LS.cn (z:=z₃.as (.ref q)) B Sb;refine ee (z:=z₃.as (.ref q)) cn (cn.nm n hg) hd hgl λyv hy=>?_;cases hy;obtain ⟨X,hC,N,_⟩:=C.xcls;have L:=z₃.inv.keep0 _ _ hC;have fo:∃o,z₃.h.get? q=b6 o∧o.cls= .ref XC:=by cases w with | mk o vs T oT ts d a b c d' e f=>exact ⟨o,e,f⟩
  obtain ⟨o,ho,hc⟩:=fo;refine wpAny_excMatches_sub_self L ho hc N ?_;dsimp only [if_true];refine codeAny_handlers_suite_as (ba (fr:=b8) (z:=z₃.as (.ref q)) w.as λz₄ J U=>?_);cases U.caught with
  | mk z₅ hs K W=>
   rw [← hs];refine W8 (z:=z₅) ((LS.to (z:=z₃.as (.ref q)) J B).to K) hf W λk u₆ V=>?_;have D:ToS env z k.un:=Z.trans (ToS.trans (To.s (To.un (J.trans K))) u₆.un);refine C3 (s:=Out.stuck) (P:=λr=>PostO z G env E r Q→c7 _ _ (PySem.execs (b0 :: rest) env) _ _ k.s) (λp=>p.elim) (λ_ p=>?_) p;exact hh k ⟨V,Sb,⟨outer,top⟩⟩ _ _ (PostO.unset (z₀:=z) (Q:=Q) (E:=E) (i:=i) (λρ' st' m j l p=>by exact kR (z:=m.un) l hf λt u g=>p t ((D.trans j.un).trans u) g)
    (λv st' m x j Y l p=>by exact l.elim λρ' l=>kR (z:=m.un) l hf λt u g=>p t x ((D.trans j.un).trans u) (u.vr Y) ⟨_,g⟩) p)) p))
end
end
section
variable {G:TC} {env:i5} {ρ ρ':Loc} {A:q8}
theorem EZ {β:Type} {x:c9} {b:β}:∀{l:List (c9×β)},l.lookup x=b6 b→(x,b)∈l:=λ{l}=>A3 (motive:=λl=>l.lookup x=b6 b→(x,b)∈l) (λh=>e6 h) (λp r ih h=>by
 rw [jO] at h;cases hx:x==p.1 with
 | true=>rw [hx] at h;cases h;rw [eq_of_beq hx];exact D6
 | false=>rw [hx] at h;exact F1 _ (ih h)) l
structure ScOk (names:List (c9×B0)) (v:c9) (sc:Scope):Prop where
 kind:sc.kind= .function
 loc:∀x,sc.names.lookup x=b6 .local→(x==(".0" :c9))=false→x=v
 look:∀p∈sc.names,p.2= .local→sc.names.lookup p.1=b6 .local
 cell:∀p∈sc.names,p.2≠ .cell
 free:∀p∈sc.names,p.2= .free→∃j,r4 names p.1=b6 (j,.cell)
 name:sc.names.lookup v=b6 .local
theorem tz {env:i5} {f:c9×B0→List (c9×d4)→j9 (ForInStep (List (c9×d4)))} (l:∀n k cs,f (n,k) cs=if (k==dZ)=true then cellOf env n >>= λc=>pure (.yield ((n,c) :: cs)) else pure (.yield cs)) :
  ∀(names:List (c9×B0)) (acc:List (c9×d4)),(∀p∈names,p.2= .free→∃c,env.cells.lookup p.1=b6 c)→
  ∃b,forIn names acc f=pure b∧∀x,((x,dZ)∈names∨acc.lookup x=env.cells.lookup x)→b.lookup x=env.cells.lookup x:=
 A3 (λacc z=>⟨acc,rfl,λx h=>h.elim (λh=>nomatch h) id⟩) λp r ih acc h=>by
  obtain ⟨n,k⟩:=p;have j:∀p∈r,p.2= .free→∃c,env.cells.lookup p.1=b6 c:=λp hp=>h p (F1 _ hp);rw [FA,l];exact if O:k= .free then by
   subst O;obtain ⟨c,g⟩:=h (n,.free) D6 rfl;have e:cellOf env n=pure c:=by delta cellOf;rw [show env.cells.lookup n=b6 c from g]
   rw [e];obtain ⟨b,d,i⟩:=ih ((n,c) :: acc) j;refine ⟨b,d,λx hx=>i x ?_⟩;exact if a:x=n then .inr (by rw [a,K8,beq_self_eq_true];exact g.symm) else hx.elim (λhp=> .inl ((x8.mp hp).resolve_left λq=>a (cG Prod.fst q))) λhx=> .inr (by rw [K8,beq_eq_false_iff_ne.mpr a];exact hx)
  else by
   rw [show (k==dZ)=false from beq_eq_false_iff_ne.mpr O];obtain ⟨b,d,i⟩:=ih acc j;exact ⟨b,d,λx hx=>i x (hx.imp (λhp=>(x8.mp hp).resolve_left λq=>O (cG Prod.snd q).symm) id)⟩
theorem kg {scope:Scope} {env:i5} (h:∀p∈scope.names,p.2= .free→∃c,env.cells.lookup p.1=b6 c) :
  ∃b,closureFor scope env=pure b∧∀x,scope.names.lookup x=b6 .free→b.lookup x=env.cells.lookup x:=
 (tz (env:=env) (f:=λp cs=>if (p.2==dZ)=true then cellOf env p.1 >>= λc=>pure (.yield ((p.1,c) :: cs)) else pure (.yield cs)) (λz z z=>rfl) scope.names [] h).elim λb q=>
  ⟨b,by delta closureFor;simp only [bind_pure_comp] at *;simpa using q.1,λx hx=>q.2 x (.inl (EZ hx))⟩
theorem K4 {scope:Scope} {env:i5} {x:c9}:(relabel scope env).names.lookup x=(scope.names.lookup x).map λk=>if (k==dZ&&env.scope.kind== .function&&env.kindOf x==b6 .cell)=true then .cell else k:=by
 delta relabel;dsimp only
 induction scope.names with
 | nil=>rfl
 | cons p r ih=>
  obtain ⟨n,k⟩:=p;rw [Q0];dsimp only;by_cases hx:x=n
  ·subst hx;by_cases a:(k==dZ&&env.scope.kind== .function&&env.kindOf x==b6 .cell)=true
   ·rw [iP a,K8,K8,beq_self_eq_true];exact cG b6 (iP a).symm
   ·rw [iN a,K8,K8,beq_self_eq_true];exact cG b6 (iN a).symm
  ·have c:(x==n)=false:=beq_eq_false_iff_ne.mpr hx;by_cases a:(k==dZ&&env.scope.kind== .function&&env.kindOf n==b6 .cell)=true
   ·rw [iP a,K8,K8,c];exact ih
   ·rw [iN a,K8,K8,c];exact ih
theorem yh {scope:Scope} {globals:d4} {closure:List (c9×d4)} {q:c9} {f:Option d4} {code:c5} {out:i5} {M:K9} {s:d0} {Q:i5→d0→Prop}
  (a:∀x∈scope.names,x.2≠ .cell) (hQ:Q (newEnv scope s.heap.objs.size globals closure q f code (b6 out) jS) {s with heap:=s.heap.push {cls:= .type "dict",data:= .dict #[]}}) :
  c7 M A (newFunctionEnv scope globals closure [] q f code (b6 out)) Q E s:=by
 simp only [newFunctionEnv,Li,if_true];simp only [newEnv] at hQ;refine d1 (wpAny_alloc ?_);rw [forIn_yield_id closure (λx hx c=>by
  obtain ⟨name,kind⟩:=x;have:(kind==xc)=false:=beq_eq_false_iff_ne.mpr (a _ hx);simp only [this,bF,if_false])]
 exact d1 (g9 (d1 (g9 (g9 hQ))))
theorem yL {I:d4} {k:Nat} {src:Src} (i:It z.W I k src) {Q:c5→d0→Prop} (q:Q (.ref I) z.s):c7 C.M A (pyIter (.ref I)) Q E z.s:=by
 cases i with
 | str s t o e a hd=>
  delta strIterType at a;exact if h:(c6 s).cps.all (· < 128)=true then wpAny_pyIter_striter_ascii ⟨o,z.inv.at_ _ _ e,a.trans (cG c5.type (iP h)),hd⟩ q else wpAny_pyIter_striter_wide ⟨o,z.inv.at_ _ _ e,a.trans (cG c5.type (iN h)),hd⟩ q
 | tup l f xs n o o' e a hd=>exact wpAny_pyIter_tupleiter ⟨o,z.inv.at_ _ _ e,a,hd⟩ q
 | rng lo hi O e=>exact wpAny_pyIter_rangeiter (z.inv.at_ _ _ e) q
 | live n p o hp e a hd=>exact wpAny_pyIter_listiter ⟨o,z.inv.at_ _ _ e,a,hd⟩ q
def OwnNs (W:Wd) (I:d4) (m:c9→Option c5):Prop:=∃o ds Y,W I=b6 (.own o)∧o.data= .dict ds Y∧StrKeys ds∧∀x,E8 ds x=m x
theorem Ew (L:Cn G z env ρ) (g:G.inner=b8) {sc:Scope} {v:c9} (hs:ScOk G.names v sc) {l:List (c9×d4)} (p:∀x,sc.names.lookup x=b6 .free→l.lookup x=env.cells.lookup x)
  {I:d4} {m:c9→Option c5} (w:OwnNs z.W I m) {b:V} {y:c5} (hm:m v=b6 y) (r:VR z.W b y):Cn {G with inner:=b6 sc.names} z (compEnvC sc l I env) (ρ++ [b6 b]) where
 phi:=L.phi
 fn:=hs.kind
 gl:=L.gl
 bi:=L.bi
 nm x hx:=(K4 (env:=env)).trans (by rw [show sc.names.lookup x=b6 .globalImplicit from hx];rfl)
 inr h:=nomatch h
 rd i x u B K hv:=by
  have f:=(L.inr g).1;refine l6 (s:=b8) (P:=λo=>o=b6 i→ReadAt z.W (compEnvC sc l I env) x u) (λe=>e6 e) (λk O e=>?_) K;cases k with
  | «local»=>
   cases (k7 e:G.names.length=i);rw [← f,I2 (i0 _),I3] at hv;cases hv;have D:=hs.loc x O B.2.2;obtain ⟨o,ds,Y,a,b,c,d⟩:=w;exact .own o ds Y y ((K4 (scope:=sc) (env:=env)).trans (by rw [O];rfl)) a b c ((d x).trans (D▸hm)) r
  | free=>
   refine l6 (s:=b8) (P:=λo=>o=b6 i→ReadAt z.W (compEnvC sc l I env) x u) (λe=>e6 e) (λq A e=>?_) e;obtain ⟨j,k⟩:=q;cases k with
   | cell=>
    cases (k7 e:j=i);have t:=(t6 A).2.1;rw [cg (f.symm▸t)] at hv;have N:=L.rd i x u B (by delta TC.idx;rw [g,A];rfl) hv;obtain ⟨n,c,M⟩:=(L.inr g).2 x i A;cases N with
    | loc es Y y h1=>exact nomatch n.symm.trans h1
    | own o es Y y h1=>exact nomatch n.symm.trans h1
    | cell C o y h1 E F H J=>
     refine .cell C o y ?_ ((p x O).trans E) F H J;have:(compEnvC sc l I env).kindOf x=_:=K4 (scope:=sc) (env:=env);rw [this,O,xx];exact if h:(dZ==dZ&&env.scope.kind== .function&&env.kindOf x==b6 .cell)=true then .inl (cG b6 (iP h)) else .inr (cG b6 (iN h))
   | _=>exact e6 e
  | _=>exact e6 e
end
section
variable {G:TC} {env:i5} {ρ ρ':Loc} {A:q8}
def PostN (z:Z a st) (r:Res) (K:d0→Prop):Prop:=Res.casesOn (motive:=λb=>Prop) r (λv st'=>v.onNone False (∀z':Z a st',To z z'→K z'.s)) (λb b=>False) (λb b=>False) False
section
variable {K:d0→Prop} {r:Res}
theorem IS {P Q:Prop} (k:P→Q):∀{v:V},v.onNone False P→v.onNone False Q:=λ{v}=>V.casesOn v k (λz=>id) (λz=>id) (λz=>id) (λz=>id) (λz z=>id) (λz=>id) (λz z=>id) (λz=>id) (λz=>id) (λz=>id) λz=>id
theorem PostN.to {z₁:Z a H} (u:To z z₁):∀{r},PostN z r K→PostN z₁ r K:=λ{r}=>Res.casesOn r (λv st'=>IS λp z' t=>p z' (u.trans t)) (λb b=>id) (λb b=>id) id
theorem PostN.of {PP:Res→Prop} {g:St→Res} (h:¬PP .stuck) (k:∀st' (z':Z a st'),To z z'→PP (g st')→K z'.s):∀{r:Res},PP (r.thenN g)→PostN z r K:=λ{r}=>
 Res.casesOn r (λv st'=>V.casesOn v (λp z' u=>k st' z' u p) (λb p=>h p) (λb p=>h p) (λb p=>h p) (λb p=>h p) (λb b p=>h p) (λb p=>h p) (λb b p=>h p) (λb p=>h p) (λb p=>h p) (λb p=>h p) λb p=>h p) (λb b p=>h p) (λb b p=>h p) λp=>h p
theorem SE.qN {t:j9 c5} {g:V→St→Res} {K':c5→d0→Prop}:∀{r},SE z t r→PostN z (r.bind g) K→(∀v H (z₁:Z a H) x,To z z₁→VR z₁.W v x→PostN z₁ (g v H) K→K' x z₁.s)→c7 C.M a.A t K' E z.s:=λ{r}=>
 Res.casesOn r (λv st' h p k=>h K' E λz' x u e=>k v st' z' x u e (p.to u)) (λb b b p b=>p.elim) (λb b h p b=>p.elim) λb p b=>p.elim
theorem BE.qN {t:j9 Bool} {f:Bool→St→Res} {K':Bool→d0→Prop}:∀{r},BE z t r→PostN z (r.bind λv st=>v.onB .stuck λb=>f b st) K→(∀b H (z₁:Z a H),To z z₁→PostN z₁ (f b H) K→K' b z₁.s)→c7 C.M a.A t K' E z.s:=λ{r}=>
 Res.casesOn r (λv st'=>V.casesOn v (λc p c=>p.elim) (λb h p k=>h K' E λz' u=>k b st' z' u (p.to u)) (λc c p c=>p.elim) (λc c p c=>p.elim) (λc c p c=>p.elim) (λc c c p c=>p.elim) (λc c p c=>p.elim) (λc c c p c=>p.elim)
  (λc c p c=>p.elim) (λc c p c=>p.elim) (λc c p c=>p.elim) (λc c p c=>p.elim)) (λc c c p c=>p.elim) (λc c h p c=>p.elim) λc p c=>p.elim
theorem SE.runN {t:j9 c5}:∀{r},SE z t r→PostN z r K→c7 C.M a.A t (λb s=>K s) E z.s:=λ{r}=>
 Res.casesOn r (λv st' h p=>h _ E λz' x u e=>V.casesOn (motive_1:=λv=>v.onNone False (∀z':Z a st',To z z'→K z'.s)→K z'.s) v (λp=>p z' u) (λb p=>p.elim) (λb p=>p.elim) (λb p=>p.elim) (λb p=>p.elim) (λb b p=>p.elim) (λb p=>p.elim) (λb b p=>p.elim) (λb p=>p.elim) (λb p=>p.elim) (λb p=>p.elim) (λb p=>p.elim) p) (λb b b p=>p.elim) (λb b b p=>p.elim) λb p=>p.elim
end
def TB (G:TC) (ifs:List f6) (g:f6) (B:Tabs→Nat→d7→Loc→Nat→V→St→Res):Prop:=
 ∀{C:Cx} {a:Ar C} {st:St} (z:Z a st) {b:i5} {ρ:Loc} {w:V} {D:d4} {n:Nat},Cn G z b (ρ++ [b6 w])→z.W D=b6 (.tr n)→∀{K:d0→Prop} {E:c5→d0→Prop},PostN z (B b7.tabs a.N a.Φ ρ n w st) K→
  c7 C.M a.A (forIn ifs true λc r=>if r=true then do let o ← isTrue c b (eval c b);pure (ForInStep.yield o) else pure (ForInStep.yield r)) (λo d=>
    if o=true then c7 C.M a.A (eval g b) (λx e=>c7 C.M a.A (call (.builtin "list.append") [.ref D,x] []) (λh f=>K f) E e) E d else K d) E z.s
abbrev wd (g:CE) (T:Tabs) (N:Nat) (Φ:d7) (ρ:Loc) (n:Nat) (w:V) (st:St):Res:=(i4 T N Φ g (ρ++ [b6 w]) st).bind λy st'=>o8 .append (.ref n) [y] st'
section
variable {c d f:CE} {e i g:f6}
theorem qw (h:OK2 G c e) {b:i5} {D:d4} {n:Nat} (L:Cn G z b (ρ++ [b6 w])) (hD:z.W D=b6 (.tr n)) {K:d0→Prop} (p:PostN z (wd c b7.tabs a.N a.Φ ρ n w st) K) :
  c7 C.M a.A (eval e b) (λx d=>c7 C.M a.A (call (.builtin "list.append") [.ref D,x] []) (λg f=>K f) E d) E z.s:=
 (h.e z L).qN p λy g z₁ x u r p=>(fF (v:= .ref n) (vs:= [y]) (.mk D (u.sub.T _ hD)) (.one r)).runN p
theorem qh (h:OK2 G c e):TB G [] e (wd c):=λz a a a a a L hD a a p=>wpAny_tests_nil ((iP rfl).symm▸qw h L hD p)
abbrev EG (g cond:CE) (T:Tabs) (N:Nat) (Φ:d7) (ρ:Loc) (n:Nat) (w:V) (st:St):Res:=(i4 T N Φ cond (ρ++ [b6 w]) st).bind λc st'=>c.onB .stuck λq=>T4 q (wd g T N Φ ρ n w st') (.ok .none st')
theorem Kk (h:OK2 G c e) (hg:OK2 G d g):TB G [g] e (EG c d):=λz a a a a a L hD a a p=>
 wpAny_tests_one ((hg.t z L).qN p λb a z₁ u=>kq b (λp=>(iN O0).symm▸p z₁ (.refl z₁)) λp=>(iP rfl).symm▸qw h (L.to u) (u.sub.T _ hD) p)
abbrev DJ (a:Ar C) (c:CE) (B:Tabs→Nat→d7→Loc→Nat→V→St→Res) (ρ:Loc) (st:St):Res:=(a.ev c ρ st).bind λv st=>c8 (P7 v st) .stuck λsrc=>cH src.at (B b7.tabs a.N a.Φ ρ st.length) st.length a.N 0 (st++ [.list []])
theorem eY {z₁:Z a H} {p:d4} (u:To z z₁) (h:z₁.W p=b8):z.W p=none:=by
 cases hp:z.W p with
 | none=>rfl
 | some k=>exact nomatch h.symm.trans (u.ext p k hp)
theorem MG {I J:d4} {k:Nat} {src:Src} {m:c9→Option c5} (i:It W I k src) (w:OwnNs W J m):I≠J:=λh=>by
 obtain ⟨o,ds,Y,b,hd,_⟩:=w;cases i with
 | str s t o' e c a=>cases b.symm.trans (h▸e);exact nomatch hd.symm.trans a
 | tup l f xs n o' d e c a=>cases b.symm.trans (h▸e);exact nomatch hd.symm.trans a
 | rng lo hi O e=>cases b.symm.trans (h▸e);exact nomatch hd
 | live n p o' hp e c a=>cases b.symm.trans (h▸e);exact nomatch hd.symm.trans a
theorem It.nx {z':Z a st} {I J:d4} {k:Nat} {src:Src} (i:It z.W I k src) (n:Nx z z' J) (h:I≠J):It z'.W I k src:=by
 cases i with
 | str s t o a b c=>exact .str s t o (n.ext _ _ h a) b c
 | tup l q xs m o o' a b c d e f g=>exact .tup l q xs m o o' (n.ext _ _ h a) b c (n.sub.I _ _ d) e f (g.mono n.sub)
 | rng lo hi a b=>exact .rng lo hi a (n.ext _ _ h b)
 | live m p o a b c d=>exact .live m p o (n.sub.T _ a) (n.ext _ _ h b) c d
theorem OwnNs.nx {z':Z a st} {I J:d4} {m:c9→Option c5} (w:OwnNs z.W I m) (n:Nx z z' J) (h:I≠J):OwnNs z'.W I m:=w.elim λo q=>q.elim λds q=>q.elim λY q=>⟨o,ds,Y,n.ext _ _ h q.1,q.2⟩
theorem OwnNs.to {z':Z a st'} {I:d4} {m:c9→Option c5} (w:OwnNs z.W I m) (u:To z z'):OwnNs z'.W I m:=w.elim λo q=>q.elim λds q=>q.elim λY q=>⟨o,ds,Y,u.ext _ _ q.1,q.2⟩
theorem zm {I:d4} {m:c9→Option c5} {n:c9} {M:K9} {Q:Unit→d0→Prop} (w:OwnNs z.W I m) (k:∀z':Z a st,Nx z z' I→OwnNs z'.W I (λq=>if q=n then b6 y else m q)→Q () z'.s):c7 M A (nsSet I n y) Q E z.s:=by
 obtain ⟨o,ds,Y,c,hd,O,hm⟩:=w;exact X7 (s:=z.s) (z.inv.at_ _ _ c) hd O λh' j l h f b g u=>k (z.re I (b6 {o with data:= .dict j l}) h' _ c (B6 u) λb e=>k7 e▸h) .re ⟨_,j,l,iP rfl,rfl,f,λx=>(g x).trans (ite_congr rfl (λb=>rfl) λb=>hm x)⟩
variable {sc:Scope} {nv:c9} {px pos pos':n5} {ifs:List f6} {B:Tabs→Nat→d7→Loc→Nat→V→St→Res}
def Kf (a:Ar C) (env:i5) (j acc:c5) (x e:f6) (ifs:List f6) (I:Nat→d0→Prop) (R:X2→d0→Prop) (n:Nat) (s:d0):Prop:=c7 C.M a.A (pyNext j) (λr s₁=>match r with
   | none=>R (.ok .next) s₁
   | some v=>c7 C.M a.A (assign x env v) (λz s₂=>
     c7 C.M a.A (forIn ifs true λc r=>if r=true then do let o ← isTrue c env (eval c env);pure (ForInStep.yield o) else pure (ForInStep.yield r)) (λo d=>
      if o=true then c7 C.M a.A (eval e env) (λx f=>
       c7 C.M a.A (call (.builtin "list.append") [acc,x]) (λz g=>∃m,m < n∧I m g) (notedBy C.M a.A env λe b=>R (.error e) b) f) (notedBy C.M a.A env λe b=>R (.error e) b) d
      else ∃m,m < n∧I m d) (notedBy C.M a.A env λe b=>R (.error e) b) s₂) (notedBy C.M a.A env λe b=>R (.error e) b) s₁) (notedBy C.M a.A env λe b=>R (.error e) b) s
def NU (a:Ar C) (B:Tabs→Nat→d7→Loc→Nat→V→St→Res) (src:Src) (ρ:Loc) (l n k:Nat) (st:St):Res:=cH src.at (B b7.tabs a.N a.Φ ρ l) l n k st
inductive CoP (z₁:Z a H) (PP:Res→Prop) (B:Tabs→Nat→d7→Loc→Nat→V→St→Res) (src:Src) (ρ:Loc) (F D I:d4) (n:Nat):d0→Prop
 | mk {k st₂} (z₂:Z a st₂) (m):To z₁ z₂→OwnNs z₂.W F m→z₂.W D=b6 (.tr H.length)→It z₂.W I k src→PP (NU a B src ρ H.length n k st₂)→CoP z₁ PP B src ρ F D I n z₂.s
theorem zM {z₁:Z a H} {src:Src} {F D I:d4} {V:List (c9×d4)} (N0:0 < a.N) (hin:G.inner=b8) (hs:ScOk G.names nv sc) (hB:TB {G with inner:=b6 sc.names} ifs e B) (L:Cn G z env ρ) (K:∀x,sc.names.lookup x=b6 .free→V.lookup x=env.cells.lookup x) {use:Option (c5→j9 Unit)} {Q:c5→d0→Prop} {PP:Res→Prop} (X:¬PP .stuck)
  (O:∀v st' (z':Z a st') x I m,PP (.ok v st')→To z z'→VR z'.W v x→z.W I=b8→OwnNs z'.W I m→compPost C.M a.A E use Q x I (.ok .next) z'.s) (f:To z z₁) (hI:z₁.W I=b8) (hF:z₁.W F=b8) (Y:z.W F=b8) :
  ∀n s₂,CoP z₁ PP B src ρ F D I n s₂→Kf a (compEnvC sc V F env) (.ref I) (.ref D) (.Name nv px) e ifs (CoP z₁ PP B src ρ F D I) (compPost C.M a.A E use Q (.ref D) F) n s₂:=λn s₂ x=>by
 cases x with
 | @mk k st₂ z₅ m j c h i p=>
  have q:=MG i c;cases n with
  | zero=>exact absurd p X
  | succ n=>
   refine l6 (s:=Res.stuck) (P:=λr=>PP r→Kf a (compEnvC sc V F env) (.ref I) (.ref D) (.Name nv px) e ifs _ _ _ z₅.s) (λp=>absurd p X) (λo ho p=>?_) p;cases o with
   | none=>exact jA (a.hd N0) i ho λz' d=>O _ _ z' _ _ m p (f.trans (j.but hI d)) (.mk _ (d.sub.T _ h)) Y (c.nx d q.symm)
   | some w=>
    refine eU i ho λz₆ y d t R=>?_;have S:=j.but hI d;refine wpAny_assign_Name ?_;have hkv:(compEnvC sc V F env).kindOf nv=b6 .local:=(K4 (scope:=sc) (env:=env)).trans (by rw [hs.name];rfl);rw [storeName_local hkv (by show (sc.kind== .class||(sc.kind== .module&&_))=false;rw [hs.kind];rfl)];refine zm (c.nx d q.symm) λU b l=>?_;have g:=S.but hF b;have J:=Ew (L.to (f.trans g)) hin hs K l (iP rfl) (R.mono b.sub);exact hB U J (b.sub.T _ (d.sub.T _ h)) (PostN.of X (λst' z' u p=>⟨n,oC n,.mk z' _ (g.trans u) (l.to u) (u.sub.T _ (b.sub.T _ (d.sub.T _ h))) ((t.nx b q).to u) p⟩) p)
theorem kO (h:OK2 G c i) (S:∀x env,dT i env x=pure x) (o:G.inner=b8) (hs:ScOk G.names nv sc) (hB:TB {G with inner:=b6 sc.names} ifs e B) (L:Cn G z env ρ) {use:Option (c5→j9 Unit)} {Q:c5→d0→Prop}
  {PP:Res→Prop} (k:¬PP .stuck) (Y:∀x st',PP (.bad x st')→∀(z':Z a st') p,To z z'→Flight z' p x .none→E (.ref p) z'.s)
  (O:∀v st' (z':Z a st') x I m,PP (.ok v st')→To z z'→VR z'.W v x→z.W I=b8→OwnNs z'.W I m→compPost C.M a.A E use Q x I (.ok .next) z'.s) (p:PP (DJ a c B ρ st)) :
  c7 C.M a.A (comprehension (.ListComp e [⟨.Name nv px,i,ifs,0⟩] sc pos) sc env pos' (newList []) false (eval i env) use) Q E z.s:=by
 obtain ⟨V,R,K⟩:=kg (scope:=sc) (env:=env) λp hp S=>(hs.free p hp S).elim λj hj=>((L.inr o).2 _ _ hj).2;refine wpAny_comprehension_free (use:=use) rfl (λx=>S x env) R hs.kind hs.look ?_;have T:=h.e z L;have p:PP ((a.ev c ρ st).bind λv st=>c8 (P7 v st) .stuck λsrc=>NU a B src ρ st.length a.N 0 (st++ [.list []])):=p;generalize a.ev c ρ st=r at T p;refine T _ _ (Res.casesOn (motive:=λr=>PP (r.bind λv st=>c8 (P7 v st) .stuck λsrc=>NU a B src ρ st.length a.N 0 (st++ [.list []]))→Post z E r _) r (λv H p z₁ x d y=>?_) (λF F p=>(k p).elim) (λx st' p z' q u f=>Y x st' p z' q u f) (λp=>(k p).elim) p);refine l6 (s:=Res.stuck) (P:=λr=>PP r→c7 C.M a.A (pyIter x) _ E z₁.s) (λp=>absurd p k) (λsrc w p=>?_) p;have U:0 < a.N:=bD λe=>by
  rw [e] at p;exact k p
 refine nR (z:=z₁) (λI z₂ g X it=>xj ?_) y w;let z₃:=z₂.alloc z₂.h.objs.size (.list []) (z₂.h.push {cls:= .type "list",data:= .seq ([]:List c5).toArray}) z₂.t (i0 _) X5 (.mk #[] 0 (aS _ rfl) rfl);let z₄:=z₃.newOwn emptyO rfl;have D:To z₁ z₄:=g.trans (To.trans .alloced .immd);have hC:z₄.W z₃.h.objs.size=b6 (.own emptyO):=j6;have n:z₁.W z₃.h.objs.size=none:=eY (g.trans (To.alloced:To z₂ z₃)) z₃.fresh;have J:z₄.W z₂.h.objs.size=b6 (.tr H.length):=(To.immd (z:=z₃)).ext _ _ j6;have b:=it.to (To.trans (To.alloced:To z₂ z₃) (To.immd:To z₃ z₄));refine yh (s:=z₃.s) hs.cell ?_;have l:O3 C.M a.A (.compLoop (.ListComp e [⟨.Name nv px,i,ifs,0⟩] sc pos) 0 (.ref I) (.ref z₂.h.objs.size) (compEnvC sc V z₃.h.objs.size env)) (compPost C.M a.A E use Q (.ref z₂.h.objs.size) z₃.h.objs.size) z₄.s:=
  codeAny_compLoop_tests (CoP z₁ PP B src ρ z₃.h.objs.size z₂.h.objs.size I) (zM U o hs hB L K k O d X n (eY d n)) a.N (.mk z₄ (λF=>b8) D ⟨_,#[],0,hC,rfl,(λF he=>nomatch he),λF=>rfl⟩ J b p)
 exact codeAny_compStart_list l (yL b l)
end
end
section
variable {G:TC} {env:i5} {ρ ρ':Loc} {A:q8}
section
variable {c d f:CE} {e i g:f6} {sc:Scope} {nv n:c9} {px pos p' pa:n5} {ifs:List f6} {B:Tabs→Nat→d7→Loc→Nat→V→St→Res} {j:Nat}
theorem OwnNs.ns {I:d4} {m:c9→Option c5} (w:OwnNs z.W I m):z.s.heap.Ns I m:=w.elim λo q=>q.elim λds q=>q.elim λY q=>⟨o,ds,Y,z.inv.at_ _ _ q.1,q.2.1,q.2.2.1,q.2.2.2⟩
theorem OwnNs.lose {z₀:Z a H} {I:d4} {m:c9→Option c5} (w:OwnNs z.W I m) {h':j5} (u:aR I z.h h'):∃z':Z a st,z'.s={z.s with heap:=h'}∧Nx z z' I:=w.elim λo q=>q.elim λds q=>q.elim λY q=>⟨z.re I b8 h' z.t q.1 (B6 u) (λb e=>e6 e),rfl,.re⟩
theorem jg (h:OK2 G c i) (f:∀x env,dT i env x=pure x) (g:G.inner=b8) (hs:ScOk G.names nv sc) (hB:TB {G with inner:=b6 sc.names} ifs e B) (L:Cn G z env ρ):SE z (eval (.ListComp e [⟨.Name nv px,i,ifs,0⟩] sc pos) env) (DJ a c B ρ st):=λQ E p=>by
 rw [eval_ListComp];refine kO (use:=b8) h f g hs hB L (PP:=λr=>Post z E r Q) (λp=>p) (λx st' p=>p) (λv st' z' x I m p u r d w=>⟨m,w.ns,λh' s=>?_⟩) p;obtain ⟨b,hs,n⟩:=w.lose (z₀:=z) s;exact hs▸p b x (u.but d n) (r.mono n.sub)
theorem vj (h:OK2 G c i) (h':OK2 {G with inner:=b6 sc.names} d e) (b:∀x env,dT i env x=pure x) (g:G.inner=b8) (hs:ScOk G.names nv sc):OK2 G (.comp d c) (.ListComp e [⟨.Name nv px,i,[],0⟩] sc pos):=
 EOK.ok (λz a a L=>jg h b g hs (qh h') L) (λa a=>rfl) (by constructor <;> intros <;> rfl)
theorem ku (h:OK2 G c i) (h':OK2 {G with inner:=b6 sc.names} d e) (j:OK2 {G with inner:=b6 sc.names} f g) (k:∀x env,dT i env x=pure x) (a:G.inner=b8) (hs:ScOk G.names nv sc):OK2 G (.compIf d c f) (.ListComp e [⟨.Name nv px,i,[g],0⟩] sc pos):=
 EOK.ok (λz b b L=>jg (B:=EG d f) (ifs:= [g]) h k a hs (Kk h' j) L) (λb b=>rfl) (by constructor <;> intros <;> rfl)
theorem OwnNs.toS {z':Z a st'} {I:d4} {m:c9→Option c5} (w:OwnNs z.W I m) (u:ToS env z z') (e:¬Pl env I):OwnNs z'.W I m:=w.elim λo q=>q.elim λds q=>q.elim λY q=>⟨o,ds,Y,u.ext _ _ e q.1,q.2⟩
theorem rp {kd:B0} (D:r4 G.names n=b6 (j,kd)) (F:kd= .local∨kd= .cell) (h:OK2 G c i) (W:∀x env,dT i env x=pure x) (O:G.inner=b8) (hs:ScOk G.names nv sc) (hB:TB {G with inner:=b6 sc.names} ifs e B)
  (V:OK2 G d (.ListComp e [⟨.Name nv px,i,ifs,0⟩] sc pos)) (hd:∀{C:Cx} (a:Ar C) (ρ:Loc) (st:St),a.ev d ρ st=DJ a c B ρ st):F0 G (.set (.name j) d) (.Assign [.Name n p'] (.ListComp e [⟨.Name nv px,i,ifs,0⟩] sc pos) pa):=λ{C a st} z env ρ S=>by
 obtain ⟨b,J⟩:∃b,swapsWith (.ListComp e [⟨.Name nv px,i,ifs,0⟩] sc pos) (b6 (.Name n p')) pa.line env=pure b:=⟨_,rfl⟩
 show SO z G env _ (if a.N=0∧false=true then .stuck else (a.ev d ρ st).bindO ρ λv st=>c8 (n7 (.name j) v ρ) .stuck λρ'=> .next ρ' st);rw [iN λh=>nomatch h.2];intro Q E p;cases b with
 | false=>exact wpAny_Assign_Name ((V.e z S.cn).qO S.ls p λv H z₁ x u r p=>fg (g:=λρ'=> .next ρ' H) (P:=λo=>PostO z₁ G env E o Q→_) (λp=>p.elim) (λp=>E1 (S.ls.to u) D F r λz' Z l=>p z' Z l) p) J
 | true=>
  rw [exec_Assign_Name_used _ _ _ _ J];refine d1 (M0 (d1 ?_));show c7 _ a.A (do let _ ← comprehension (.ListComp e [⟨.Name nv px,i,ifs,0⟩] sc pos) sc env _ (newList []) false (eval i env) (b6 (assign (.Name n p') env))) _ _ z.s;refine d1 (aT (kO (use:=b6 (assign (.Name n p') env)) (Q:=λK L=>Q .next L) h W O hs hB S.cn (PP:=λr=>PostO z G env E (r.bindO ρ λv st=>c8 (n7 (.name j) v ρ) .stuck λρ'=> .next ρ' st) Q) (λp=>p) (λx st' p z' q u f=>p z' q u.s (S.ls.to u) (.fly _ (.inl rfl) f))
   (λv st' z' x I m p u r T w=>?_) (hd a ρ st▸p)) (λK L X=>g9 (g9 X)) λK K e=>e)
  have t:=S.ls.out T;refine fg (g:=λρ'=> .next ρ' st') (P:=λo=>PostO z G env E o Q→compPost C.M a.A E (b6 (assign (.Name n p') env)) (λK L=>Q .next L) x I (.ok .next) z'.s) (λp=>p.elim) (λp=>?_) p;refine show c7 C.M a.A (assign (.Name n p') env x) (λK y=>∃m,y.heap.Ns I m∧∀h',aR I y.heap h'→Q .next {y with heap:=h'}) E z'.s from wpAny_assign_Name (E1 (S.ls.to u) D F r λz₁ k l₁=>⟨m,(w.toS k t).ns,λh' Y=>?_⟩)
  obtain ⟨R,hs,U⟩:=(w.toS k t).lose (z₀:=z) Y;exact hs▸p R ((u.s.trans k).but T U) (l₁.nx t U)
end
end
theorem bZ {β:Type} (P:List c9):∀(ys:List β),P.Nodup→∀(i:Nat) (hi:i < P.length),(P.zip ys).lookup P[i]=ys[i]?:=by
 induction P with
 | nil=>exact λz z z hi=>absurd hi (P9 _)
 | cons p P ih=>
  intro ys g i hi;cases ys with
  | nil=>rw [List.zip_nil_right];rfl
  | cons y ys=>
   have h:=xr.mp g;rw [KV,K8];cases i with
   | zero=>rw [List.getElem_cons_zero,beq_self_eq_true];rfl
   | succ i=>
    have a:i < P.length:=Z7 hi;rw [List.getElem_cons_succ,show (P[i]==p)=false from beq_eq_false_iff_ne.mpr λe=>h.1 (e▸dX a)];exact ih ys h.2 i a
theorem kj {β:Type} {g:c9→Option β} (P:List c9):∀(ys:List β),P.length≤ys.length→(∀(i:Nat) (hi:i < P.length),g P[i]=ys[i]?)→(P.filterMap λn=>(g n).map (n,·))=P.zip ys:=by
 induction P with
 | nil=>exact λz z z=>rfl
 | cons p P ih=>
  intro ys h hg;cases ys with
  | nil=>exact absurd h (KG _)
  | cons y ys=>
   rw [KQ (f:=λn=>(g n).map (n,·)) (b:=(p,y)) (cG (dK (p,·)) (hg 0 (uZ _))),KV];exact cG ((p,y) :: ·) (ih ys (QM h) λi hi=>hg (i+1) (Nat.succ_lt_succ hi))
theorem uH {β:Type} {m:c9} {b a:List (c9×β)}:(a++b).lookup m=(a.lookup m).or (b.lookup m):=
 A3 rfl (λp a ih=>by
  rw [C5,K8,K8];cases m==p.1
  ·exact ih
  ·rfl) a
def Kg (x:c9×c5) (s:List (c9×c5)):j9 (ForInStep (List (c9×c5))):=if (jO x.fst s).isNone=true then pure (ForInStep.yield (s++ [(x.fst,x.snd)])) else pure (ForInStep.yield s)
theorem uw (Z:List (c9×c5)):∀acc,∃r,forIn Z acc Kg=(pure r:j9 (List (c9×c5)))∧∀m,r.lookup m=(acc.lookup m).or (Z.lookup m):=by
 induction Z with
 | nil=>exact λacc=>⟨acc,rfl,λm=>Option.or_none.symm⟩
 | cons p Z ih=>
  intro acc;rw [FA];by_cases h:(acc.lookup p.1).isNone=true
  ·refine (ih (acc++ [(p.1,p.2)])).imp λr q=>⟨(cG (λx:j9 (ForInStep (List (c9×c5)))=>x >>= _) (iP h)).trans q.1,λm=>(q.2 m).trans ?_⟩;rw [uH,Option.or_assoc];refine cG (Option.or _) ?_;rw [K8,K8]
   cases m==p.1 <;> rfl
  ·refine (ih acc).imp λr q=>⟨(cG (λx:j9 (ForInStep (List (c9×c5)))=>x >>= _) (iN h)).trans q.1,λm=>(q.2 m).trans ?_⟩;rw [K8];cases hm:m==p.1 with
   | false=>rfl
   | true=>cases a:acc.lookup m with
    | none=>exact absurd (cG FS (beq_iff_eq.mp hm▸a)) h
    | some v=>rfl
section
variable {P:List c9} {xs D:List c5} (hle:xs.length≤P.length) (hge:P.length≤xs.length+D.length) (hD:D.length≤P.length) (hnd:P.Nodup)
include hle hge hD hnd
theorem zs:(P.take (P.length-D.length)).filter (λn=>(jO n (P.zip xs)).isNone)= []:=
 KS.mpr λn g=>by
  obtain ⟨i,hi,rfl⟩:=List.mem_iff_getElem.mp g;rw [gj] at hi;rw [List.getElem_take,bZ P _ hnd i (M6 hi (wZ ..)),bt (M6 hi (d3 (JL ..) (rV hge)))];exact O0
theorem uv {r:List (c9×c5)} (q:∀m,r.lookup m=((P.zip xs).lookup m).or (((P.drop (P.length-D.length)).zip D).lookup m)):(P.filterMap λn=>(r.lookup n).map (n,·))=P.zip (xs++D.drop (D.length-(P.length-xs.length))):=by
 have O:P.length-xs.length≤D.length:=rV (G3 ..▸hge);have f:P.length-xs.length≤P.length:=vc ..;refine kj P _ (w2 ?_) λi hi=>?_
 ·rw [u3,oD,Fx O,rT hle]
 ·rw [q,bZ P _ hnd i hi];by_cases hx:i < xs.length
  ·rw [cg hx,bt hx];rfl
  ·have hx:=kt hx;have h1:P.length-D.length≤i:=d3 (rV hge) hx;have c:=bZ _ D (hnd.sublist (List.drop_sublist (P.length-D.length) P)) (i-(P.length-D.length)) (by rw [oD];exact Nat.sub_lt_sub_right h1 hi);rw [List.getElem_drop] at c;rw [KW hx,I2 hx,FR];have b:P.length-D.length+(i-(P.length-D.length))=i:=rT h1;have g:i-(P.length-D.length)=D.length-(P.length-xs.length)+(i-xs.length):=by
    refine Ld (n:=P.length-D.length) ?_;rw [b,← A2,Nat.sub_add_sub_cancel hD O,Fx hle,rT hx]
   simp only [b] at c;rw [← g,← c];rfl
def iM (P:List c9) (xs D:List c5) (R:j9 (List (c9×c5))):j9 (List (c9×c5)):=if (!((P.take (P.length-D.length)).filter λn=>(jO n (P.zip xs)).isNone).isEmpty)=true then R else
   forIn ((P.drop (P.length-D.length)).zip D) (P.zip xs) Kg >>= λr=>pure ((P++ []).filterMap λn=>(r.lookup n).map (n,·))
theorem qZ {M:K9} {A:q8} {E:c5→d0→Prop} {s:d0} {R:j9 (List (c9×c5))} {Q:List (c9×c5)→d0→Prop} (h:Q (P.zip (xs++D.drop (D.length-(P.length-xs.length)))) s):c7 M A (iM P xs D R) Q E s:=by
 obtain ⟨r,e,q⟩:=uw ((P.drop (P.length-D.length)).zip D) (P.zip xs);delta iM;rw [zs hle hge hD hnd,e,P0];exact wpAny_ite_false rfl (d1 (g9 (g9 (uv hle hge hD hnd q▸h))))
end
theorem sX {nm q:c9} {a:List Arg} {kd:List (Option f6)} {j:List f6} {e:FuncBody} {sc:Scope} {g:d4} {f:List (c9×d4)} {d k i p:c5} {c:Option d4} {J h:c5} {bi:d4} {xs:List c5} :
  ∃R b:Option (Array c5)→j9 (List (c9×c5)),PySem.bindArgs ⟨nm,q,⟨[],a,b8,[],kd,b8,j⟩,e,sc,g,f,d,k,i,p,c,J,h,bi⟩ ⟨xs,[]⟩=(seqItems? d >>= λo=>
   if (decide (xs.length > (a.map Arg.arg).length)&&true)=true then R o else iM (a.map Arg.arg) xs ((o.getD #[]).toList.drop ((o.getD #[]).toList.length-(a.map Arg.arg).length)) (b o)):=⟨_,_,rfl⟩
theorem yc {M:K9} {A:q8} {E:c5→d0→Prop} {s:d0} {fd:Z8} {xs:List c5} {P:List c9} {D:List c5} {Q:List (c9×c5)→d0→Prop}
  (h1:fd.params.posonlyargs= []) (q:fd.params.args.map (·.arg)=P) (t:fd.params.kwonlyargs= []) (u:fd.params.vararg=b8) (v:fd.params.kwarg=b8)
  (hd:c7 M A (seqItems? fd.defaults) (λr c=>(r.getD #[]).toList=D∧c=s) E s) (hle:xs.length≤P.length) (hge:P.length≤xs.length+D.length) (a:D.length≤P.length) (hnd:P.Nodup)
  (h:Q (P.zip (xs++D.drop (D.length-(P.length-xs.length)))) s):c7 M A (PySem.bindArgs fd ⟨xs,[]⟩) Q E s:=by
 obtain ⟨nm,x,⟨C,b,va,B,kd,kw,m⟩,f,sc,g,i,n,w,l,p,d,J,k,bi⟩:=fd;cases h1;cases t;cases u;cases v;obtain ⟨R,y,e⟩:= @sX nm x b kd m f sc g i n w l p d J k bi xs;refine e▸d1 (aT hd (λo c j=>?_) λz z e=>e);rw [j.1,j.2,show b.map Arg.arg=P from q,Nat.sub_eq_zero_of_le a,List.drop_zero];exact wpAny_ite_false (decide_eq_false λh=>absurd (of_decide_eq_true (q7.mp h).1) (ae.mpr hle)) (qZ hle hge a hnd h)
section
variable {C:Cx} {a:Ar C} {st H st':St} {z:Z a st} {W:Wd} {v w:V} {x y:c5} {E:c5→d0→Prop} {G:TC} {env:i5} {ρ ρ':Loc} {A:q8} {d:Nat}
theorem Z.cells (z:Z a st):∀l:List (c9×d4),(∀p∈l,z.h.IsCell p.2 b8∧z.W p.2=b8)→(l.Pairwise λx y=>x.2≠y.2)→∃z':Z a st,z'.s=z.s∧To z z'∧(∀q,(∀p∈l,p.2≠q)→z'.W q=z.W q)∧∀p∈l,∃o,z'.W p.2=b6 (.own o)∧o.data= .cell none:=
 A3 (λb b=>⟨z,rfl,.refl z,λb b=>rfl,λb h=>nomatch h⟩) λp r ih h hp=>by
  have hp:=List.pairwise_cons.mp hp;obtain ⟨z',hs,u,d,i⟩:=ih (λq m=>h q (F1 _ m)) hp.2;have h1:=h p D6;have g:z'.W p.2=none:=(d p.2 λq m e=>hp.1 q m e.symm).trans h1.2;obtain ⟨o,k,hd⟩:=h1.1;have j:z'.h=z.h:=cG d0.heap hs;refine ⟨z'.imm p.2 (.own o) (λb e=>nomatch e) z'.h z'.t g (λb b b e=>e) (λb=>j▸k),hs,u.trans .immd,λq m=>(E5 q λe=>m p D6 e.symm).trans (d q λp' c=>m p' (F1 _ c)),λq m=>(x8.mp m).elim (λe=>⟨o,e▸j6,hd⟩) λm=>(i q m).imp λo' f=>⟨D3 g _ _ f.1,f.2⟩⟩
structure Ar1 (a:Ar C) (A:q8) (d:Nat):Prop where
 frames:A.frames=b6 a.envs
 hd:0 < a.N→A.handled=b8
 depth:A.depth+1+2*d < recursionLimit
 units:A.units+3+20*d+100 < cLine
def Ar.into (a:Ar C) (h:Ar1 a A d) (env:i5) (O:env.scope.kind≠ .module) (Φ:d7) (sf:Option Nat):Ar C where
 A:=A.deeper env
 envs:=env :: a.envs
 N:=a.N
 d:=d
 Φ:=Φ
 slf:=sf
 frames:=(cG (dK (env :: ·)) h.frames:A.frames.map (env :: ·)=_)
 hd:=h.hd
 depth:=h.depth
 units:=h.units
 scop e he:=(x8.mp he).elim (λq=>q▸O) (a.scop e)
theorem yD:∀(names:List (c9×B0)) (n:Nat) (acc:List (c9×d4)) (x:c9),((x,.cell)∈names∨(acc.lookup x).isSome)→((cellsFrom n names acc).lookup x).isSome:=
 A3 (λz z z h=>h.elim (λh=>nomatch h) id) λp r ih n acc x h=>by
  obtain ⟨name,kind⟩:=p;unfold cellsFrom;exact if O:(kind==xc)=true then (iP O).symm▸ih (n+1) ((name,n) :: acc) x (if hx:x=name then .inr (by rw [K8,hx,beq_self_eq_true];rfl) else
    h.imp (λh=>(x8.mp h).resolve_left λe=>hx (cG Prod.fst e)) λh=>by rw [K8,beq_eq_false_iff_ne.mpr hx];exact h)
   else (iN O).symm▸ih n acc x (h.imp (λh=>(x8.mp h).resolve_left λ(e:(x,xc)=(name,kind))=>O (beq_iff_eq.mpr (cG Prod.snd e).symm)) id)
abbrev frameO:Obj:={cls:= .type "frame",data:= .dict #[]}
inductive FrameP (z:Z a st) (h1:Ar1 a A d) (fd:Z8) (adr:d4) (O:fd.scope.kind≠ .module) (Φ:d7) (sf:Option Nat):Prop
 | mk (z':Z (a.into h1 (Q1 fd z.h.objs.size adr) O Φ sf) st):z'.s={z.s with heap:=pushCells (z.h.push frameO) fd.scope.names}→(∀p k,z.W p=b6 k→z'.W p=b6 k)→
   LS z'.W ⟨fd.scope.names,b8⟩ (Q1 fd z.h.objs.size adr) (dW fd.scope.names.length b8)→(∀p,Pl (Q1 fd z.h.objs.size adr) p→z.W p=b8)→FrameP z h1 fd adr O Φ sf
theorem Aq (z:Z a st) (h1:Ar1 a A d) {fd:Z8} {adr:d4} (D:fd.scope.kind= .function) (hg:fd.globals=N9) (B:fd.builtins=jS) (O:fd.scope.kind≠ .module) {Φ:d7} {sf:Option Nat}:FrameP z h1 fd adr O Φ sf:=by
 have m:=cellsFrom_ok fd.scope.names (z.h.push frameO) (z.h.objs.size+1) [] ⟨λl l hm=>(nomatch hm),List.Pairwise.nil⟩ (w2 (lZ ..).symm);rw [lZ] at m;have keep:∀b o,z.h.get? b=b6 o→(pushCells (z.h.push frameO) fd.scope.names).get? b=b6 o:=λb o e=>pushCells_keeps _ _ b o (I4 _ e);obtain ⟨z₁,hs,u,w,C⟩:=(z.keep (pushCells (z.h.push frameO) fd.scope.names) z.t keep).cells (cellsFrom (z.h.objs.size+1) fd.scope.names []) (λp hp=>⟨(m.empty p.1 p.2 hp).1,z.inv.fresh (dO (m.empty p.1 p.2 hp).2)⟩) m.apart;have hL:z₁.W z.h.objs.size=none:=(w _ λp hp e=>absurd (m.empty p.1 p.2 hp).2 (e▸Nat.not_succ_le_self _)).trans z.fresh;have G:(pushCells (z.h.push frameO) fd.scope.names).get? z.h.objs.size=b6 frameO:=pushCells_keeps _ _ _ _ (aS _ rfl);have E:z₁.h=pushCells (z.h.push frameO) fd.scope.names:=cG d0.heap hs;let z₂:=z₁.imm z.h.objs.size (.fr #[] 0) (λl e=>nomatch e) z₁.h z₁.t hL (λl l l e=>e) λl=> .mk frameO (E▸G) rfl rfl λl he=>nomatch he
 have n:∀p k,z.W p=b6 k→z₂.W p=b6 k:=λp k e=>D3 hL _ _ (u.ext p k e);have g:∀x c,(cellsFrom (z.h.objs.size+1) fd.scope.names []).lookup x=b6 c→∃o,z₂.W c=b6 (.own o)∧o.data= .cell none:=λx c h=>(C (x,c) (mem_of_lookup h)).imp λo q=>⟨D3 hL _ _ q.1,q.2⟩;refine .mk ⟨z₂.W,z₂.h,z₂.t,z₂.inv,λe he=>(x8.mp he).elim (λq=>q▸ .mk z.h.objs.size #[] 0 rfl j6) (z₂.fr e)⟩ hs n {fn:=D,gl:=hg,bi:=B,inn:=rfl,nm:=λl=>rfl,len:=List.length_replicate,frame:=rfl,apart:=λx y c hx H=>name_of_addr m.apart (mem_of_lookup hx) (mem_of_lookup H),loc:=⟨#[],0,j6,λi x v _ hv=>?_⟩,cell:=λx j F=>?_,all:=λp hp=>?_} λp hp=>?_
 ·rw [KP] at hv;exact C3 (s:=b8) (f:=b6 b8) (P:=λo=>o=b6 (b6 v)→_) (λe=>e6 e) (λl e=>nomatch e) hv
 ·obtain ⟨c,M⟩:=xd.mp (yD fd.scope.names (z.h.objs.size+1) [] x (.inl (mem_of_lookup (t6 F).1)));obtain ⟨o,h1,r⟩:=g x c M;refine .mk c o b8 M h1 r λv hv=>?_;rw [KP] at hv;exact C3 (s:=b8) (f:=b6 b8) (P:=λo=>FC o=b6 v→∃y,b8=b6 y∧VR z₂.W v y) (λe=>e6 e) (λl e=>e6 e) hv
 ·exact hp.elim (λe=>⟨_,iP e⟩) λh=>h.elim λx h=>(g x p h).elim λo q=>⟨_,q.1⟩
 ·exact hp.elim (λe=>e▸z.fresh) λh=>h.elim λx h=>z.inv.fresh (dO (m.empty x p (mem_of_lookup h)).2)
def bc:Loc→Nat→List V→Loc
 | ρ,_,[]=>ρ
 | ρ,j,v :: r=>bc (ρ.set j (b6 v)) (j+1) r
theorem Xo {ρ:Loc} {j:Nat} {v:V} {r:List V}:bc ρ j (v :: r)=bc (ρ.set j (b6 v)) (j+1) r:=rfl
theorem uA:∀(vs:List V) (done:Loc) (n:Nat),vs.length≤n→bc (done++dW n b8) done.length vs=done++vs.map b6++dW (n-vs.length) none:=
 A3 (λdone n z=>(cG (·++dW n b8) (P0 done)).symm) λv r ih done n h=>by
  cases n with
  | zero=>exact absurd h (KG _)
  | succ n=>
   have e:=ih (done++ [b6 v]) n (QM h);rw [Xo,dY _ _ (i0 _),I3,G2,Nat.succ_sub_succ,Q0];rw [e7,u3,e7 done [b6 v]] at e;exact e
theorem xN (f:c9×c5→PUnit→j9 (ForInStep PUnit)) (o:∀n v u,f (n,v) u=(do storeName env n v;pure (.yield ⟨⟩))) :
  ∀(l:List (c9×c5)) (vs:List V) (j:Nat) (ρ:Loc) (z:Z a st) (Q:PUnit→d0→Prop),LS z.W G env ρ→VRs z.W vs (l.map (·.2))→(∀i p,l[i]?=b6 p→∃k,r4 G.names p.1=b6 (j+i,k)∧(k= .local∨k= .cell))→
   (∀z':Z a st,ToS env z z'→LS z'.W G env (bc ρ j vs)→Q ⟨⟩ z'.s)→c7 C.M A (forIn l ⟨⟩ f) Q E z.s:=
 A3 (λvs j ρ z Q S b _ h=>by
   cases vs with
   | nil=>rw [List.forIn_nil];exact g9 (h z (.refl z) S)
   | cons=>exact nomatch b) λp l ih vs j ρ z Q S b O h=>by
  obtain ⟨n,y⟩:=p;cases vs with
  | nil=>exact nomatch b
  | cons v vs=>cases b with
   | mk x xs r b=>
    rw [FA,o];obtain ⟨k,D,d⟩:=O 0 _ rfl;exact d1 (d1 (E1 S D d r λz' u g=>g9 (ih vs (j+1) _ z' Q g (u.vrs b) (λi p hp=>(O (i+1) p hp).imp λk q=>⟨q.1.trans (cG (λm=>b6 (m,k)) ((Ai j i 1:j+i+1=j+1+i))),q.2⟩) λe t c=>h e (u.trans t) c)))
theorem qz:∀(names:List (c9×B0)),(names.map (·.1)).Nodup→∀(i:Nat) p,names[i]?=b6 p→r4 names p.1=b6 (i,p.2):=
 A3 (λz z z h=>e6 h) λq r ih g i p hp=>by
  have g:=xr.mp g;rw [RU];cases i with
  | zero=>cases hp;exact iP rfl
  | succ i=>exact (iN λe=>g.1 (O1.mpr ⟨p,xq hp,e.symm⟩)).trans (by rw [ih g.2 i p hp];rfl)
end
section
set_option backward.match.sparseCases true
variable {C:Cx} {a:Ar C} {st H st':St} {z:Z a st} {W:Wd} {v w:V} {x y:c5} {E:c5→d0→Prop} {G:TC} {env:i5} {ρ ρ':Loc} {A:q8} {d:Nat} {Φ:d7} {sf:Option Nat}
abbrev Cx.w0 (C:Cx):Wd:=λp=>(C.s₀.heap.get? p).map .imm
theorem Z.sub0 (z:Z a st):Sub C.w0 z.W:=λp k b e=>(ch.mp e).elim λo h=>h.2▸z.inv.stay p o h.1
structure FnAt (C:Cx) (adr:d4) (f:CFn) (o:f7) (fd:Z8) (body:List n6):Prop where
 at_:C.s₀.heap.get? adr=b6 o
 data:o.data= .func fd
 text:fd.body= .stmts body
 chk:bq ⟨fd.scope.names,b8⟩ f.body body
 kind:fd.scope.kind= .function
 co:fd.scope.isCoroutine=false
 gen:fd.scope.isGenerator=false
 clo:fd.closure= []
 gl:fd.globals=N9
 bi:fd.builtins=jS
 code:C.s₀.heap.CodeRec fd.code fd.qualname
 nloc:f.nloc=fd.scope.names.length
 pos:fd.params.posonlyargs= []
 kwo:fd.params.kwonlyargs= []
 va:fd.params.vararg=b8
 kw:fd.params.kwarg=b8
 par:fd.params.args.map (·.arg)=(fd.scope.names.take f.npar).map (·.1)
 npar:f.npar≤fd.scope.names.length
 kinds:∀p∈fd.scope.names.take f.npar,p.2= .local∨p.2= .cell
 nodup:(fd.scope.names.map (·.1)).Nodup
 dlen:f.dflt.length≤f.npar
 dflt:(f.dflt= []∧fd.defaults= .none)∨∃da oo n xs,fd.defaults= .ref da∧C.s₀.heap.get? da=b6 oo∧oo.data= .seq xs n∧VRs C.w0 f.dflt xs.toList
theorem wU {adr:d4} {f:CFn} {o:f7} {fd:Z8} {body:List n6} (F:FnAt C adr f o fd body):aE C (.ref adr):=⟨.frame,.inl rfl,λA s Q E e q=>by
 delta keeperOf;refine d1 (wpAny_load (e _ _ F.at_) ?_);rw [F.data];exact g9 q⟩
structure ToF (sf:Option Nat) (z:Z a st) (z':Z a st'):Prop where
 ext:∀p k,z.W p=b6 k→z'.W p=b6 k
 grow:st.length≤st'.length
 keep:∀k,k≤st.length→(∀n,sf=b6 n→k≤n)→OldK k st→OldK k st'
theorem ToF.to {z':Z a st'} (u:ToF b8 z z'):To z z':=⟨u.ext,u.grow,λk O b h=>u.keep k O (λb e=>e6 e) h⟩
def iO (z:Z a st) (sf:Option Nat) (R:X2→d0→Prop) (r:Res):Prop:=Res.casesOn (motive:=λb=>Prop) r (λv st'=>∀(z':Z a st') x,ToF sf z z'→VR z'.W v x→R (.ok (.ret x)) z'.s)
 (λe st'=>∀(z':Z a st') p,ToF sf z z'→NewExc z' p e→R (.ok (.ret (.ref p))) z'.s) (λe st'=>∀(z':Z a st') p,ToF sf z z'→Flight z' p e .none→R (.error (.ref p)) z'.s) False
section
variable {adr:d4} {f:CFn} {o:f7} {fd:Z8} {body:List n6} {args:List V} {xs:List c5}
inductive DfltP (z:Z a st) (f:CFn) (fd:Z8):Prop
 | mk (D:List c5):(∀{M:K9} {A:q8} {E:c5→d0→Prop},c7 M A (seqItems? fd.defaults) (λr s'=>(r.getD #[]).toList=D∧s'=z.s) E z.s)→VRs z.W f.dflt D→DfltP z f fd
theorem xJ (z:Z a st) (F:FnAt C adr f o fd body):DfltP z f fd:=F.dflt.elim (λh=> .mk [] (λ{M A E}=>by
  rw [h.2];delta seqItems?;exact d1 (g9 (g9 ⟨rfl,rfl⟩))) (h.1▸rfl)) λh=>by
 obtain ⟨e,g,n,xs,h1,c,b,d⟩:=h;refine .mk xs.toList (λ{M A E}=>?_) (d.mono z.sub0);rw [h1];delta seqItems?;refine d1 (wpAny_load (s:=z.s) (z.inv.keep0 _ _ c) ?_);rw [b];exact g9 ⟨rfl,rfl⟩
variable {h1:Ar1 a A d} {O:env.scope.kind≠ .module}
def Z.out (z:Z (a.into h1 env O Φ sf) st):Z a st:=⟨z.W,z.h,z.t,z.inv,λe he=>z.fr e (F1 _ he)⟩
theorem NewExc.out {z:Z (a.into h1 env O Φ sf) st} {p:d4} {e:Exc} (n:NewExc z p e):NewExc z.out p e:=by cases n with | mk t d a b c F=>exact .mk t d a b c F
theorem Flight.out {z:Z (a.into h1 env O Φ sf) st} {p:d4} {e:Exc} {fl:c5} (f:Flight z p e fl):Flight z.out p e fl:=by
 cases f with | mk o vs T G ts d a b c F e f g h i j k l m n=>exact .mk o vs T G ts d a b c F e f g h i j k l m n
theorem cC (h1:Ar1 a A d) (F:FnAt C adr f o fd body) (r:VRs z.W args xs) {R:X2→d0→Prop} (w:fd.scope.kind≠ .module) (T:F8 f args=b6 ρ)
  (k:∀z₂:Z (a.into h1 (Q1 fd z.h.objs.size adr) w Φ sf) st,LS z₂.W ⟨fd.scope.names,b8⟩ (Q1 fd z.h.objs.size adr) ρ→(∀p k,z.W p=b6 k→z₂.W p=b6 k)→(∀p,Pl (Q1 fd z.h.objs.size adr) p→z.W p=b8)→
   c7 C.M (A.deeper (Q1 fd z.h.objs.size adr)) (PySem.execs body (Q1 fd z.h.objs.size adr)) (λf U=>R (.ok (.ret (match f with | .ret v=>v | _=> .none))) U) (λe U=>c7 C.M (A.deeper (Q1 fd z.h.objs.size adr)) (leaving (Q1 fd z.h.objs.size adr) e) (λI n=>R (.error e) n) (λe' n=>R (.error e') n) U) z₂.s) :
  O3 C.M A (.call (.ref adr) ⟨xs,[]⟩) R z.s:=by
 refine C3 (s:=b8) (P:=λo=>o=b6 ρ→O3 C.M A (.call (.ref adr) ⟨xs,[]⟩) R z.s) (λe=>e6 e) (λB J=>?_) T;obtain ⟨x,y,Y⟩:=B;have m:=r.length;obtain ⟨c,oc,vs,tq,X,N,K,O⟩:=F.code;refine codeAny_call_function (s:=z.s) (J7 (d3 (w7 _) (A7 _ _)) h1.depth) (z.inv.keep0 _ _ F.at_) F.data F.co F.gen F.text ⟨c,oc,vs,tq,X,z.inv.keep0 _ _ N,K,O⟩ ?_;cases xJ z F with
 | mk D hD V=>
  have j:=V.length;have b:((fd.scope.names.take f.npar).map (·.1)).length=f.npar:=by rw [u7,gj,gi F.npar]
  refine yc F.pos F.par F.kwo F.va F.kw hD (by rw [b,m];exact x) (by rw [b,m,j];exact y) (by rw [b,j];exact F.dlen) (by rw [List.map_take];exact F.nodup.sublist (List.take_sublist _ _)) ?_;rw [F.clo];simp only [newFunctionEnv,KN,bF,if_false];refine d1 (wpAny_alloc ?_);refine d1 (wpAny_layCells _ (λname kind cells=>by cases L:kind==xc <;> simp [L]) _ _ _ _ ?_);rw [show ({z.s with heap:=z.s.heap.push {cls:= .type "frame",data:= .dict #[]}}:d0).heap.objs.size=z.h.objs.size+1 from lZ ..];cases Aq z h1 (fd:=fd) (adr:=adr) F.kind F.gl F.bi w (Φ:=Φ) (sf:=sf) with
  | mk z₁ hs ext S E=>
   have sub:Sub z.W z₁.W:=λp k I=>ext p k;have g:VRs z.W (args++f.dflt.drop (f.dflt.length-(f.npar-args.length))) (xs++D.drop (D.length-(((fd.scope.names.take f.npar).map (·.1)).length-xs.length))):=by
    rw [b,m,j];exact r.append (V.drop _)
   have l:(args++f.dflt.drop (f.dflt.length-(f.npar-args.length))).length=f.npar:=by rw [u3,oD,Fx (rV (G3 ..▸y)),rT x]
   have Q:=g.length.trans l;refine d1 (show c7 C.M A.in1 _ _ _ {z.s with heap:=pushCells (z.h.push frameO) fd.scope.names} from hs▸xN (env:=Q1 fd z.h.objs.size adr) _ (λI I I=>rfl) _ (args++f.dflt.drop (f.dflt.length-(f.npar-args.length))) 0 _ z₁ _ S ?_ (λi q O=>?_) λz₂ H S₂=>g9 ?_)
   ·rw [List.map_snd_zip (w2 (Q.trans b.symm))];exact g.mono sub
   ·obtain ⟨hi,e⟩:=U6.mp O;rw [List.getElem_zip] at e;have t:i < f.npar:=M6 hi (by rw [List.length_zip,b];exact JL _ _);have u:i < fd.scope.names.length:=M6 t F.npar;refine ⟨fd.scope.names[i].2,?_,F.kinds _ (List.mem_take_iff_getElem.mpr ⟨i,Nat.lt_min.mpr ⟨t,u⟩,rfl⟩)⟩;rw [← e,gC,List.getElem_map,List.getElem_take];exact qz fd.scope.names F.nodup i _ (bt u)
   ·refine ⟨C.lim.keeps z₂.inv.keep0,codeAny_func ?_⟩;have G:bc (dW fd.scope.names.length b8) 0 (args++f.dflt.drop (f.dflt.length-(f.npar-args.length)))=ρ:=by
     have:=uA (args++f.dflt.drop (f.dflt.length-(f.npar-args.length))) [] fd.scope.names.length (d3 (w2 l) F.npar);rw [H1,H1,l,← F.nloc] at this;exact F.nloc▸this.trans (k7 J)
    rw [G] at S₂;exact k z₂ S₂ (λp q e=>H.ext p q (λh=>nomatch (E p h).symm.trans e) (ext p q e)) E
theorem oh (h1:Ar1 a A d) (P:P5 C a.N d Φ) (F:FnAt C adr f o fd body) (r:VRs z.W args xs) {R:X2→d0→Prop} (p:iO z sf R (P6 b7 a.N Φ sf f args st)):O3 C.M A (.call (.ref adr) ⟨xs,[]⟩) R z.s:=by
 have w:fd.scope.kind≠ .module:=F.kind▸nofun
 refine l6 (s:=Res.stuck) (P:=λr=>iO z sf R r→O3 C.M A (.call (.ref adr) ⟨xs,[]⟩) R z.s) (λp=>p.elim) (λρ T p=>cC (Φ:=Φ) (sf:=sf) h1 F r w T λz₂ S₂ ext B=>?_) p;have hF:∀{st'} {z':Z (a.into h1 (Q1 fd z.h.objs.size adr) w Φ sf) st'},ToS (Q1 fd z.h.objs.size adr) z₂ z'→ToF sf z z'.out:=λu=>⟨λp k e=>u.ext p k (λh=>nomatch (B p h).symm.trans e) (ext p k e),u.grow,u.keep⟩;refine F.chk z₂ ⟨S₂,P,⟨a.envs,rfl⟩⟩ _ _ ?_;have p:iO z sf R ((execs b7.tabs a.N Φ sf f.body ρ st).res):=p;show PostO z₂ _ _ _ (execs b7.tabs a.N Φ sf f.body ρ st) _;generalize execs b7.tabs a.N Φ sf f.body ρ st=r at p;exact Out.casesOn (motive:=λr=>iO z sf R r.res→PostO z₂ ⟨fd.scope.names,b8⟩ (Q1 fd z.h.objs.size adr) _ r _) r (λρ' st' p z' u l=>p z'.out .none (hF u) rfl) (λi i p=>p.elim) (λv st' p z' x u r l=>p z'.out x (hF u) r) (λe st' p z' q u n=>p z'.out q (hF u) n.out)
  (λe ρ' st' p z' q u l f=>tn (L:=z.h.objs.size) rfl rfl f λb g c=>p b.out q (hF (u.trans g.s)) c.out) (λp=>p.elim) p
end
end
section
variable {k:Nat} {p:d4} {q:Kn}
def mZ (k:Nat) (W:Wd):Wd:=λp=>(W p).bind λq=>Kn.casesOn (motive:=λz=>Option Kn) q (λo=>b6 (.imm o)) (λo=>b6 (.own o)) (λes Y=>b6 (.fr es Y)) λn=>if n < k then b6 (.tr n) else b8
theorem cJ (e:W p=b6 q) (h:∀n,q= .tr n→n < k):mZ k W p=b6 q:=by
 delta mZ;rw [e];cases q with
 | tr n=>exact iP (h n rfl)
 | _=>rfl
theorem du (e:mZ k W p=b6 q):W p=b6 q∧∀n,q= .tr n→n < k:=by
 delta mZ at e;generalize W p=o at e;cases o with
 | none=>exact e6 e
 | some a=>cases a with
  | tr n=>exact C3 (s:=b8) (f:=b6 (Kn.tr n)) (P:=λo=>o=b6 q→b6 (Kn.tr n)=b6 q∧∀n,q= .tr n→n < k) (λe=>e6 e) (λh e=>⟨e,λm hm=>om (k7 (e.trans (cG b6 hm)))▸h⟩) e
  | _=>cases e;exact ⟨rfl,λn h=>nomatch h⟩
theorem qd:∀p o,W p=b6 (.imm o)→mZ k W p=b6 (.imm o):=λp o e=>cJ e λn h=>nomatch h
theorem wF:∀p n,n < k→W p=b6 (.tr n)→mZ k W p=b6 (.tr n):=λp n h e=>cJ e λm hm=>om hm▸h
def Z.trim (z:Z a st') (k:Nat) (O:k≤st'.length) (j:OldK k st'):Z a (st'.take k) where
 W:=mZ k z.W
 h:=z.h
 t:=z.t
 inv:=by
  have f:(st'.take k).length=k:=gj.trans (gi O);have g:∀{n o},(st'.take k)[n]?=b6 o→st'[n]?=b6 o:=λ{n o} e=>C3 (s:=b8) (P:=λu=>u=b6 o→st'[n]?=b6 o) (λe=>e6 e) (λl e=>e) (KM.symm.trans e);refine ⟨λb o e=>qd _ _ (z.inv.stay b o e),λp q e=>?_,λp p' n e e'=>z.inv.inj p p' n (du e).1 (du e').1,λn i=>(z.inv.sur n (M6 i (d3 (w2 f) O))).imp λp e=>wF p n (f▸i) e,λp n e=>z.inv.new p n (du e).1⟩;have c:=du e;have h:=z.inv.at_ p q c.1;cases q with
  | tr n=>exact ⟨f.symm▸c.2 n rfl,λo d=>OR.same (U:=V.und k) (Us:=V.unds k) (λl e=>e) (VR.cut qd wF) (VRs.cut qd wF) (j n o (c.2 n rfl) (g d)) (h.2 o (g d))⟩
  | _=>exact h
 fr e he:=by cases z.fr e he with | mk L es Y a b=>exact .mk L es Y a (cJ b λn h=>nomatch h)
theorem To.trimmed {z':Z a st'} (u:To z z') {O c}:To z (z'.trim st.length O c):=⟨λp q e=>cJ (u.ext p q e) λn h=>z.inv.lt p n (h▸e),by rw [gj,gi u.grow];exact i0 _,
 λj b hs h i o hi e=>u.keep j b hs h i o hi (C3 (s:=b8) (P:=λr=>r=b6 o→st'[i]?=b6 o) (λe=>e6 e) (λd e=>e) (KM.symm.trans e))⟩
theorem NewExc.with {a:Ar C} {z:Z a st} {z':Z a st'} {p:d4} {e:Exc} (n:NewExc z p e) (g:z'.h=z.h) (f:∀p,z.W p=b8→z'.W p=b8):NewExc z' p e:=by cases n with | mk t d a b c F=>exact .mk t d (f _ a) (f _ b) (g▸c) (g▸F)
theorem Flight.with {a:Ar C} {z:Z a st} {z':Z a st'} {p:d4} {e:Exc} {fl:c5} (f:Flight z p e fl) (r:z'.h=z.h) (q:∀p,z.W p=b8→z'.W p=b8):Flight z' p e fl:=by
 cases f with | mk o vs T G ts d a b c F e f g h i j k l m n=>exact .mk o vs T G ts d (q _ a) (q _ b) (q _ c) F (r▸e) f g h i (r▸j) k l m (r▸n)
theorem iS (e:W p=b8):mZ k W p=none:=by delta mZ;rw [e];rfl
theorem zt {R:X2→d0→Prop} {Q:c5→d0→Prop} (m:∀x s,Q x s→R (.ok (.ret x)) s) (he:∀x s,E x s→R (.error x) s):∀{r:Res},Post z E (r.trim st.length) Q→iO z b8 R r:=λ{r}=>
 Res.casesOn r (λv st' p z' x u r=>m _ _ (show Q x z'.s from if a:v.flat=true then by
   have p:Post z E (.ok v (if v.flat=true then st'.take st.length else st')) Q:=p;rw [iP a] at p;exact p (z'.trim st.length u.grow (u.keep _ (i0 _) (λn h=>e6 h) z.inv.oldK)) x u.to.trimmed (VR.cut qd wF (V.und_flat a) r)
  else by
   have p:Post z E (.ok v (if v.flat=true then st'.take st.length else st')) Q:=p;rw [iN a] at p;exact p z' x u.to r))
  (λe st' p z' q u n=>m _ _ (p (z'.trim st.length u.grow (u.keep _ (i0 _) (λn h=>e6 h) z.inv.oldK)) q u.to.trimmed (n.with rfl λb=>iS))) (λe st' p z' q u n=>he _ _ (p (z'.trim st.length u.grow (u.keep _ (i0 _) (λn h=>e6 h) z.inv.oldK)) q u.to.trimmed (n.with rfl λb=>iS))) id
def uQ (W:Wd) (h:j5):Wd:=λp=>(W p).bind λq=>Kn.casesOn (motive:=λz=>Option Kn) q (λo=>b6 (.imm o)) (λo=>b6 (.own o)) (λes Y=>b6 (.fr es Y)) λn=>(h.get? p).map .own
theorem ai {h:j5} (e:W p=b6 q) (m:∀n,q≠ .tr n):uQ W h p=b6 q:=by
 delta uQ;rw [e];cases q with
 | tr n=>exact absurd rfl (m n)
 | _=>rfl
theorem Ob {h:j5} {n:Nat} {o:f7} (e:W p=b6 (.tr n)) (a:h.get? p=b6 o):uQ W h p=b6 (.own o):=by
 delta uQ;rw [e];exact cG (dK Kn.own) a
theorem jx {h:j5} (e:uQ W h p=b6 q):(W p=b6 q∧∀n,q≠ .tr n)∨∃n o,W p=b6 (.tr n)∧h.get? p=b6 o∧q= .own o:=by
 delta uQ at e;generalize a:W p=w at e;cases w with
 | none=>exact e6 e
 | some k=>cases k with
  | tr n=>exact (ch.mp e).elim λo h=> .inr ⟨n,o,rfl,h.1,h.2.symm⟩
  | _=>cases e;exact .inl ⟨rfl,λn h=>nomatch h⟩
def Z.off (z:Z a st):Z a [] where
 W:=uQ z.W z.h
 h:=z.h
 t:=z.t
 inv:=by
  refine ⟨λb o e=>ai (z.inv.stay b o e) λn h=>(nomatch h),λp q e=>?_,λp p' n e e'=>?_,λn g=>absurd g (P9 n),λp n e=>?_⟩
  ·rcases jx e with ⟨h,m⟩ | ⟨n,o,h,c,rfl⟩
   ·have r:=z.inv.at_ p q h;cases q with
    | tr n=>exact absurd rfl (m n)
    | _=>exact r
   ·exact c
  ·rcases jx e with ⟨h,m⟩ | ⟨n,o,h,c,m⟩
   ·exact absurd rfl (m n)
   ·exact nomatch m
  ·rcases jx e with ⟨h,m⟩ | ⟨n,o,h,c,m⟩
   ·exact absurd rfl (m n)
   ·exact nomatch m
 fr e he:=by cases z.fr e he with | mk L es Y a b=>exact .mk L es Y a (ai b λn h=>(nomatch h))
theorem Jv {l:List V} {xs:List c5} (a:V.flats l=true) (r:VRs z.W l xs):VRs z.off.W l xs:=VRs.cut (k:=0) (λp o e=>ai e λn h=>nomatch h) (λp n h=>absurd h (P9 n)) (V.unds_flat a) r
def Wv (o:Option Kn):Option Nat:=o.bind λq=>Kn.casesOn (motive:=λz=>Option Nat) q (λz=>b8) (λz=>b8) (λz z=>b8) b6
def pI (k:Nat) (q:Kn):Kn:=Kn.casesOn (motive:=λz=>Kn) q .imm .own .fr λn=> .tr (k+n)
def nt (k:Nat) (W W':Wd):Wd:=λp=>c8 (Wv (W p)) ((W' p).map (pI k)) λn=>b6 (.tr n)
section
variable {W':Wd} {n:Nat}
theorem dg (e:W p=b6 (.tr n)):nt k W W' p=b6 (.tr n):=by delta nt;rw [e];rfl
theorem U1 (h:∀n,W p≠b6 (.tr n)):nt k W W' p=(W' p).map (pI k):=by
 delta nt;generalize a:W p=w at h;cases w with
 | none=>rfl
 | some q=>cases q with
  | tr n=>exact absurd rfl (h n)
  | _=>rfl
theorem JS (W:Wd) (p:d4):(∃n,W p=b6 (.tr n))∨∀n,W p≠b6 (.tr n):=Classical.byCases .inl λh=> .inr λn e=>h ⟨n,e⟩
end
theorem nF (z:Z a st) (z':Z a st') (u:To z.off z') {n:Nat} (e:z.W p=b6 (.tr n)):∃o,z.h.get? p=b6 o∧z'.W p=b6 (.own o):=(z.inv.at_ p _ e).live.elim λo b=>⟨o,b,u.ext p _ (Ob e b)⟩
theorem gG (z:Z a st) (z':Z a st') (u:To z.off z') (e:z'.W p=b6 q) (m:∀o,q≠ .own o):∀n,z.W p≠b6 (.tr n):=λn h=>(nF z z' u h).elim λo r=>m o (k7 (e.symm.trans r.2))
theorem og (z:Z a st) (z':Z a st') (u:To z.off z'):Sub z.W (nt st.length z.W z'.W):=λp q s e=>by
 cases q with
 | tr n=>exact dg e
 | imm o=>
  have e':=u.ext p _ (ai e λn h=>nomatch h);exact (U1 (gG z z' u e' λo h=>nomatch h)).trans (cG (dK (pI _)) e')
 | own o=>exact s.elim
 | fr es Y=>exact s.elim
theorem Fh (z:Z a st) (z':Z a st') (u:To z.off z'):∀p o,z'.W p=b6 (.imm o)→nt st.length z.W z'.W p=b6 (.imm o):=λp o e=>(U1 (gG z z' u e λo h=>nomatch h)).trans (cG (dK (pI _)) e)
theorem Eg (z:Z a st) (z':Z a st') (u:To z.off z'):∀p n,z'.W p=b6 (.tr n)→nt st.length z.W z'.W p=b6 (.tr (st.length+n)):=λp n e=>(U1 (gG z z' u e λo h=>nomatch h)).trans (cG (dK (pI _)) e)
theorem sj (z:Z a st) (z':Z a st') (u:To z.off z') {n:Nat} (e:nt st.length z.W z'.W p=b6 (.tr n)):(n < st.length∧z.W p=b6 (.tr n))∨∃m,n=st.length+m∧z'.W p=b6 (.tr m):=by
 rcases JS z.W p with ⟨m,h⟩ | h
 ·cases (dg h).symm.trans e;exact .inl ⟨z.inv.lt p _ h,h⟩
 ·obtain ⟨q,b,hs⟩:=ch.mp ((U1 h).symm.trans e);cases q with
  | tr m=>cases hs;exact .inr ⟨m,rfl,b⟩
  | _=>exact nomatch hs
def Z.lay (z:Z a st) (z':Z a st') (u:To z.off z'):Z a (st++st'.map (AObj.shift st.length)) where
 W:=nt st.length z.W z'.W
 h:=z'.h
 t:=z'.t
 inv:=by
  have i:(st++st'.map (AObj.shift st.length)).length=st.length+st'.length:=u3.trans (cG (st.length+ ·) (u7 _));refine ⟨λb o e=>og z z' u b _ trivial (z.inv.stay b o e),λp q e=>?_,λp p' n e e'=>?_,λn g=>?_,λp n e=>(sj z z' u e).elim (λh=>z.inv.new p n h.2) λh=>h.elim λm h=>z'.inv.new p m h.2⟩
  ·rcases JS z.W p with ⟨n,h⟩ | h
   ·cases (dg h).symm.trans e;have g:=z.inv.lt p n h;refine ⟨i▸M6 g (A7 _ _),λo f=>OR.mono (λo k=>?_) (og z z' u) ((z.inv.at_ p _ h).2 o ((cg g).symm.trans f))⟩;obtain ⟨o',c,s⟩:=nF z z' u h;exact k7 (k.symm.trans c)▸z'.inv.at_ _ _ s
   ·obtain ⟨j,l,hs⟩:=ch.mp ((U1 h).symm.trans e);have r:=z'.inv.at_ p j l;cases j with
    | tr m=>
     cases hs;refine ⟨i▸Nat.add_lt_add_left r.1 _,λo f=>?_⟩;rw [I2 (A7 _ _),dR,br] at f;obtain ⟨o',c,rfl⟩:=ch.mp f;exact OR.shift (Fh z z' u) (Eg z z' u) (r.2 o' c)
    | _=>cases hs;exact r
  ·rcases sj z z' u e with h | ⟨m,hm,h⟩ <;> rcases sj z z' u e' with h' | ⟨v,d,h'⟩
   ·exact z.inv.inj p p' n h.2 h'.2
   ·exact absurd h.1 (d▸ae.mpr (A7 _ _))
   ·exact absurd h'.1 (hm▸ae.mpr (A7 _ _))
   ·exact z'.inv.inj p p' m h (Ld (d.symm.trans hm)▸h')
  ·exact if h:n < st.length then (z.inv.sur n h).imp λp e=>dg e else by
    have h:=kt h;refine (z'.inv.sur (n-st.length) (Nat.sub_lt_left_of_lt_add h (i▸g))).imp λp e=>?_;have:=Eg z z' u p _ e
    rwa [rT h] at this
 fr e he:=by cases z'.fr e he with | mk L es Y a b=>exact .mk L es Y a ((U1 (gG z z' u b λo h=>nomatch h)).trans (cG (dK (pI _)) b))
theorem To.laid {z:Z a st} {z':Z a st'} {u:To z.off z'}:To z (z.lay z' u):=⟨λp q e=>by
  cases q with
  | tr n=>exact dg e
  | imm o=>exact og z z' u p _ trivial e
  | _=>
   have e':=u.ext p _ (ai e λn h=>nomatch h);exact (U1 λn h=>nomatch e.symm.trans h).trans (cG (dK (pI _)) e'),by rw [u3];exact A7 _ _,λk O b h=>h.app O⟩
theorem EM {z:Z a st} {z':Z a st'} {u:To z.off z'} (h:z'.W p=b8):(z.lay z' u).W p=none:=(U1 λn e=>(nF z z' u e).elim λo r=>nomatch h.symm.trans r.2).trans (cG (dK (pI _)) h)
theorem fp (z:Z a st) (z':Z a st') (u:To z.off z'):∃e:Z a st,e.s=z'.s∧To z e∧(∀p,z'.W p=b8→e.W p=b8)∧∀p o,z'.W p=b6 (.imm o)→e.W p=b6 (.imm o):=by
 have key:∀f,f=st→∀z₂:Z a f,z₂.s=z'.s→To z z₂→(∀p,z'.W p=b8→z₂.W p=b8)→(∀p o,z'.W p=b6 (.imm o)→z₂.W p=b6 (.imm o))→∃e:Z a st,e.s=z'.s∧To z e∧(∀p,z'.W p=b8→e.W p=b8)∧∀p o,z'.W p=b6 (.imm o)→e.W p=b6 (.imm o):=by
  rintro _ rfl z₂ a b c d;exact ⟨z₂,a,b,c,d⟩
 exact key _ (rX (l₁:=st)) ((z.lay z' u).trim st.length (To.laid (u:=u)).grow (z.inv.oldK.app (i0 _))) rfl (.trimmed .laid) (λp h=>iS (EM h)) λp o h=>qd _ _ (Fh z z' u p o h)
theorem Ed {R:X2→d0→Prop} {Q:c5→d0→Prop} (m:∀x s,Q x s→R (.ok (.ret x)) s) (he:∀x s,E x s→R (.error x) s):∀{r:Res},Post z E (r.lay st) Q→iO z.off b8 R r:=λ{r}=>
 Res.casesOn r (λv st' p z' x u r=>m _ _ (show Q x z'.s from if c:v.flat=true then by
   have p:Post z E (if v.flat=true then .ok v st else .ok (v.shift st.length) (st++st'.map (AObj.shift st.length))) Q:=p;rw [iP c] at p;obtain ⟨b,hs,t,g,a⟩:=fp z z' u.to;exact hs▸p b x t (VR.cut (k:=0) a (λp n h=>absurd h (P9 n)) (V.und_flat c) r)
  else by
   have p:Post z E (if v.flat=true then .ok v st else .ok (v.shift st.length) (st++st'.map (AObj.shift st.length))) Q:=p;rw [iN c] at p;exact p (z.lay z' u.to) x .laid (r.shift (Fh z z' u.to) (Eg z z' u.to))))
  (λe st' p z' q u n=>m _ _ (by obtain ⟨b,hs,t,g,a⟩:=fp z z' u.to;exact hs▸p b q t (n.with (cG d0.heap hs) g)))
  (λe st' p z' q u n=>he _ _ (by obtain ⟨b,hs,t,g,a⟩:=fp z z' u.to;exact hs▸p b q t (n.with (cG d0.heap hs) g))) id
theorem GS {adr:d4} {f:CFn} {o:f7} {fd:Z8} {body:List n6} {args:List V} {xs:List c5} {d:Nat} {Φ:d7} (h1:Ar1 a a.A d) (P:P5 C a.N d Φ) (F:FnAt C adr f o fd body) (r:VRs z.W args xs) :
  CI z (.ref adr) xs (T4 (V.flats args) ((P6 b7 a.N Φ b8 f args []).lay st) ((P6 b7 a.N Φ b8 f args st).trim st.length)):=λQ E p=>⟨wU F,by
 cases h:V.flats args with
 | true=>
  rw [h] at p;exact dN (oh (z:=z.off) (sf:=b8) h1 P F (Jv h r) (Ed (λb b q=>q) (λb b q=>q) p))
 | false=>
  rw [h] at p;exact dN (oh (sf:=b8) h1 P F r (zt (λb b q=>q) (λb b q=>q) p))⟩
end
section
variable {d:Nat} {Φ:d7}
theorem TK {x d e n:Nat} (h:e=d+1) (q:x+2*e < n):x+1+1+2*d < n:=by
 rw [h,Nat.mul_succ] at q;exact J7 (w2 (Ai x 2 (2*d))) q
theorem Xe {x d e n:Nat} (h:e=d+1) (q:x+2*e < n):x+1+2*d < n:=J7 (T1 (w7 _) _) (TK h q)
theorem UT {x d e n:Nat} (h:e=d+1) (q:x+20*e+100 < n):x+4+20*d+100 < n:=by
 rw [h,Nat.mul_succ,← A2] at q;exact J7 (T1 (d3 (w2 (Ai x 4 (20*d))) (X3 (by decide) _)) _) q
theorem XZ {x d e n:Nat} (h:e=d+1) (q:x+20*e+100 < n):x+3+20*d+100 < n:=J7 (T1 (T1 (w7 _) _) _) (UT h q)
theorem Ar.one (a:Ar C) (h:a.d=d+1):Ar1 a a.A d where
 frames:=a.frames
 hd:=a.hd
 depth:=Xe h a.depth
 units:=XZ h a.units
theorem Ar.under (a:Ar C) (h:a.d=d+1) {c:d4} {rest:List c5}:Ar1 a (a.A.under (.builtin "type.__call__" ⟨.ref c :: rest,[]⟩)) d where
 frames:=show pushEnvs [] a.A.frames=_ by rw [a.frames];rfl
 hd:=a.hd
 depth:=TK h a.depth
 units:=UT h a.units
structure ClsAt (C:Cx) (c i:Nat):Prop where
 makes:makesIn C.K c=true
 init:findIn C.K (.ref c) "__init__" =b6 (b6 (.ref i))
 fn:typeIn C.K (.ref i)=b6 (.type "function")
theorem BK {c i:Nat} (h:ClsAt C c i):aE C (.ref c):=⟨.machine,.inr rfl,λA s Q E e q=>by
 have X:C.K.In s.heap:=C.kin.keeps e;have Y:=makes_of (M:=C.M) X h.makes;obtain ⟨⟨o,od,J,sl,hC,f,a,g⟩,qb,b,self,top,call,t⟩:=Y;delta keeperOf;refine d1 (wpAny_load hC ?_);dsimp only;refine d1 (call.here ?_);rw [iP (beq_self_eq_true _)];exact g9 q⟩
theorem yz {c n:Nat} {Q:c5→d0→Prop} {R:X2→d0→Prop} {sf:Option Nat} {z₂:Z a H} (k:∀st' (z':Z a st') x,ToF sf z₂ z'→x=bE→Post z E (.ok (.inst c n) st') Q→R (.ok (.ret x)) z'.s):∀{r:Res},Post z E (qb c n r) Q→iO z₂ sf R r:=λ{r}=>
 Res.casesOn r (λv st'=>V.casesOn v (λp z' x u e=>k st' z' x u e p) (λb p=>p.elim) (λb p=>p.elim) (λb p=>p.elim) (λb p=>p.elim) (λb b p=>p.elim) (λb p=>p.elim) (λb b p=>p.elim) (λb p=>p.elim) (λb p=>p.elim) (λb p=>p.elim) λb p=>p.elim) (λb b p=>p.elim) (λb b p=>p.elim) λp=>p.elim
theorem yy {c i:Nat} {f:CFn} {o:f7} {fd:Z8} {body:List n6} {args:List V} {xs:List c5} (hd:a.d=d+1) (P:P5 C a.N d Φ) (K:ClsAt C c i) (F:FnAt C i f o fd body) (r:VRs z.W args xs) :
  CI z (.ref c) xs (qb c st.length (P6 b7 a.N Φ (b6 st.length) f (V.inst c st.length :: args) (st++ [.ns []]))):=λQ E p=>⟨BK K,by
 have X:=z.kin;refine dN (make_core (makes_of X K.makes) (looks_findIn X K.init) (λself=>bind_fn X self K.fn) (.inl rfl) ?_);have g:((z.h.push emptyO).push (instObj c z.h.objs.size)).get? z.h.objs.size=b6 emptyO:=I4 _ (aS _ rfl);have j:((z.h.push emptyO).push (instObj c z.h.objs.size)).get? (z.h.objs.size+1)=b6 (instObj c z.h.objs.size):=j5.get?_push_at (by simp only [lZ]) rfl;let z₁:=z.alloc z.h.objs.size (.ns []) ((z.h.push emptyO).push (instObj c z.h.objs.size)) z.t (i0 _) (λb b b e=>I4 _ (I4 _ e)) (.mk emptyO #[] 0 g rfl rfl (λb he=>nomatch he) (T3 _) λb=> .nil);have l:z₁.W (z.h.objs.size+1)=none:=(E5 _ (Gc _)).trans (z.inv.fresh (w7 _));let z₂:=z₁.imm (z.h.objs.size+1) (.imm (instObj c z.h.objs.size)) (λb e=>nomatch e) z₁.h z₁.t l (λb b b e=>e) λb=>j;have u:To z z₂:=To.trans .alloced .immd;have m:VR z₂.W (.inst c st.length) (.ref (z.h.objs.size+1)):= .mk _ z.h.objs.size j6 (D3 l _ _ j6);exact oh (z:=z₂) (sf:=b6 st.length) (args:=V.inst c st.length :: args) (a.under hd) P F (.mk _ _ m (u.vrs r)) (yz (λst' z' x t e p=>by exact ⟨e,p z' _ ⟨λp k e=>t.ext p k (u.ext p k e),d3 u.grow t.grow,λk O hs h=>t.keep k (d3 O u.grow) (λn e=>k7 e▸O) (h.app O)⟩ (m.mono λp k b=>t.ext p k)⟩) p)⟩
end
section
open Builtin.ObjectAttr
variable {C:Cx} {a:Ar C} {st H st':St} {z:Z a st} {W:Wd} {v w:V} {x y:c5} {E:c5→d0→Prop} {A:q8} {e d t:d4} {name:List Nat} {es:List (List Nat×V)}
structure XK (C:Cx):Prop where
 mro:∃cd W,clsIn C.K XC=b6 cd∧cd.hasDict=true∧cd.mro= [.ref XC,.ref W,.type "Exception",.type "BaseException",.type "object"]
 sa:findIn C.K (.ref XC) "__setattr__" =b6 (b6 (.builtin "object.__setattr__"))
abbrev A6 (t:d4) (d:Option d4):Obj:={cls:= .ref XC,dict:=d,data:= .fields #[.ref t,.none,.none,.none,.bool false,.none]}
inductive XA (z:Z a st) (e d:d4) (es:List (List Nat×V)):Prop
 | mk (t od):z.W e=b6 (.own (A6 t (b6 d)))→z.W d=b6 (.own od)→RNs W0 z.h d es→d≠e→XA z e d es
theorem KF (K:XK C) {p:f7} {od:Option f7} {x:d4} {name:c9} {w:Tok} {v:c5} {s:d0} {R:X2→d0→Prop} (X:C.K.In s.heap) (I:InstAt s.heap x p XC od) (j:findIn C.K (.ref XC) name=b6 b8)
  (h:c7 C.M A.in1 (storeInOwnDict (.ref x) (.ref XC) (.str name w) name v false)
   (λb a=>match b with | .done f=>R (.ok f) a | .again g=>g.quiet=true∧O3 C.M A g R a) (λe a=>R (.error e) a) s) :
  O3 C.M A (.call (.builtin "object.__setattr__") ⟨[.ref x,.str name w,v],[]⟩) R s:=by
 have S:=PySem.F.store_object;obtain ⟨J,W,i,c,hm⟩:=K.mro;have n:J.mro.isEmpty=false:=by rw [hm];rfl
 have sub:Looks C.M s.heap (isInstance (.ref x) (.type "object")) true:=I.type.andThen (looks_mroIn X (by delta mroIn;rw [i,FL,iN (by rw [n];decide),hm];rfl));refine codeAny_call_builtin S.slot.plain S.entry (@check_slot C.M _ _ s "object.__setattr__" "object" "__setattr__" (.ref x) [.str name w,v] [] _ S.kind S.split sub (S.args (.ref x) (.str name w) v) ?_);have d:Looks C.M s.heap (mroOf (.ref XC)) J.mro:=(looks_clsIn X i).andThen .now;have k:Looks C.M s.heap (storeTaker? b8) none:= .now;rw [osa_eq,refuse_eq];refine d1 (d1 (I.type.here (d1 (d.here ?_))));rw [hm,refuseLoop_ref,refuseLoop_ref,PySem.F.store_Exception.passes];refine g9 (d1 (I.type.here (d1 ((looks_findIn X j).here (d1 (k.here ?_))))));exact h
theorem pV (K:XK C) (he:z.W e=b6 (.own (A6 t b8))) (l:findIn C.K (.ref XC) (c6 name)=b6 b8) (r:∀W,VR W v y) {Q:Unit→d0→Prop}
  (k:∀(z':Z a st) d,Nx z z' e→z.W d=b8→XA z' e d [(name,v)]→Q () z'.s):c7 C.M A (PySem.setAttr (.ref e) (c6 name) y) Q E z.s:=by
 have X:=z.kin;obtain ⟨J,W,G,i,hm⟩:=K.mro;have w:=z.inv.at_ _ _ he;have I:InstAt z.s.heap e (A6 t b8) XC none:=⟨w,rfl,rfl,trivial⟩
 refine set_plain X I K.sa (KF (s:={z.s with toks:=z.s.toks+1}) K X I l ?_);have f:e≠z.h.objs.size:=Ab (gk w);have b:(z.h.push emptyO).get? e=b6 (A6 t b8):=I4 _ w;refine d1 (g9 (d1 ?_));show c7 _ _ (instanceDict e true) _ _ _;delta instanceDict;refine d1 (xm (s:={z.s with toks:=z.s.toks+1}) w (d1 (looks_clsIn X G _ _ _ _ (λc c e=>e) ?_)));rw [i];simp only [xg,bF,if_false];rw [iN (by simp [typeHasDict])];refine d1 (wpAny_alloc' (d1 (wpAny_update' b (g9 ?_))));have m:=aU (λo:f7=>{o with dict:=b6 z.h.objs.size}) b rfl;have x:((z.h.push emptyO).update e λo=>{o with dict:=b6 z.h.objs.size}).get? z.h.objs.size=b6 emptyO:=(FI _ _ _ _ f.symm).trans (j5.get?_push_at rfl rfl);show c7 _ _ (storeInDict z.h.objs.size (.str (c6 name) _) (c6 name) y) _ _ _;delta storeInDict newKeyGuard;refine d1 (g9 (d1 (X7 x rfl (λc he=>nomatch he) λh' ds Y n B hz g F=>?_)));have u:ds.size≤1:=hz.elim (λh=>d3 h (T3 _)) λh=>w2 h.2;refine d1 (wpAny_lookBehind n (by exact pastItsLine_dict (d3 u (N7 1 _))) (g9 ?_));have j:h'.get? e=b6 (A6 t (b6 z.h.objs.size)):=(F.2 e f).trans m;have hg:∀p o,p≠e→z.h.get? p=b6 o→h'.get? p=b6 o:=λp o hp e=>(F.2 p (Ab (gk e))).trans ((FI _ _ _ _ hp).trans (I4 _ e));have D:Nx z (z.re e (b6 (A6 t (b6 z.h.objs.size))) h' (z.t+1+1) he hg λc e=>k7 e▸j) e:= .re;have hd:(z.re e (b6 (A6 t (b6 z.h.objs.size))) h' (z.t+1+1) he hg λc e=>k7 e▸j).W z.h.objs.size=none:=(iN f.symm).trans z.fresh;refine k ((z.re e (b6 (A6 t (b6 z.h.objs.size))) h' (z.t+1+1) he hg λc e=>k7 e▸j).imm z.h.objs.size (.own {emptyO with data:= .dict ds Y}) (λc e=>nomatch e) h' (z.t+1+1) hd (λc c c e=>e) λc=>n) z.h.objs.size
  ⟨λp q hp e=>D3 hd _ _ (D.ext p q hp e),D.sub.trans (aI hd)⟩ z.fresh (.mk t _ (D3 hd _ _ (iP rfl)) j6 (.mk _ ds Y n rfl rfl B u λq=>?_) f.symm)
 rw [g];show RGet W0 (if name=q then b6 v else b8) (if c6 q=c6 name then b6 y else b8);exact if h:name=q then by rw [iP h,iP (cG c6 h.symm)];exact .val v y (r _) else by rw [iN h,iN λh'=>h (Q9 h').symm];exact .nil
theorem tf (K:XK C) (x:XA z e d es) (l:findIn C.K (.ref XC) (c6 name)=b6 b8) (h:es.length < 100) (r:∀W,VR W v y) {Q:Unit→d0→Prop}
  (k:∀z':Z a st,Nx z z' d→XA z' e d (A4 es name v)→Q () z'.s):c7 C.M A (PySem.setAttr (.ref e) (c6 name) y) Q E z.s:=by
 have X:=z.kin;obtain ⟨J,W,p,c,hm⟩:=K.mro;cases x with
 | mk t od he hd q b=>
  have m:=z.inv.at_ _ _ he;have i:=z.inv.at_ _ _ hd;have I:InstAt z.s.heap e (A6 t (b6 d)) XC (b6 od):=⟨m,rfl,rfl,i⟩
  refine set_plain X I K.sa (KF (s:={z.s with toks:=z.s.toks+1}) K X I l ?_);refine d1 (g9 (d1 ?_));show c7 _ _ (instanceDict e true) _ _ _;delta instanceDict;refine d1 (xm (s:={z.s with toks:=z.s.toks+1}) m (d1 (looks_clsIn X p _ _ _ _ (λn n e=>e) ?_)));rw [c];simp only [xg,bF,if_false];refine g9 ?_;show c7 _ _ (storeInDict d (.str (c6 name) _) (c6 name) y) _ _ _;delta storeInDict newKeyGuard;have j:es.length+1≤sizeLine:=d3 h (by rw [bG];decide);refine d1 (g9 (d1 (CZ (s:={z.s with toks:=z.s.toks+1}) q (dO j) (r W0) λh' o ds Y f g hz B u=>?_)));refine d1 (wpAny_lookBehind f (by rw [g];exact pastItsLine_dict (fy (d3 hz j))) (g9 ?_));have w:Nx z (z.re d (b6 o) h' (z.t+1+1) hd (B6 B) λn e=>k7 e▸f) d:= .re;exact k _ w (.mk t o (w.ext _ _ b.symm he) (iP rfl) u b)
end
section
open Builtin.ObjectAttr
variable {C:Cx} {a:Ar C} {st H st':St} {z:Z a st} {W:Wd} {v w:V} {x y:c5} {E:c5→d0→Prop} {A:q8} {e d t:d4} {name:List Nat} {es:List (List Nat×V)} {G:TC} {env:i5} {ρ:Loc}
theorem km {M:K9} {h:j5} {g:Array GenState} {d:Drawn} {t:Nat} {os:L9} {C:d4} {X:XD}
  {e:d4} {o:f7} {rest:List c5} {Q:Unit→d0→Prop} (hB:X.bm.contains (.type "Exception")=true)
  (hC:h.get? C=b6 (X.obj C)) (he:h.get? e=b6 o) (c:o.cls= .ref C) (m:Q () ⟨h,g,d,t,os⟩) :
  c7 M A (rR "Exception.__init__" ⟨.ref e :: rest,[]⟩) Q E ⟨h,g,d,t,os⟩:=by
 have F:=PySem.F.excBase_Exception;have i:(L6 C :: X.bm).contains (.type "Exception")=true:=by rw [mf,hB,Fz]
 have f:=F.noStar;simp only [rR,F.initKind,F.initSplit,F.initRow]
 repeat (first | (with_reducible refine dL he ?_;rw [c]) | with_reducible refine dL hC ?_ | (with_reducible refine rQ hC ?_;rw [i]) | wp_step)
 refine wpAny_onRaise ?_;rw [show ∀(a b:String) (n:Nat),Bind.check ⟨.positional, "*", "Exception",.self,[⟨"args",.varPos,false⟩]⟩ a b n (List.map (λx=>x.fst) ({pos:=L6 e :: rest}:Args).kw)=pure () from λa b n=>check_star_args _ _ _ _ _ _];exact g9 m
theorem EX (he:z.W e=b6 (.own (A6 t b8))) {Q:c5→d0→Prop} (k:∀(z':Z a st) i,Nx z z' e→z'.W e=b6 (.own (A6 i b8))→Q .none z'.s):c7 C.M A (call (.builtin "Exception.__init__") [.ref e,y] []) Q E z.s:=by
 obtain ⟨X,hC,d,hB,_⟩:=C.xcls;have F:=PySem.F.excBase_Exception;have g:=z.inv.at_ _ _ he;refine dN (codeAny_call_builtin F.init.plain F.initEntry (km hB (z.inv.keep0 _ _ hC) g rfl ?_));delta Builtin.«BaseException.__init__»;dsimp only;rw [iN (by simp)];delta newTuple Builtin.BaseException.bexcPut;have b:=I4 (h:=z.h) {cls:= .type "tuple",data:= .seq [y].toArray} g;refine d1 (xj (s:=z.s) (d1 (d1 (dQ b rfl (x:= .ref t) rfl (d1 (wpAny_setField b rfl (by decide:0 < 6) ?_))))) (by show [y].toArray.size≤bH;rw [bG];simp));refine wpAny_letGo (g9 ?_);have r:=eN (o:=A6 t b8) (f:=(·.setIfInBounds 0 (L6 z.h.objs.size))) rfl;have c:=(aU (f7.mapFields (·.setIfInBounds 0 (L6 z.h.objs.size))) b (cG f7.isFreed r)).trans (cG b6 r);exact k (z.re e (b6 (A6 z.h.objs.size b8)) _ z.t he (λp o hp e=>(FI _ _ _ _ hp).trans (I4 _ e)) λj e=>k7 e▸c) z.h.objs.size .re (iP rfl)
abbrev de:List Nat:= [95,95,105,110,105,116,95,95]
abbrev ki:List Nat:= [119,104,121]
abbrev kf:List Nat:= [97,116]
abbrev qv:List Nat:= [114,111,119]
abbrev oU:List Nat:= [99,111,108,117,109,110]
inductive XC1 (G:TC) (g:V):n6→Prop
 | mk (xe as p0 q0 p1):OK2 G (.cst g) xe→(∀n env w,mc xe n env w=w)→OKs G (.cons (.loc 0) (.cons (.loc 1) .nil)) as→as.length≤8→(p0.endLine==q0.line)=true→XC1 G g (.Expr (.Call (.Attribute xe (c6 de) p0) as [] q0) p1)
inductive XS1 (G:TC) (n:List Nat) (c:CE):n6→Prop
 | mk (l p e q):OK2 G (.loc 0) l→OK2 G c e→Z0 e→XS1 G n c (.Assign [.Attribute l (c6 n) p] e q)
inductive XB (G:TC) (g:V) (n1 n2:List Nat) (c1 c2:CE):List n6→Prop
 | mk (s1 s2 s3):XC1 G g s1→XS1 G n1 c1 s2→XS1 G n2 c2 s3→XB G g n1 n2 c1 c2 [s1,s2,s3]
structure XGo (C:Cx) (wf:d4) (a35:d4):Prop where
 exc:∀{A:q8} {s:d0} {pl:j9 Bool} {Q:c5×List c5→d0→Prop} {E:c5→d0→Prop},(∀b o,C.s₀.heap.get? b=b6 o→s.heap.get? b=b6 o)→Q (.builtin "Exception.__init__",[]) {s with toks:=s.toks+1}→c7 C.M A (aM (.type "Exception") (c6 de) pl) Q E s
 wf:∀{A:q8} {s:d0} {pl:j9 Bool} {Q:c5×List c5→d0→Prop} {E:c5→d0→Prop},(∀b o,C.s₀.heap.get? b=b6 o→s.heap.get? b=b6 o)→Q (.ref a35,[]) {s with toks:=s.toks+1}→c7 C.M A (aM (.ref wf) (c6 de) pl) Q E s
 free:∀n∈ [ki,kf,qv,oU],findIn C.K (.ref XC) (c6 n)=b6 b8
theorem et {N d:Nat}:P5 C N d λz z z=> .stuck:=λz z z z z z z z=>CI.no
theorem pe {i:f6} {apos pos:n5} {as:List f6} {args:CEs} {g:V} {gx fv:c5} {vs:List V} (L:Cn G z env ρ) (h:OK2 G (.cst g) i) (p:∀n env w,mc i n env w=w) (h':OKs G args as) (l:as.length≤8) (q:(apos.endLine==pos.line)=true) (hg:∀{W x},VR W g x→x=gx) (c:a.evs args ρ st= .ok vs st) (j:aE C fv)
  (get:∀{f:d0} {y:j9 Bool} {Q:c5×List c5→d0→Prop} {E:c5→d0→Prop},(∀b o,C.s₀.heap.get? b=b6 o→f.heap.get? b=b6 o)→Q (fv,[]) {f with toks:=f.toks+1}→c7 C.M a.A (aM gx (c6 de) y) Q E f)
  {Q:c5→d0→Prop} (k:∀(z':Z a st) xs,To z z'→VRs z'.W vs xs→c7 C.M a.A (call fv xs []) Q E z'.s):c7 C.M a.A (eval (.Call (.Attribute i (c6 de) apos) as [] pos) env) Q E z.s:=by
 rw [arm_eval_Call,p];refine d1 (h.e z L _ E λz₁ x u r=>d1 (M0 ?_));cases hg r;have d:methodCallPos true i env apos pos=pure pos:=by delta methodCallPos;rw [q];rfl
 delta methodCall;rw [wD h' l,d];refine d1 (v9 ?_);show c7 _ _ (aM _ _ _) _ _ _;refine get z₁.inv.keep0 (d1 (g9 (fb (h'.plain env pos) (d3 (w2 ((u7 ..).trans (h'.len env))) (d3 l (by decide))) ?_)));have m:=h'.e (z₁.tok (z₁.t+1)) pos (L.to (u.trans .kept));rw [c] at m;exact m _ E λz' xs B r v=>⟨j,z'.inv.keep0,k z' xs (u.trans (To.trans .kept B)) r⟩
end
section
variable {W' W₁:Wd} {A:q8} {e d t:d4} {name:List Nat} {es:List (List Nat×V)} {G:TC} {env:i5} {ρ:Loc}
structure Ne1 (e:d4) (W W':Wd):Prop where
 ext:∀p k,p≠e→W p=b6 k→W' p=b6 k
 sub:Sub W W'
theorem Ne1.trans (x:Ne1 e W W₁) (y:Ne1 e W₁ W'):Ne1 e W W':=⟨λp k h q=>y.ext p k h (x.ext p k h q),x.sub.trans y.sub⟩
theorem Ne1.of (h:∀p k,W p=b6 k→W' p=b6 k):Ne1 e W W':=⟨λp k z=>h p k,λp k z=>h p k⟩
theorem Ne1.but {d:d4} (x:Ne1 e W W₁) (a:W d=b8) (y:Ne1 d W₁ W'):Ne1 e W W':=⟨λp k h q=>y.ext p k (λh=>nomatch (h▸a).symm.trans q) (x.ext p k h q),x.sub.trans y.sub⟩
theorem Nx.ne {z z':Z a st} (n:Nx z z' e):Ne1 e z.W z'.W:=⟨n.ext,n.sub⟩
theorem To.ne {z:Z a st} {z':Z a st'} (u:To z z'):Ne1 e z.W z'.W:= .of u.ext
theorem XA.to {z:Z a st} {z':Z a st'} (x:XA z e d es) (u:To z z'):XA z' e d es:=by
 cases x with
 | mk t od he hd g h=>
  have l:=z'.inv.at_ _ _ (u.ext _ _ hd);exact .mk t od (u.ext _ _ he) (u.ext _ _ hd) (g.at λo b c=>k7 (b.symm.trans (z.inv.at_ _ _ hd))▸l) h
theorem yC {i:f6} {pos:n5} {Q:C8→d0→Prop} {s:d0} (a:env.scope.kind= .function) (hs:Z0 i) (h:c7 C.M A (eval i env) (λz s₁=>Q .next s₁) E s):c7 C.M A (PySem.exec (.Expr i pos) env) Q E s:=by
 have go:PySem.exec (.Expr i pos) env=(do S8 pos;let v ← eval i env;dropValue i pos v):=by
  show (do S8 pos;if interactive env then printExpr (eval i env) else if ← swapsWith i b8 pos.line env then do evalThenUse i env λz=>point;pure .next else do dropValue i pos (← eval i env))=_;rw [show interactive env=false by delta interactive;rw [a];rfl,hs];rfl
 rw [go];exact d1 (M0 (d1 (aT h (λz z q=>wp q) λz z q=>q)))
theorem Uy {c:CE} {n:List Nat} {t:n6} (L:Cn G z env ρ) (B:XS1 G n c t) (T:ρ[0]?=b6 (b6 (.cls e))) (hv:a.ev c ρ st= .ok v st) {Q:C8→d0→Prop}
  (k:∀(z':Z a st) y,To z z'→VR z'.W v y→c7 C.M a.A (PySem.setAttr (.ref e) (c6 n) y) (λj=>Q .next) E z'.s):c7 C.M a.A (PySem.exec t env) Q E z.s:=by
 cases B with
 | mk l p2 g p3 h1 h hs=>
  have i:=h.e z L;rw [hv] at i;refine plainObj_wpAny_Assign_Attribute (i _ E λz₁ y u r=>?_) (hs _ _ _);have b:=h1.e z₁ (L.to u);rw [show a.ev (.loc 0) ρ st= .ok (.cls e) st from (by show C6 ρ 0 st=_;delta C6;rw [T];rfl)] at b;exact b _ E λz₂ x d f=>(show x= .ref e from f)▸k z₂ y (u.trans d) (d.vr r)
theorem Ks {g:V} {gx fv:c5} {vs:List V} {t:n6} (S:LS z.W G env ρ) (P:P5 C a.N a.d a.Φ) (B:XC1 G g t) (hg:∀{W x},VR W g x→x=gx) (c:a.evs (.cons (.loc 0) (.cons (.loc 1) .nil)) ρ st= .ok vs st) (j:aE C fv)
  (get:∀{e:d0} {p:j9 Bool} {Q:c5×List c5→d0→Prop} {E:c5→d0→Prop},(∀b o,C.s₀.heap.get? b=b6 o→e.heap.get? b=b6 o)→Q (fv,[]) {e with toks:=e.toks+1}→c7 C.M a.A (aM gx (c6 de) p) Q E e)
  {Q:C8→d0→Prop} (k:∀(z':Z a st) xs,To z z'→VRs z'.W vs xs→c7 C.M a.A (call fv xs []) (λf s=>Q .next s) E z'.s):c7 C.M a.A (PySem.exec t env) Q E z.s:=by
 cases B with
 | mk r as n q p1 b1 h i l m=>exact yC S.fn (λf f f=>rfl) (pe (S.cn P) b1 h i l m hg c j get k)
theorem Ip {W:Wd} {s:List Nat} (r:VR W (.str s) y):∀W',VR W' (.str s) y:=λz=>by cases r with | mk t=>exact .mk t
theorem nN {W:Wd} {i:Int} (r:VR W (.int i) y):∀W',VR W' (.int i) y:=λz=>by cases r with | mk t=>exact .mk t
theorem Ne1.noW {k:Kn} (w:Ne1 e W W') (he:W' e=b6 k) (hd:W' d=b8):W d=none:=by
 cases hz:W d with
 | none=>rfl
 | some j=>exact nomatch hd.symm.trans (w.ext _ _ (λh=>nomatch (show W' e=b8 from h▸hd).symm.trans he) hz)
structure XS (V0:Wd) (G:TC) (env:i5) (ρ:Loc) (e d:d4) (es:List (List Nat×V)) (z:Z a st):Prop where
 ls:LS z.W G env ρ
 xa:XA z e d es
 ne:Ne1 e V0 z.W
 hd:V0 d=b8
 pd:¬Pl env d
theorem Da {V0:Wd} (K:XK C) (P:P5 C a.N a.d a.Φ) (X:XS V0 G env ρ e d es z) {c:CE} {n:List Nat} {t:n6} {r:List n6} (B:XS1 G n c t) (T:ρ[0]?=b6 (b6 (.cls e))) (hv:a.ev c ρ st= .ok v st)
  (j:∀{W y},VR W v y→∀W',VR W' v y) (h:findIn C.K (.ref XC) (c6 n)=b6 b8) (f:es.length < 100) {Q:C8→d0→Prop} (k:∀z':Z a st,XS V0 G env ρ e d (A4 es n v) z'→c7 C.M a.A (PySem.execs r env) Q E z'.s):c7 C.M a.A (PySem.execs (t :: r) env) Q E z.s:=
 mi (Uy (X.ls.cn P) B T hv λz₁ y u g=>tf K (X.xa.to u) h f (j g) λz₂ b x=>k z₂ ⟨(X.ls.to u).nx X.pd b,x,(X.ne.trans u.ne).but X.hd b.ne,X.hd,X.pd⟩)
theorem NR {V0:Wd} (K:XK C) (P:P5 C a.N a.d a.Φ) (S:LS z.W G env ρ) (w:Ne1 e V0 z.W) (he:z.W e=b6 (.own (A6 t b8))) (o:¬Pl env e) {c:CE} {n:List Nat} {u:n6} {r:List n6} (B:XS1 G n c u) (T:ρ[0]?=b6 (b6 (.cls e))) (hv:a.ev c ρ st= .ok v st)
  (F:∀{W y},VR W v y→∀W',VR W' v y) (D:findIn C.K (.ref XC) (c6 n)=b6 b8) {Q:C8→d0→Prop} (k:∀(z':Z a st) d,XS V0 G env ρ e d [(n,v)] z'→c7 C.M a.A (PySem.execs r env) Q E z'.s):c7 C.M a.A (PySem.execs (u :: r) env) Q E z.s:=
 mi (Uy (S.cn P) B T hv λz₅ p j l=>pV K (j.ext _ _ he) D (F l) λm i f b x=>
  have g:=w.trans (j.ne (e:=e))
  k m i ⟨(S.to j).nx o f,x,g.trans f.ne,g.noW (j.ext _ _ he) b,λh=>((S.to j).all _ h).elim λk q=>nomatch b.symm.trans q⟩)
section
variable {d:Nat} {wf a35:d4} {o:f7} {fd:Z8} {body:List n6}
theorem XA.out {h1:Ar1 a A d} {O:env.scope.kind≠ .module} {Φ:d7} {sf:Option Nat} {z:Z (a.into h1 env O Φ sf) st} {p:d4} (x:XA z e p es):XA z.out e p es:=by cases x with | mk t od a b c d=>exact .mk t od a b c d
theorem Ik (K:XK C) (G:XGo C wf a35) (h1:Ar1 a A d) (F:FnAt C a35 zP o fd body) (B:XB ⟨fd.scope.names,b8⟩ (.bi .exc) ki kf (.loc 1) (.neg (.cst (.int 1))) body) (he:z.W e=b6 (.own (A6 t b8))) {s:List Nat} (J:VR z.W (.str s) y) {R:X2→d0→Prop}
  (H:∀(z':Z a st) d,Ne1 e z.W z'.W→z.W d=b8→XA z' e d [(ki,.str s),(kf,.int (-1))]→R (.ok (.ret .none)) z'.s):O3 C.M A (.call (.ref a35) ⟨[.ref e,y],[]⟩) R z.s:=by
 refine cC (Φ:=λu u u=> .stuck) (sf:=b8) (args:= [.cls e,.str s]) (ρ:= [b6 (.cls e),b6 (.str s),b8]) h1 F (.mk _ _ rfl (.one J)) (F.kind▸nofun) rfl λz₂ S₂ ext m=>?_;have j:¬Pl (Q1 fd z.h.objs.size a35) e:=λh=>nomatch (m e h).symm.trans he
 have b:=ext _ _ he;cases B with
 | mk O S T w x D=>
  refine mi (Ks (z:=z₂) S₂ et w (gx:= .type "Exception") (vs:= [.cls e,.str s]) (λr=>r) rfl (fv:= .builtin "Exception.__init__") ⟨.machine,.inr rfl,λA s Q E u q=>g9 q⟩ (λp q=>G.exc p q) λz₃ xs i I=>?_);obtain ⟨L,U,rfl,N,P⟩:=I.two;cases (show L= .ref e from N);refine EX (i.ext _ _ b) λz₄ v n c=>?_;refine NR (z:=z₄) (V0:=z.W) K et ((S₂.to i).nx j n) ((Ne1.of ext).trans (i.ne.trans n.ne)) c j x rfl rfl Ip (G.free _ D6) λk g f=>?_;exact Da (z:=k) K et f D rfl rfl nN (G.free _ (F1 _ D6)) (show 1 < 100 by decide) λl X=>jN (H l.out g X.ne X.hd X.xa.out)
theorem Jw (K:XK C) {m:d4} (G:XGo C 38 a35) (h1:Ar1 a A (d+1)) (F:FnAt C a35 zP o fd body) (B:XB ⟨fd.scope.names,b8⟩ (.bi .exc) ki kf (.loc 1) (.neg (.cst (.int 1))) body) {o':f7} {p:Z8} {b:List n6} (L:FnAt C m AP o' p b)
  (O:XB ⟨p.scope.names,b8⟩ (.cls 38) qv oU (.loc 2) (.loc 3) b) (he:z.W e=b6 (.own (A6 t b8))) {s:List Nat} {i j:Int} {g l:c5} (ry:VR z.W (.str s) y) (V:VR z.W (.int i) g) (Y:VR z.W (.int j) l) {R:X2→d0→Prop}
  (U:∀(z':Z a st) d,Ne1 e z.W z'.W→z.W d=b8→XA z' e d (fW ⟨s,i,j⟩)→R (.ok (.ret .none)) z'.s):O3 C.M A (.call (.ref m) ⟨[.ref e,y,g,l],[]⟩) R z.s:=by
 refine cC (Φ:=λN N N=> .stuck) (sf:=b8) (args:= [.cls e,.str s,.int i,.int j]) (ρ:= [b6 (.cls e),b6 (.str s),b6 (.int i),b6 (.int j),b8]) h1 L (.mk _ _ rfl (.mk _ _ ry (.mk _ _ V (.one Y)))) (L.kind▸nofun) rfl λz₂ S₂ ext I=>?_;have H:¬Pl (Q1 p z.h.objs.size m) e:=λh=>nomatch (I e h).symm.trans he
 have f:=ext _ _ he;cases O with
 | mk s1 s2 s3 P Q T=>
  refine mi (Ks (z:=z₂) S₂ et P (gx:= .ref 38) (vs:= [.cls e,.str s]) (λr=>r) rfl (fv:= .ref a35) (wU F) (λJ q=>G.wf J q) λz₃ xs u rx=>?_);obtain ⟨x1,x2,rfl,r1,r2⟩:=rx.two;cases (show x1= .ref e from r1);refine dN (Ik K G (Ar.one _ rfl) F B (u.ext _ _ f) r2 λz₄ v n c x=>?_);have S:=S₂.to u;have w:Ne1 e z.W z₃.W:=(Ne1.of ext).trans (u.ne (e:=e));have hd:=w.noW (u.ext _ _ f) c;refine Da (z:=z₄) K et (ρ:= [b6 (.cls e),b6 (.str s),b6 (.int i),b6 (.int j),b8]) ⟨S.nx H ⟨n.ext,n.sub⟩,x,w.trans n,hd,λh=>(S.all _ h).elim λk q=>nomatch c.symm.trans q⟩ Q rfl rfl nN (G.free _ (F1 _ (F1 _ D6))) (show 2 < 100 by decide) λD X=>?_;exact Da (z:=D) K et X T rfl rfl nN (G.free _ (F1 _ (F1 _ (F1 _ D6)))) (show 3 < 100 by decide) λE X=>jN (U E.out v X.ne X.hd X.xa.out)
end
end
section
section
variable {prog:mj} {w:D8} {A:q8} {E:c5→d0→Prop} {R:X2→d0→Prop} {h:j5} {g:Array GenState} {d:Drawn} {t:Nat} {os:L9}
variable {C:d4} {X:XD}
theorem tT (hB:X.bm.contains (.type "Exception")=true) {rest:List c5} {Q:Unit→d0→Prop} (hC:h.get? C=b6 (X.obj C))
  (m:Q () ⟨h,g,d,t,os⟩):c7 (J6 prog w) A (rR "Exception.__new__" ⟨.ref C :: rest,[]⟩) Q E ⟨h,g,d,t,os⟩:=by
 have F:=PySem.F.excBase_Exception;have a:(L6 C :: X.bm).contains (.type "Exception")=true:=by rw [mf,hB,Fz]
 have b:=F.noStar;delta rR;rw [F.newKind];dsimp only;rw [F.newSplit];dsimp only;rw [F.newRow];dsimp only
 repeat (first | refine dL hC ?_ | (refine rQ hC ?_;rw [a]) | refine wpAny_staticBase_exc hC ?_ | refine wpAny_madeBy_exc hC ?_ | simp only [bne_self_eq_false,bF,if_false] | wp_step)
 exact m
theorem Xv (hB:X.bm.contains (.type "Exception")=true) (a:X.bm.contains (.type "AttributeError")=false) (c:X.bm.contains (.type "NameError")=false) {rest:List c5} (hC:h.get? C=b6 (X.obj C))
  (m:R (.ok (.ret (.ref (h.objs.size+1)))) ⟨(h.push {cls:= .type "tuple",data:= .seq rest.toArray}).push
   {cls:= .ref C,data:= .fields #[.ref h.objs.size,.none,.none,.none,.bool false,.none]},g,d,t,os⟩) (k:rest.length≤bH) :
  O3 (J6 prog w) A (.builtin "Exception.__new__" ⟨.ref C :: rest,[]⟩) R ⟨h,g,d,t,os⟩:=by
 have F:=PySem.F.excBase_Exception;have j:=F.ends;have f:(L6 C :: X.bm).contains (.type "Exception")=true:=by rw [mf,hB,Fz]
 have e:(L6 C :: X.bm).contains (.type "AttributeError")=false:=by rw [mf,a];rfl
 have i:(L6 C :: X.bm).contains (.type "NameError")=false:=by rw [mf,c];rfl
 refine codeAny_builtinAt F.entry ?_;delta Builtin.«BaseException.__new__»;refine PySem.wpAt_bind ?_;show PySem.wpAt _ _ _ (stack >>= _) _ _ _;refine PySem.wpAt_bind (PySem.wpAt_stack λp b=>PySem.wpAt_of_wpAny ?_);wp_walk;refine PySem.wpAt_of_wpAny ?_;rw [F.owner]
 repeat (first | with_reducible refine wpAny_madeHere_exc F.canon hC ?_ | with_reducible refine dL hC ?_ | (with_reducible refine rQ hC ?_;first | rw [f] | rw [e] | rw [i]) | wp_step)
 show R _ _;rw [lZ];exact m
theorem zZ {j:d4} {q:q8} (hB:X.bm.contains (.type "Exception")=true) (l:X.bm.contains (.type "AttributeError")=false) (m:X.bm.contains (.type "NameError")=false) {rest:List c5} (hC:h.get? C=b6 (X.obj C))
  (hi:Looks (J6 prog w) h (typeLookup (.ref C) "__init__") (b6 (.ref j))) (u:∀self,Looks (J6 prog w) h (bindSpecial (.ref j) self) (.ref j,[self])) (c:rest.length≤bH)
  (y:O3 (J6 prog w) A (.call (.ref j) ⟨.ref (h.objs.size+1) :: rest,[]⟩) (InitBack (h.objs.size+1) R) ⟨(h.push {cls:= .type "tuple",data:= .seq rest.toArray}).push (({cls:= .ref C,data:= .fields #[.ref h.objs.size,.none,.none,.none,.bool false,.none]}:f7)),g,d,t,os⟩) :
  c7 (J6 prog w) A (Builtin.«type.__call__» ⟨.ref C :: rest,[]⟩) (λx s=>match x with | .done f=>R (.ok f) s | .again p=>p.quiet=true∧O3 (J6 prog w) q p R s) (λe s=>R (.error e) s) ⟨h,g,d,t,os⟩:=by
 have F:=PySem.F.excBase_Exception
 repeat (first | with_reducible refine dL hC ?_ | with_reducible refine wpAny_madeBy_exc hC ?_ | wp_step)
 refine codeAny_call_builtin_code (Code.quiet_builtin _ F.quiet) (tT hB hC ?_);refine Xv hB l m hC ?_ c;show c7 _ _ _ _ _ _;have a:=I4 {cls:= .ref C,data:= .fields #[.ref h.objs.size,.none,.none,.none,.bool false,.none]} (I4 {cls:= .type "tuple",data:= .seq rest.toArray} hC);have i:((h.push {cls:= .type "tuple",data:= .seq rest.toArray}).push {cls:= .ref C,data:= .fields #[.ref h.objs.size,.none,.none,.none,.bool false,.none]}).get? (h.objs.size+1)=b6 {cls:= .ref C,data:= .fields #[.ref h.objs.size,.none,.none,.none,.bool false,.none]}:=by heap_get
 have n:(L6 C :: X.bm).contains (.ref C)=true:=by simp
 have k:∀b o,h.get? b=b6 o→((h.push {cls:= .type "tuple",data:= .seq rest.toArray}).push {cls:= .ref C,data:= .fields #[.ref h.objs.size,.none,.none,.none,.bool false,.none]}).get? b=b6 o:=λb o e=>I4 _ (I4 _ e);delta isInstance
 repeat (first | with_reducible refine dL i ?_ | (with_reducible refine rQ a ?_;rw [n]) | wp_step)
 show c7 _ _ (typeLookup (.ref C) _) _ _ _;refine (hi.keeps k).here ?_;refine v9 (d1 (((u (.ref (h.objs.size+1))).keeps k).here ?_));refine d1 (dN (codeAny_mono y λr s z=>?_))
 rcases r with e | (v | _ | _ | _) <;> first | exact z | exact z.elim | skip
 obtain ⟨rfl,z⟩:=z;exact g9 (g9 z)
theorem Tf {j:d4} (hB:X.bm.contains (.type "Exception")=true) (a:X.bm.contains (.type "AttributeError")=false) (c:X.bm.contains (.type "NameError")=false) {rest:List c5} (hC:h.get? C=b6 (X.obj C))
  (hi:Looks (J6 prog w) h (typeLookup (.ref C) "__init__") (b6 (.ref j))) (b:∀self,Looks (J6 prog w) h (bindSpecial (.ref j) self) (.ref j,[self])) (k:rest.length≤bH)
  (m:O3 (J6 prog w) (A.under (.builtin "type.__call__" ⟨.ref C :: rest,[]⟩)) (.call (.ref j) ⟨.ref (h.objs.size+1) :: rest,[]⟩) (InitBack (h.objs.size+1) R) ⟨(h.push {cls:= .type "tuple",data:= .seq rest.toArray}).push (({cls:= .ref C,data:= .fields #[.ref h.objs.size,.none,.none,.none,.bool false,.none]}:f7)),g,d,t,os⟩) :
  O3 (J6 prog w) A (.call (.ref C) ⟨rest,[]⟩) R ⟨h,g,d,t,os⟩:=by
 have r:=tc_lookup;have v:=tc_bind (.ref C);have hT:(⟨h,g,d,t,os⟩:d0).TypeIs (.ref C) "type" :=⟨_,hC,rfl⟩
 refine codeAny_of_tree ?_;show c7 _ _ (callAny (.ref C) _) _ _ _
 repeat (any_goals (first | assumption | wp_step | with_reducible refine dL hC ?_))
 refine ⟨rfl,?_⟩;refine codeAny_call_builtin_at (Code.quiet_builtin _ (by decide +kernel)) entry_typeCall (wpAny_check_type_call_sub hC (zZ hB a c hC hi b k m))
end
variable {C:Cx} {a:Ar C} {st H st':St} {z:Z a st} {W:Wd} {v w:V} {x y:c5} {E:c5→d0→Prop} {A:q8} {N d:Nat}
structure Whole (C:Cx):Prop where
 xk:XK C
 fns:∀adr f,C7 b7.fns adr=b6 f→∃o fd body,FnAt C adr f o fd body
 clss:∀c i,C7 b7.clss c=b6 i→ClsAt C c i
 exc:∃a35 a68 o o' fd fd' body body',XGo C 38 a35∧FnAt C a35 zP o fd body∧XB ⟨fd.scope.names,b8⟩ (.bi .exc) ki kf (.loc 1) (.neg (.cst (.int 1))) body∧FnAt C a68 AP o' fd' body'∧XB ⟨fd'.scope.names,b8⟩ (.cls 38) qv oU (.loc 2) (.loc 3) body'∧
  findIn C.K (.ref XC) "__init__" =b6 (b6 (.ref a68))∧typeIn C.K (.ref a68)=b6 (.type "function")
theorem Fm:aE C (.ref XC):=⟨.machine,.inr rfl,λA s Q E e q=>by
 obtain ⟨X,hC,_⟩:=C.xcls;obtain ⟨hp,g,d,t,os⟩:=s;exact wpAny_keeperOf_exc (e _ _ hC) q⟩
theorem Fc (J:Whole C) (hd:a.d=d+2) {s:List Nat} {i j:Int} {g l:c5} (U:VR z.W (.str s) y) (S:VR z.W (.int i) g) (T:VR z.W (.int j) l):SE z (call (.ref XC) [y,g,l] []) (.mk ⟨s,i,j⟩ st):=λQ E p=>by
 obtain ⟨X,hC,H,hB,v,A⟩:=C.xcls;obtain ⟨a35,M,o,o',fd,N,body,r,G,F,B,L,O,hi,P⟩:=J.exc;have X:C.K.In z.h:=z.kin;refine dN (Tf hB v A (z.inv.keep0 _ _ hC) (looks_findIn X hi) (λself=>bind_fn X self P) (by rw [bG];simp) ?_);have he:((z.h.push {cls:= .type "tuple",data:= .seq [y,g,l].toArray}).push (A6 z.h.objs.size b8)).get? (z.h.objs.size+1)=b6 (A6 z.h.objs.size b8):=j5.get?_push_at (by simp only [lZ]) rfl;have D:z.W (z.h.objs.size+1)=none:=z.inv.fresh (w7 _);let z₁:=(z.keep ((z.h.push {cls:= .type "tuple",data:= .seq [y,g,l].toArray}).push (A6 z.h.objs.size b8)) z.t λc c e=>I4 _ (I4 _ e)).imm (z.h.objs.size+1) (.own (A6 z.h.objs.size b8)) (λc e=>nomatch e) ((z.h.push {cls:= .type "tuple",data:= .seq [y,g,l].toArray}).push (A6 z.h.objs.size b8)) z.t D (λc c c e=>e) λc=>he;have u:To z z₁:=To.trans .kept .immd;refine Jw (z:=z₁) J.xk G (a.under hd) F B L O j6 (u.vr U) (u.vr S) (u.vr T) λz₂ d₂ w f x=>?_;cases x with
 | mk t od b I R n=>
  refine show _=_∧_ from ⟨rfl,?_⟩
  have n1:Nx z₂ (z₂.lose _ b) (z.h.objs.size+1):= .re;have m:(z₂.lose _ b).W d₂=b6 (.own od):=n1.ext _ _ n I;have n2:Nx (z₂.lose _ b) ((z₂.lose _ b).lose d₂ m) d₂:= .re;have hz:z.W d₂=none:=eY u f;refine p ((z₂.lose _ b).lose d₂ m) (z.h.objs.size+1) ⟨λq k e=>n2.ext q k (λh=>nomatch (h▸hz).symm.trans e) (n1.ext q k (λh=>nomatch (h▸D).symm.trans e) (w.ext q k (λh=>nomatch (h▸D).symm.trans e) (u.ext q k e))),i0 _,λc c c h=>h⟩
   (.mk t d₂ ((iN (Ne.symm n)).trans (iP rfl)) (iP rfl) (z₂.inv.at_ _ _ b) R)
theorem MU (J:Whole C) (N:Nat):∀d,P5 C N d (c0 b7 N d):=Nat.rec (λb b b b b b b b=>CI.no) λd P {a st} z l hd A {f args xs} r=>by
 subst l;refine aQ (motive:=λo=>C7 b7.fns f=o→CI z (.ref f) xs (match o with
  | some f=>T4 (V.flats args) ((P6 b7 a.N (c0 b7 a.N d) b8 f args []).lay st) ((P6 b7 a.N (c0 b7 a.N d) b8 f args st).trim st.length)
  | none=>match C7 b7.clss f with
   | some i=>c8 (C7 b7.fns i) .stuck λg=>qb f st.length (P6 b7 a.N (c0 b7 a.N d) (b6 st.length) g (V.inst f st.length :: args) (st++ [.ns []]))
   | none=>if f=b7.exc∧d≠0 then Lw args st else .stuck)) (C7 b7.fns f) (λ_=>?_) (λg hg=>?_) rfl
 ·refine aQ (motive:=λo=>C7 b7.clss f=o→CI z (.ref f) xs (match o with
   | some i=>c8 (C7 b7.fns i) .stuck λg=>qb f st.length (P6 b7 a.N (c0 b7 a.N d) (b6 st.length) g (V.inst f st.length :: args) (st++ [.ns []]))
   | none=>if f=b7.exc∧d≠0 then Lw args st else .stuck)) (C7 b7.clss f) (λ_=>?_) (λi hi=>?_) rfl
  ·refine C3 CI.no λhx=>?_;obtain ⟨rfl,h⟩:=hx;obtain ⟨q,rfl⟩:=Nat.exists_eq_succ_of_ne_zero h;refine VRs.on3 (P:=λxs r=>CI z (.ref b7.exc) xs r) r (λb=> .no) λu v w o x y e c k=>VR.str (P:=λo r=>CI z (.ref b7.exc) [o,x,y] r) e (λb=> .no) λs t=>VR.int (P:=λx r=>CI z (.ref b7.exc) [.str (c6 s) t,x,y] r) c (λb=> .no) λi m=>VR.int (P:=λy r=>CI z (.ref b7.exc) [.str (c6 s) t,.int i m,y] r) k (λb=> .no) λj n Q E p=>
    ⟨Fm,Fc J hd (.mk t) (.mk m) (.mk n) Q E p⟩
  ·refine l6 CI.no λg hg=>?_;obtain ⟨o,fd,body,F⟩:=J.fns i g hg;exact yy hd P (J.clss f i hi) F r
 ·obtain ⟨o,fd,body,F⟩:=J.fns f g hg;exact GS (a.one hd) P F r
end
abbrev O (P:Prop):=Option (PLift P)
def f8 {P:Prop} (h:P):O P:=b6 ⟨h⟩
def O.and {P Q:Prop} (o:O P) (k:P→O Q):O Q:=match o with | some h=>k h.down | none=>b8
def k9 (P:Prop) [Decidable P] {Q:Prop} (k:P→O Q):O Q:=if h:P then k h else b8
section
variable {R:f6→Prop} (e:f6)
def eG (k:∀x p,O (R (.Name x p))):O (R e):=match e with | .Name x p=>k x p | _=>b8
def VZ (k:∀c n p,O (R (.Constant c n p))) (k':∀x p,O (R (.Name x p))):O (R e):=match e with | .Constant c n p=>k c n p | .Name x p=>k' x p | _=>b8
def Pz (k:∀o v p,O (R (.BoolOp o v p))):O (R e):=match e with | .BoolOp o v p=>k o v p | _=>b8
def Rl (k:∀o v p,O (R (.UnaryOp o v p))):O (R e):=match e with | .UnaryOp o v p=>k o v p | _=>b8
def Sg (k:∀l o r p,O (R (.BinOp l o r p))):O (R e):=match e with | .BinOp l o r p=>k l o r p | _=>b8
def VN (k:∀x y z p,O (R (.IfExp x y z p))):O (R e):=match e with | .IfExp x y z p=>k x y z p | _=>b8
def Kv (k:∀l o r p,O (R (.Compare l o r p))):O (R e):=match e with | .Compare l o r p=>k l o r p | _=>b8
def ik (k:∀f as p,O (R (.Call f as [] p))):O (R e):=match e with | .Call f as [] p=>k f as p | _=>b8
def bX (k:∀x n p,O (R (.Attribute x n p))):O (R e):=match e with | .Attribute x n p=>k x n p | _=>b8
def qX (k:∀x y p,O (R (.Subscript x y p))):O (R e):=match e with | .Subscript x y p=>k x y p | _=>b8
def vp (k:∀x y z p,O (R (.Slice x y z p))):O (R e):=match e with | .Slice x y z p=>k x y z p | _=>b8
def GZ (k:∀x p,O (R (.List x p))):O (R e):=match e with | .List x p=>k x p | _=>b8
def nB (k:∀x n p,O (R (.Tuple x n p))):O (R e):=match e with | .Tuple x n p=>k x n p | _=>b8
def Ih (k:∀x y p,O (R (.Dict x y p))):O (R e):=match e with | .Dict x y p=>k x y p | _=>b8
def Rg (k:∀x p,O (R (.FormattedValue x (-1) b8 p))):O (R e):=match e with | .FormattedValue x c b8 p=>if h:c= -1 then h▸k x p else b8 | _=>b8
def Mp (k:∀x p,O (R (.JoinedStr x p))):O (R e):=match e with | .JoinedStr x p=>k x p | _=>b8
def mD (k:∀x v px i ifs sc p,O (R (.ListComp x [⟨.Name v px,i,ifs,0⟩] sc p))):O (R e):=match e with | .ListComp x [⟨.Name v px,i,ifs,0⟩] sc p=>k x v px i ifs sc p | _=>b8
def wb:O (∀n env w,mc e n env w=w):=match e with
 | .Name .. =>f8 λz z z=>rfl
 | .Attribute .. =>f8 λz z z=>rfl
 | .Subscript .. =>f8 λz z z=>rfl
 | .Constant .. =>f8 λz z z=>rfl
 | .BinOp .. =>f8 λz z z=>rfl
 | .Dict .. =>f8 λz z z=>rfl
 | _=>b8
def lE:O (Z0 e):=match e with
 | .ListComp .. =>b8
 | .SetComp .. =>b8
 | .DictComp .. =>b8
 | .Name .. =>f8 λz z z=>rfl
 | .Constant .. =>f8 λz z z=>rfl
 | .Attribute .. =>f8 λz z z=>rfl
 | .Subscript .. =>f8 λz z z=>rfl
 | .Call .. =>f8 λz z z=>rfl
 | .BinOp .. =>f8 λz z z=>rfl
 | .BoolOp .. =>f8 λz z z=>rfl
 | .UnaryOp .. =>f8 λz z z=>rfl
 | .IfExp .. =>f8 λz z z=>rfl
 | .Compare .. =>f8 λz z z=>rfl
 | .List .. =>f8 λz z z=>rfl
 | .Tuple .. =>f8 λz z z=>rfl
 | .Dict .. =>f8 λz z z=>rfl
 | .JoinedStr .. =>f8 λz z z=>rfl
 | _=>b8
def qD:O (∀x env,dT e env x=pure x):=match e with
 | .Name .. =>f8 λz z=>rfl
 | .Attribute .. =>f8 λz z=>rfl
 | .Subscript .. =>f8 λz z=>rfl
 | .Call .. =>f8 λz z=>rfl
 | .Tuple .. =>f8 λz z=>rfl
 | .List .. =>f8 λz z=>rfl
 | .Constant .. =>f8 λz z=>rfl
 | .BinOp .. =>f8 λz z=>rfl
 | _=>b8
end
def ce (x:c9):Bool:= !(x==("__debug__" :c9))&& !(x==("__classdict__" :c9))&& !(x==(".0" :c9))
theorem ag {x:c9} (h:ce x=true):bv x:=by
 delta ce at h;simp only [Z6,FT] at h;exact ⟨h.1.1,h.1.2,h.2⟩
def eH (names:List (c9×B0)) (v:c9) (sc:Scope):Bool:=(match sc.kind with | .function=>true | _=>false)&&decide (sc.names.lookup v=b6 .local)&&sc.names.all λp=>match p.2 with
 | .local=>(decide (p.1=v)||p.1==(".0" :c9))&&decide (sc.names.lookup p.1=b6 .local)
 | .cell=>false
 | .free=>(match r4 names p.1 with | some (_,.cell)=>true | _=>false)
 | _=>true
set_option tactic.hygienic true in
theorem db {names:List (c9×B0)} {v:c9} {sc:Scope} (h:eH names v sc=true):ScOk names v sc:=by
 delta eH at h;rw [Z6,Z6,aO,decide_eq_true_eq] at h;refine ⟨?_,λx f a=>?_,λp hp e=>?_,λp hp e=>?_,λp hp e=>?_,h.1.2⟩
 ·have:=h.1.1;generalize sc.kind=k at this ⊢
  cases k <;> first | rfl | exact S9 this
 ·have:=h.2 _ (mem_of_lookup f);rcases QQ.mp (q7.mp this).1 with q | q
  ·exact of_decide_eq_true q
  ·exact absurd (a.symm.trans q) O0
 ·have:=h.2 p hp;rw [e] at this;exact of_decide_eq_true (q7.mp this).2
 ·have:=h.2 p hp;rw [e] at this;cases this
 ·have:=h.2 p hp;rw [e] at this;dsimp only at this;generalize r4 names p.1=o at this ⊢;cases o with
  | none=>exact S9 this
  | some q=>
   obtain ⟨j,k⟩:=q
   cases k <;> first | exact ⟨j,rfl⟩ | exact S9 this
def Xr (G:TC) (v:V) (k:Const) (n:Nat) (p:n5):O (OK2 G (.cst v) (.Constant k n p)):=match v,k with
 | .none,.none=>f8 Iq
 | .bool b,.bool b'=>k9 (b'=b) λh=>f8 (h▸JB)
 | .int i,.int a=>k9 (a=i) λh=>f8 (h▸LV)
 | .str s,.str c=>k9 (u8 c=s) λh=>f8 (h▸NE)
 | _,_=>b8
def nh (c:CE) (G:TC) (r:∀e,O (OK2 G c e)) (o:Option f6):O (yv G c o):=match o with
 | some e=>(r e).and λh=>f8 (Dg h)
 | none=>match c with
  | .cst .none=>f8 Ao
  | _=>b8
mutual
noncomputable def q9:(c:CE)→(G:TC)→(e:f6)→O (OK2 G c e)
 | .cst v,G,e=>VZ e (λk n p=>Xr G v k n p) λx p=>k9 (G.look x=b6 .globalImplicit) λh1=>k9 (ce x=true) λA=>k9 (U8 G6 x v=true) λM=>f8 (Hu h1 (ag A) M)
 | .loc i,G,e=>eG e λx p=>k9 (G.idx x=b6 i) λh=>k9 (ce x=true) λA=>f8 (Lv h (ag A))
 | .bop b es,G,e=>Pz e λo vs p=>k9 (rl b=o) λh=>(chkB es G b vs).and λk=>f8 (h▸NM b k)
 | .not a,G,e=>Rl e λo x p=>(q9 a G x).and λk=>k9 (.Not=o) λh=>f8 (h▸OO k)
 | .neg a,G,e=>Rl e λo x p=>(q9 a G x).and λk=>k9 (.USub=o) λh=>f8 (h▸Pk k)
 | .bin op a b,G,e=>Sg e λl o r p=>k9 (op.py=o) λh=>(q9 a G l).and λk=>(q9 b G r).and λk'=>f8 (h▸MH op k k')
 | .ite t a b,G,e=>VN e λx y z p=>(q9 t G x).and λh=>(q9 a G y).and λh1=>(q9 b G z).and λA=>f8 (Ox h h1 A)
 | .cmp1 op a b,G,e=>Kv e λl o r p=>match o,r with
  | [o],[r]=>k9 (op.py=o) λh=>(q9 a G l).and λk=>(q9 b G r).and λk'=>f8 (h▸HV op k k')
  | _,_=>b8
 | .cmp2 op E a b c,G,e=>Kv e λl o r p=>match o,r with
  | [o,o'],[r,N]=>k9 (op.py=o) λh=>k9 (E.py=o') λh'=>(q9 a G l).and λk=>(q9 b G r).and λk'=>(q9 c G N).and λk2=>f8 (h▸h'▸IA op E k k' k2)
  | _,_=>b8
 | .call f args,G,e=>ik e λd as p=>(q9 f G d).and λk=>(chkEs args G as).and λk'=>k9 (as.length≤8) λw=>match d with
  | .Name .. =>f8 (vP k k' w λP=>rfl)
  | .Subscript .. =>f8 (vP k k' w λP=>rfl)
  | _=>b8
 | .bm m o args,G,e=>ik e λd as p=>bX (R:=λd=>OK2 G (.bm m o args) (.Call d as [] p)) d λx n F=>k9 (u8 n=Y8 m) λC=>k9 ((F.endLine==p.line)=true) λJ=>k9 (as.length≤8) λw=>(wb x).and λB=>(q9 o G x).and λk=>(chkEs args G as).and λk'=>f8 (RQ m k k' w J B C)
 | .im name o args,G,e=>ik e λd as p=>bX (R:=λd=>OK2 G (.im name o args) (.Call d as [] p)) d λx n F=>k9 (u8 n=name) λC=>k9 ((F.endLine==p.line)=true) λJ=>k9 (as.length≤8) λw=>(wb x).and λB=>(q9 o G x).and λk=>(chkEs args G as).and λk'=>f8 (C▸Tq k k' w J B)
 | .attr name o,G,e=>bX e λx n p=>k9 (u8 n=name) λC=>(wb x).and λB=>(q9 o G x).and λk=>f8 (C▸HR k B)
 | .sub o i,G,e=>qX e λx y p=>(q9 o G x).and λk=>(q9 i G y).and λk'=>f8 (OS k k')
 | .slice o lo hi step,G,e=>qX e λx y p=>vp (R:=λy=>OK2 G (.slice o lo hi step) (.Subscript x y p)) y λl h s q=>(q9 o G x).and λk=>(nh lo G (q9 lo G) l).and λk1=>(nh hi G (q9 hi G) h).and λk2=>(nh step G (q9 step G) s).and λk3=>f8 (EO k k1 k2 k3)
 | .list es,G,e=>GZ e λxs p=>k9 (xs.length≤1000) λh=>(chkEs es G xs).and λk=>f8 (Ir k h)
 | .tup es,G,e=>nB e λxs n p=>k9 (xs.length≤1000) λh=>(chkEs es G xs).and λk=>f8 (LB k h)
 | .dict D,G,e=>Ih e λks vs p=>match D,ks,vs,chkKV D G ks vs with
  | .nil,[],[],_=>f8 Dv
  | _,ks,_,o=>o.and λk=>k9 (ks.length≤15) λH=>if L:ks= [] then b8 else f8 (GN k L H)
 | .comp j K,G,e=>mD e λx v px i ifs sc p=>match ifs with
  | []=>k9 (G.inner.isNone=true) λu=>k9 (eH G.names v sc=true) λhs=>(qD i).and λI=>(q9 K G i).and λk=>(q9 j {G with inner:=b6 sc.names} x).and λk'=>f8 (vj k k' I (lU.mp u) (db hs))
  | _=>b8
 | .compIf j K cond,G,e=>mD e λx v px i ifs sc p=>match ifs with
  | [g]=>k9 (G.inner.isNone=true) λu=>k9 (eH G.names v sc=true) λhs=>(qD i).and λI=>(q9 K G i).and λk=>(q9 j {G with inner:=b6 sc.names} x).and λk'=>(q9 cond {G with inner:=b6 sc.names} g).and λk2=>f8 (ku k k' k2 I (lU.mp u) (db hs))
  | _=>b8
 | .fmt a,G,e=>Rg e λx p=>(q9 a G x).and λk=>f8 (Pu k)
 | .fstr ps,G,e=>Mp e λxs p=>match xs with
  | x :: y :: r=>(chkF ps G (x :: y :: r)).and λk=>f8 (Js k)
  | _=>b8
noncomputable def chkEs:(c:CEs)→(G:TC)→(e:List f6)→O (OKs G c e)
 | .nil,G,l=>match l with
  | []=>f8 IH
  | _=>b8
 | .cons c r,G,l=>match l with
  | []=>b8
  | e :: l=>(q9 c G e).and λk=>(chkEs r G l).and λk'=>f8 (BN k k')
noncomputable def chkF:(c:CEs)→(G:TC)→(e:List f6)→O (Fd G c e)
 | .nil,G,l=>match l with
  | []=>f8 Hq
  | _=>b8
 | .cons c r,G,l=>match l with
  | []=>b8
  | e :: l=>(q9 c G e).and λk=>(chkF r G l).and λk'=>f8 (ED k k')
noncomputable def chkB:(c:CEs)→(G:TC)→(b:Bool)→(e:List f6)→O (OKb G b c e)
 | .nil,_,_,_=>b8
 | .cons c r,G,b,l=>match l with
  | []=>b8
  | e :: l=>(q9 c G e).and λk=>match r,l,chkB r G b l with
   | .nil,[],_=>f8 (Ib b k)
   | .cons _ _,_ :: _,o=>o.and λk'=>f8 (EY b k k')
   | _,_,_=>b8
noncomputable def chkKV:(c:CEs)→(G:TC)→(ks:List (Option f6))→(vs:List f6)→O (OKkv G c ks vs)
 | .nil,G,ks,vs=>match ks,vs with
  | [],[]=>f8 DR
  | _,_=>b8
 | .cons c r,G,ks,vs=>match r,ks,vs with
  | .cons d r,b6 k :: ks,v :: vs=>(q9 c G k).and λh=>(q9 d G v).and λh'=>(chkKV r G ks vs).and λa=>f8 (yu h h' a)
  | _,_,_=>b8
end
abbrev eX (G:TC) (x:c9) (i:Nat):Prop:=∃k,r4 G.names x=b6 (i,k)∧(k= .local∨k= .cell)
def nQ (G:TC) (x:c9) (i:Nat):O (eX G x i):=if h:r4 G.names x=b6 (i,.local) then f8 ⟨_,h,.inl rfl⟩ else if h:r4 G.names x=b6 (i,.cell) then f8 ⟨_,h,.inr rfl⟩ else b8
theorem Mq {G:TC} {x:c9} {i:Nat} {p:n5} (h:eX G x i):OKt G (.name i) (.Name x p):=h.elim λk h=>Dm h.1 h.2
mutual
noncomputable def Sd:(t:CT)→(G:TC)→(e:f6)→O (OKt G t e)
 | .name i,G,e=>eG e λx p=>(nQ G x i).and λh=>f8 (Mq h)
 | .tup ts,G,e=>nB e λxs k p=>(chkTs ts G xs).and λh=>f8 (oi h)
noncomputable def chkTs:(t:CTs)→(G:TC)→(e:List f6)→O (OKts G t e)
 | .nil,G,l=>match l with
  | []=>f8 El
  | _=>b8
 | .cons t r,G,l=>match l with
  | []=>b8
  | e :: l=>(Sd t G e).and λh=>(chkTs r G l).and λh'=>f8 (yU h h')
end
theorem Sm {G:TC} {i1 i2:Nat} {n1 n2:c9} {p1 p2:n5} (h1:eX G n1 i1) (c:eX G n2 i2) (d:i1≠i2):lN G (.cons (.name i1) (.cons (.name i2) .nil)) [.Name n1 p1,.Name n2 p2]:=h1.elim λz h1=>c.elim λz c=>YA h1.1 h1.2 c.1 c.2 d
theorem Tc {G:TC} {i1 i2 i3:Nat} {n1 n2 n3:c9} {p1 p2 p3:n5} (h1:eX G n1 i1) (c:eX G n2 i2) (o:eX G n3 i3) (h:i1≠i2) (a:i1≠i3) (b:i2≠i3):lN G (.cons (.name i1) (.cons (.name i2) (.cons (.name i3) .nil))) [.Name n1 p1,.Name n2 p2,.Name n3 p3]:=
 h1.elim λz h1=>c.elim λz c=>o.elim λz o=>Yj h1.1 h1.2 c.1 c.2 o.1 o.2 h a b
def XF (G:TC) (ts:CTs) (es:List f6):O (lN G ts es):=match ts,es with
 | .cons (.name i1) (.cons (.name i2) .nil),[.Name n1 p1,.Name n2 p2]=>(nQ G n1 i1).and λh1=>(nQ G n2 i2).and λc=>k9 (i1≠i2) λh=>f8 (Sm h1 c h)
 | .cons (.name i1) (.cons (.name i2) (.cons (.name i3) .nil)),[.Name n1 p1,.Name n2 p2,.Name n3 p3]=>(nQ G n1 i1).and λh1=>(nQ G n2 i2).and λc=>(nQ G n3 i3).and λo=>k9 (i1≠i2) λh=>k9 (i1≠i3) λh'=>k9 (i2≠i3) λa=>f8 (Tc h1 c o h h' a)
 | _,_=>b8
def ID (es:List f6) (k:Nat) (p:n5) (e:f6):O (∀env,StoresP es (swappedStores [.Tuple es k p] e env)):=match e with
 | .Tuple vs _ _=>k9 (jC vs=true) λh=>f8 λenv=>tW h
 | .Call .. =>f8 λz=> .plain rfl
 | .Subscript .. =>f8 λz=> .plain rfl
 | .IfExp .. =>f8 λz=> .plain rfl
 | .Name .. =>f8 λz=> .plain rfl
 | _=>b8
def Yn (r:f6):O (∀o i w,augStore r o i w=(do C9 [w,o,i] (setItem o i w);release [w,o,i] [];pure .next)):=match r with
 | .Name .. =>f8 λz z z=>rfl
 | .Constant .. =>f8 λz z z=>rfl
 | .Attribute .. =>f8 λz z z=>rfl
 | .Subscript .. =>f8 λz z z=>rfl
 | .BinOp .. =>f8 λz z z=>rfl
 | .Tuple .. =>f8 λz z z=>rfl
 | .Call .. =>f8 λz z z=>rfl
 | _=>b8
theorem XG {G:TC} {x:c9} {i:Nat} {c:CE} {e:f6} {p' pos:n5} (h:eX G x i) (k:OK2 G c e) (hs:Z0 e):F0 G (.set (.name i) c) (.Assign [.Name x p'] e pos):=h.elim λz h=>CM h.1 h.2 k hs
theorem MY {G:TC} {x nv:c9} {j:Nat} {c d:CE} {e i:f6} {sc:Scope} {p' pa px pos:n5} (a:eX G x j) (h:OK2 G c i) (h':OK2 {G with inner:=b6 sc.names} d e) (b:∀x env,dT i env x=pure x) (g:G.inner=b8) (hs:ScOk G.names nv sc):F0 G (.set (.name j) (.comp d c)) (.Assign [.Name x p'] (.ListComp e [⟨.Name nv px,i,[],0⟩] sc pos) pa):=
 a.elim λz a=>rp (B:=wd d) a.1 a.2 h b g hs (qh h') (vj h h' b g hs) λz z z=>rfl
theorem Nn {G:TC} {x nv:c9} {j:Nat} {c d f:CE} {e i g:f6} {sc:Scope} {p' pa px pos:n5} (b:eX G x j) (h:OK2 G c i) (h':OK2 {G with inner:=b6 sc.names} d e) (k:OK2 {G with inner:=b6 sc.names} f g) (l:∀x env,dT i env x=pure x) (a:G.inner=b8) (hs:ScOk G.names nv sc):F0 G (.set (.name j) (.compIf d c f)) (.Assign [.Name x p'] (.ListComp e [⟨.Name nv px,i,[g],0⟩] sc pos) pa):=
 b.elim λz b=>rp (B:=EG d f) b.1 b.2 h l a hs (Kk h' k) (ku h h' k l a hs) λz z z=>rfl
def VQ (c:CE) (G:TC) (j:Nat) (x:c9) (p':n5) (e:f6) (pa:n5) (f:eX G x j):O (F0 G (.set (.name j) c) (.Assign [.Name x p'] e pa)):=match c,lE e with
 | c,b6 hs=>(q9 c G e).and λk=>f8 (XG f k hs.down)
 | .comp a b,b8=>mD (R:=λe=>F0 G (.set (.name j) (.comp a b)) (.Assign [.Name x p'] e pa)) e λy v px i ifs sc p=>match ifs with
  | []=>k9 (G.inner.isNone=true) λh=>k9 (eH G.names v sc=true) λhs=>(qD i).and λd=>(q9 b G i).and λk=>(q9 a {G with inner:=b6 sc.names} y).and λk'=>f8 (MY f k k' d (lU.mp h) (db hs))
  | _=>b8
 | .compIf a b cond,b8=>mD (R:=λe=>F0 G (.set (.name j) (.compIf a b cond)) (.Assign [.Name x p'] e pa)) e λy v px i ifs sc p=>match ifs with
  | [g]=>k9 (G.inner.isNone=true) λh=>k9 (eH G.names v sc=true) λhs=>(qD i).and λd=>(q9 b G i).and λk=>(q9 a {G with inner:=b6 sc.names} y).and λk'=>(q9 cond {G with inner:=b6 sc.names} g).and λk2=>f8 (Nn f k k' k2 d (lU.mp h) (db hs))
  | _=>b8
 | _,b8=>b8
theorem Yp {G:TC} {x:c9} {i:Nat} {c:CE} {e:f6} {p' pos:n5} (op:BOp) (h:eX G x i) (hd:bv x) (k:OK2 G c e):F0 G (.augName i op c) (.AugAssign (.Name x p') op.py e pos):=h.elim λz h=>rA op h.1 h.2 hd k
section
variable {R:n6→Prop} (t:n6)
def aL (k:∀x e p,O (R (.Assign [x] e p))):O (R t):=match t with | .Assign [x] e p=>k x e p | _=>b8
def Ej (k:∀x o e p,O (R (.AugAssign x o e p))):O (R t):=match t with | .AugAssign x o e p=>k x o e p | _=>b8
def wA (k:∀e p,O (R (.Expr e p))):O (R t):=match t with | .Expr e p=>k e p | _=>b8
def TT (k:∀x b o p,O (R (.If x b o p))):O (R t):=match t with | .If x b o p=>k x b o p | _=>b8
def Jg (k:∀x b p,O (R (.While x b [] p))):O (R t):=match t with | .While x b [] p=>k x b p | _=>b8
def Kl (k:∀x e b p,O (R (.For x e b [] p))):O (R t):=match t with | .For x e b [] p=>k x e b p | _=>b8
def Vs (k:∀e p,O (R (.Return (b6 e) p))):O (R t):=match t with | .Return (b6 e) p=>k e p | _=>b8
def Gu (k:∀e p,O (R (.Raise (b6 e) b8 p))):O (R t):=match t with | .Raise (b6 e) b8 p=>k e p | _=>b8
def QT (k:∀p,O (R (.Break p))):O (R t):=match t with | .Break p=>k p | _=>b8
def Ug (k:∀b n np y b0 r hp p,O (R (.Try b [.ExceptHandler (b6 (.Name n np)) (b6 y) (b0 :: r) hp] [] [] p))):O (R t):=match t with | .Try b [.ExceptHandler (b6 (.Name n np)) (b6 y) (b0 :: r) hp] [] [] p=>k b n np y b0 r hp p | _=>b8
end
mutual
noncomputable def VX:(c:CS)→(G:TC)→(t:n6)→O (F0 G c t)
 | .expr e,G,t=>wA t λx p=>(q9 e G x).and λk=>(lE x).and λhs=>f8 (AA k hs)
 | .set m e,G,t=>aL t λx y p=>match m with
  | .name i=>eG (R:=λx=>F0 G (.set (.name i) e) (.Assign [x] y p)) x λx p'=>(nQ G x i).and λg=>VQ e G i x p' y p g
  | .tup ts=>nB (R:=λx=>F0 G (.set (.tup ts) e) (.Assign [x] y p)) x λes k p'=>(chkTs ts G es).and λh=>(XF G ts es).and λA=>(q9 e G y).and λk'=>(lE y).and λhs=>(ID es k p' y).and λD=>f8 (Ds h A k' hs D)
 | .setAttr name o e,G,t=>aL t λx y p=>bX (R:=λx=>F0 G (.setAttr name o e) (.Assign [x] y p)) x λl n p'=>k9 (u8 n=name) λg=>(q9 o G l).and λk=>(q9 e G y).and λk'=>(lE y).and λhs=>f8 (g▸oL k k' hs)
 | .setSub o i e,G,t=>aL t λx y p=>qX (R:=λx=>F0 G (.setSub o i e) (.Assign [x] y p)) x λl r p'=>(q9 o G l).and λk=>(q9 i G r).and λk1=>(q9 e G y).and λk2=>(lE y).and λhs=>f8 (sK k k1 k2 hs)
 | .augName i op e,G,t=>Ej t λx o y p=>k9 (op.py=o) λh=>eG (R:=λx=>F0 G (.augName i op e) (.AugAssign x o y p)) x λx p'=>(nQ G x i).and λg=>k9 (ce x=true) λhp=>(q9 e G y).and λk=>f8 (h▸Yp op g (ag hp) k)
 | .augAttr name o op e,G,t=>Ej t λx o' y p=>k9 (op.py=o') λh=>bX (R:=λx=>F0 G (.augAttr name o op e) (.AugAssign x o' y p)) x λl n p'=>k9 (u8 n=name) λg=>(q9 o G l).and λk=>(q9 e G y).and λk'=>f8 (h▸g▸oZ op k k')
 | .augSub o i op e,G,t=>Ej t λx o' y p=>k9 (op.py=o') λh=>qX (R:=λx=>F0 G (.augSub o i op e) (.AugAssign x o' y p)) x λl r p'=>(Yn r).and λA=>(q9 o G l).and λk=>(q9 i G r).and λk1=>(q9 e G y).and λk2=>f8 (h▸uo op k k1 k2 A)
 | .ite x a b,G,t=>TT t λy c d p=>(q9 x G y).and λh=>(chkSs a G c).and λh1=>(chkSs b G d).and λC=>f8 (Jx h h1 C)
 | .whl x a,G,t=>Jg t λy c p=>(q9 x G y).and λh=>(chkSs a G c).and λh1=>f8 (Hc h h1)
 | .for m j a,G,t=>Kl t λx y c p=>(Sd m G x).and λB=>(q9 j G y).and λh=>(chkSs a G c).and λh1=>(qD y).and λz=>match x with
  | .Name .. =>f8 (Ie B h h1 (λE E=>rfl) λenv x=>z x env)
  | _=>b8
 | .forEnum m j a,G,t=>Kl t λx y c p=>match m with
  | .tup ts=>nB (R:=λx=>F0 G (.forEnum (.tup ts) j a) (.For x y c [] p)) x λes q pp=>ik (R:=λy=>F0 G (.forEnum (.tup ts) j a) (.For (.Tuple es q pp) y c [] p)) y λs as pc=>eG (R:=λs=>F0 G (.forEnum (.tup ts) j a) (.For (.Tuple es q pp) (.Call s as [] pc) c [] p)) s λf p'=>match as with
   | [e]=>(chkTs ts G es).and λB=>(q9 j G e).and λh=>(chkSs a G c).and λh1=>k9 (G.look f=b6 .globalImplicit) λu=>k9 (ce f=true) λv=>k9 (U8 G6 f (.bi .enumerate)=true) λw=>f8 (qH (oi B) h h1 u (ag v) w)
   | _=>b8
  | _=>b8
 | .ret e,G,t=>Vs t λx p=>(q9 e G x).and λk=>f8 (Gm k)
 | .raise e,G,t=>Gu t λx p=>(q9 e G x).and λk=>f8 (zj k)
 | .brk,G,t=>QT t λp=>f8 Jr
 | .try b i h,G,t=>Ug t λx n np y b0 r hp p=>k9 (G.look n=b6 .globalImplicit) λu=>k9 (ce n=true) λv=>k9 (U8 G6 n (.cls XC)=true) λw=>k9 (r4 G.names y=b6 (i,.local)) λz=>(chkSs b G x).and λk=>(chkSs h G (b0 :: r)).and λk'=>f8 (IB k u (ag v) w z k')
noncomputable def chkSs:(c:CSs)→(G:TC)→(t:List n6)→O (bq G c t)
 | .nil,G,l=>match l with
  | []=>f8 Dc
  | _=>b8
 | .cons c r,G,l=>match l with
  | []=>b8
  | t :: l=>(VX c G t).and λh=>(chkSs r G l).and λh'=>f8 (xF h h')
end
def TX (G:TC) (g:V) (t:n6):O (XC1 G g t):=wA t λx p1=>ik (R:=λx=>XC1 G g (.Expr x p1)) x λf as q=>bX (R:=λf=>XC1 G g (.Expr (.Call f as [] q) p1)) f λi e n=>k9 (c6 de=e) λa=>k9 (as.length≤8) λh=>k9 ((n.endLine==q.line)=true) λb=>
 (q9 (.cst g) G i).and λk=>(wb i).and λc=>(chkEs (.cons (.loc 0) (.cons (.loc 1) .nil)) G as).and λd=>f8 (a▸ .mk i as n q p1 k c d h b)
def JZ (G:TC) (n:List Nat) (c:CE) (t:n6):O (XS1 G n c t):=aL t λx e q=>bX (R:=λx=>XS1 G n c (.Assign [x] e q)) x λl m p=>k9 (c6 n=m) λh=>(q9 (.loc 0) G l).and λk1=>(q9 c G e).and λk2=>(lE e).and λs=>f8 (h▸ .mk l p e q k1 k2 s)
def Rz (G:TC) (g:V) (n1 n2:List Nat) (i j:CE) (b:List n6):O (XB G g n1 n2 i j b):=match b with
 | [s,S,T]=>(TX G g s).and λh1=>(JZ G n1 i S).and λc=>(JZ G n2 j T).and λo=>f8 (.mk s S T h1 c o)
 | _=>b8
theorem O.out {P:Prop}:∀{o:O P},o.isSome=true→P
 | some h,_=>h.down
def EA:(l:List c9)→O l.Nodup
 | []=>f8 xu
 | x :: r=>k9 (r.contains x=false) λh=>(EA r).and λh'=>f8 (xr.mpr ⟨λhm=>O0 (h.symm.trans (List.contains_iff_mem.mpr hm)),h'⟩)
def Vh:(v:V)→(x:c5)→O (∀W,VR W v x)
 | .none,.none=>f8 λz=>rfl
 | .int i,.int j t=>k9 (i=j) λh=>f8 λz=>h▸RInt.mk t
 | _,_=>b8
def JT:(l:List V)→(xs:List c5)→O (∀W,VRs W l xs)
 | [],[]=>f8 λz=>rfl
 | v :: l,x :: xs=>(Vh v x).and λh=>(JT l xs).and λh'=>f8 λW=>RCons.mk x xs (h W) (h' W)
 | _,_=>b8
def mo {P:Prop} (K:Frag) (a:Nat) (k:∀o,K.lookup a=b6 o→O P):O P:=aQ (motive:=λx=>K.lookup a=x→O P) (K.lookup a) (λz=>b8) k rfl
def MP {P:Prop} (d:Data) (k:∀fd,d= .func fd→O P):O P:=match d,k with
 | .func fd,k=>k fd rfl
 | _,_=>b8
def Mi {P:Prop} (b:FuncBody) (k:∀l,b= .stmts l→O P):O P:=match b,k with
 | .stmts l,k=>k l rfl
 | _,_=>b8
def UD (K:Frag) (J:c5) (q:c9):O (∀h:j5,K.In h→h.CodeRec J q):=match J with
 | .ref c=>mo K c λo a=>match o,a with
  | ⟨_,_,.fields vs,_⟩,a=>match hv:vs.toList with
   | _ :: .str z t :: _=>k9 (z=q) λe=>f8 λh kin=>⟨c,_,vs,t,rfl,kin _ _ a,rfl,by rw [← Ac,hv,e];rfl⟩
   | _=>b8
  | _,_=>b8
 | _=>b8
abbrev Rd (C:Cx) (l:List V) (v:c5):Prop:=(l= []∧v= .none)∨∃e g n xs,v= .ref e∧C.s₀.heap.get? e=b6 g∧g.data= .seq xs n∧VRs C.w0 l xs.toList
def Rn (K:Frag) (l:List V) (v:c5):O (∀C:Cx,C.K=K→Rd C l v):=match v with
 | .none=>match l with
  | []=>f8 λz z=> .inl ⟨rfl,rfl⟩
  | _=>b8
 | .ref a=>mo K a λo b=>match o,b with
  | ⟨_,_,.seq xs n,_⟩,b=>(JT l xs.toList).and λh=>f8 λC e=> .inr ⟨a,_,n,xs,rfl,C.kin _ _ (e▸b),rfl,h _⟩
  | _,_=>b8
 | _=>b8
def nr (K:Frag) (a:Nat) (f:CFn) (B:TC→List n6→Prop):Prop:=∀C:Cx,C.K=K→∃o fd body,FnAt C a f o fd body∧B ⟨fd.scope.names,b8⟩ body
def He (K:Frag) (a:Nat) (f:CFn) (B:TC→List n6→Prop) (q:∀G b,O (B G b)):O (nr K a f B):=
 mo K a λo A=>MP o.data λfd hd=>Mi fd.body λbody z=>(chkSs f.body ⟨fd.scope.names,b8⟩ body).and λh1=>(q ⟨fd.scope.names,b8⟩ body).and λhB=>
 k9 (fd.scope.kind= .function) λr=>k9 (fd.scope.isCoroutine=false) λs=>k9 (fd.scope.isGenerator=false) λt=>k9 (fd.closure.isEmpty=true) λu=>k9 (fd.globals=N9) λv=>k9 (fd.builtins=jS) λw=>
 (UD K fd.code fd.qualname).and λx=>k9 (f.nloc=fd.scope.names.length) λy=>k9 (fd.params.posonlyargs.isEmpty=true) λh=>k9 (fd.params.kwonlyargs.isEmpty=true) λc=>k9 (fd.params.vararg.isNone=true) λd=>k9 (fd.params.kwarg.isNone=true) λg=>
 k9 (fd.params.args.map (·.arg)=(fd.scope.names.take f.npar).map (·.1)) λi=>k9 (f.npar≤fd.scope.names.length) λj=>k9 (∀p∈fd.scope.names.take f.npar,p.2= .local∨p.2= .cell) λk=>(EA (fd.scope.names.map (·.1))).and λl=>k9 (f.dflt.length≤f.npar) λm=>(Rn K f.dflt fd.defaults).and λn=>
 f8 λC e=>⟨o,fd,body,{at_:=C.kin _ _ (e▸A),data:=hd,text:=z,chk:=h1,kind:=r,co:=s,gen:=t,clo:=FD.mp u,gl:=v,bi:=w,code:=x _ (e▸C.kin),nloc:=y,pos:=FD.mp h,kwo:=FD.mp c,va:=lU.mp d,kw:=lU.mp g,par:=i,npar:=j,kinds:=k,nodup:=l,dlen:=m,dflt:=n C e},hB⟩
def VI {α:Type} {P:α→Prop} (k:∀a,O (P a)):(l:List α)→O (∀a,a∈l→P a)
 | []=>f8 λz h=>nomatch h
 | a :: r=>(k a).and λh=>(VI k r).and λh'=>f8 (uY.mpr ⟨h,h'⟩)
abbrev Tl (K:Frag) (x:c9) (v:V):Prop:=∃y,BB v=b6 y∧(nsIn K N9 x=b6 (b6 y)∨(nsIn K N9 x=b6 b8∧bootBuiltins x=b6 y∧(x== "__name__")=false))
abbrev Ky (K:Frag) (X:Nat):Prop:=∃(x:XD) (W:d4),K.lookup X=b6 (x.obj X)∧x.bm= [.ref W,.type "Exception",.type "BaseException",.type "object"]∧x.hdct=true
def Rk (K:Frag) (X:Nat):O (Ky K X):=mo K X λo a=>match o,a with
 | ⟨c,f,.cls ⟨nm,bs,mro,ns,q,hd,s,sub,e,b,d⟩,⟨sl⟩⟩,a=>k9 (c= .type "type") λh=>k9 (d=false) λh1=>k9 (hd=true) λg=>match sl,a with
  | [l,k1,k2,k3,m,n],a=>match mro,a with
   | m0 :: .ref W :: r,a=>k9 (m0= .ref X) λi=>k9 (r= [.type "Exception",.type "BaseException",.type "object"]) λj=>k9 (m=b6 (.builtin "Exception.__new__")) λk=>
    f8 ⟨⟨nm,q,ns,bs,.ref W :: r,hd,s,sub,e,b,f,l,k1,k2,k3,n⟩,W,by subst h h1 i k;exact a,cG _ j,g⟩
   | _,_=>b8
  | _,_=>b8
 | _,_=>b8
def vl (o:Option CFound) (a:Nat):Bool:=match o with
 | some (.val (.ref b))=>Nat.beq b a
 | _=>false
set_option tactic.hygienic true in
theorem tR {o:Option CFound} {a:Nat} (h:vl o a=true):o=b6 (.val (.ref a)):=by
 cases o with
 | none=>exact S9 h
 | some c=>cases c <;> first | exact S9 h | (rename_i v;cases v <;> first | exact S9 h | exact cG (λn=>b6 (CFound.val (.ref n))) (xC h))
def Gk (K:Frag) (wf a:Nat):Bool:=(specialIn K (.ref wf) "__getattribute__" ==b6 (b6 (.builtin "type.__getattribute__")))&&readsIn K wf (.type "type")&&
 vl (findCls K (.ref wf) (.type "type") (c6 de)) a
theorem pY (x:c9):c6 (u8 x)=x:=rfl
theorem Gz {u v:V} (h:V.glob u v=true):v=u:=by
 cases u <;> first | exact S9 h | (cases v <;> first | exact S9 h | exact cG V.fn (xC h).symm | exact cG V.cls (xC h).symm | exact cG V.bi (of_decide_eq_true h).symm)
def gZ (o:Option (Option c5)) (a:Nat):Bool:=match o with
 | some (b6 (.ref b))=>Nat.beq b a
 | _=>false
theorem dz {o:Option (Option c5)} {a:Nat} (h:gZ o a=true):o=b6 (b6 (.ref a)):=by
 cases o with
 | none=>exact S9 h
 | some o=>cases o with
  | none=>exact S9 h
  | some v=>cases v <;> first | exact S9 h | exact cG (λn=>b6 (b6 (L6 n))) (xC h)
def TI (o:Option (Option c5)):Bool:=match o with
 | some b8=>true
 | _=>false
def TY (o:Option c5) (w:c5):Bool:=match o with
 | some v=>v==w
 | none=>false
def vS (K:Frag) (p:List Nat×V):Bool:=match p.2 with
 | .fn a=>gZ (nsIn K N9 (c6 p.1)) a
 | .cls a=>gZ (nsIn K N9 (c6 p.1)) a
 | .bi b=>TI (nsIn K N9 (c6 p.1))&&TY (bootBuiltins (c6 p.1)) (kX b)&& !(c6 p.1==("__name__" :c9))
 | _=>false
theorem xG {o:Option (Option c5)} (h:TI o=true):o=b6 none:=by
 cases o with
 | none=>exact S9 h
 | some o=>cases o with
  | none=>rfl
  | some v=>exact S9 h
theorem II {w:c5} {o:Option c5} (h:TY o w=true):o=b6 w:=by
 cases o with
 | none=>exact S9 h
 | some v=>exact cG b6 (beq_iff_eq.mp h)
theorem Ei {K:Frag} {l:List Nat} {u:V} (h:vS K (l,u)=true):Tl K (c6 l) u:=by
 cases u <;> first | exact S9 h | exact ⟨_,rfl,.inl (dz h)⟩ | exact (q7.mp h).elim λh h'=>(q7.mp h).elim λh c=>⟨_,rfl,.inr ⟨xG h,II c,(FT _).mp h'⟩⟩
theorem vB:∀{l:List (List Nat×V)} {k:List Nat} {v:V},look? l k=b6 v→(k,v)∈l
 | p :: r,k,v,h=>by
  rw [pu] at h
  split at h
  ·rename_i e;cases h;cases e;exact D6
  ·exact F1 _ (vB h)
theorem nc {β:Type}:∀{l:List (Nat×β)} {k:Nat} {v:β},C7 l k=b6 v→(k,v)∈l
 | p :: r,k,v,h=>by
  rw [Xk] at h
  split at h
  ·rename_i e;cases h;cases e;exact D6
  ·exact F1 _ (nc h)
theorem wO:∀{l:List (List Nat×Nat×Nat)} {n:List Nat} {c a:Nat},aK l n c=b6 a→(n,c,a)∈l
 | (m,k,b) :: r,n,c,a,h=>by
  rw [WB] at h
  split at h
  ·rename_i e;obtain ⟨rfl,rfl⟩:=e;cases h;exact D6
  ·exact F1 _ (wO h)
theorem Uo {C:Cx} {wf a:Nat} (h:Gk C.K wf a=true) (i:∀n∈ [ki,kf,qv,oU],findIn C.K (.ref XC) (c6 n)=b6 b8):XGo C wf a:=by
 delta Gk at h;simp only [Z6,beq_iff_eq] at h;obtain ⟨⟨h1,g⟩,o⟩:=h;refine ⟨λ{A s p Q E} b q=>?_,λ{A s p Q E} b q=>?_,i⟩
 ·have X:C.K.In s.heap:=C.kin.keeps b;have e:findCls C.K (.type "Exception") (.type "type") (c6 de)=b6 (.val (.builtin "Exception.__init__")):=by kernel_rfl
  have j:typeOf (.type "Exception")=pure (.type "type"):=by kernel_rfl
  have hs:Manifest.isStub "Exception" =false:=by decide +kernel
  have c:opaqueClassAbove (.type "Exception")=pure none:=by delta opaqueClassAbove;dsimp only;rw [hs];rfl
  have L:Looks C.M s.heap (typeOf (.type "Exception")) (.type "type"):=Looks.of_pure j;have hg:findIn C.K (.type "type") "__getattribute__" =b6 (b6 (.builtin "type.__getattribute__")):=type_tga;delta aM specialOf;refine d1 (d1 (L.here ((looks_findIn X hg).here ?_)));dsimp only;rw [iP canon_tga];refine d1 (aT (Q:=λv=>Q (v,[])) (E:=E) ?_ (λd d z=>g9 z) λd d z=>z);have f:Looks C.M s.heap (opaqueClassAbove (.type "Exception")) none:=Looks.of_pure c;exact cls_open X f L hg (looks_hook X (r:=b8) (by rfl)) (by show subIn C.K _ _=_;rfl) e
   (g9 (by show c7 _ _ (handedOut _) _ _ _;rw [handedOut_of rfl];exact g9 q))
 ·have X:C.K.In s.heap:=C.kin.keeps b;refine method_cls X h1 ?_;exact cls_value X g (tR o) rfl q
theorem Gx {K:Frag} {h:j5} {p:mj} {loose:List c9} {mg mb:c9→Option c5} (X:K.In h) (T:TopRead p loose mg mb h) (o:G6.all (vS K)=true) {x:c9} {v:V} (hg:U8 G6 x v=true) :
  ∃y,BB v=b6 y∧(mg x=b6 y∨(mg x=b8∧mb x=b6 y)):=by
 delta U8 at hg;cases e:look? G6 (u8 x) with
 | none=>rw [e] at hg;cases hg
 | some u=>
  rw [e] at hg;cases Gz hg;obtain ⟨y,h1,c⟩:=Ei (aO.mp o _ (vB e));rw [pY] at c;exact ⟨y,h1,c.imp (mg_of X T.g) λh=>⟨ns_none_of X T.g h.1,(T.builtins x (λe=>by rw [e] at h;exact absurd h.2.2 (by decide))).trans h.2.1⟩⟩
def wk (K:Frag):Bool:=(b7.tabs.attrs.all λp=>tx K p.1 (c6 p.2)&&nZ K p.1 (c6 p.2))&&(b7.tabs.xattrs.all λn=>mB K XC (c6 n))&&(b7.tabs.meths.all λp=>us K p.2.1 (c6 p.1) p.2.2)
def GU (K:Frag):Bool:=decide (mroIn K XC (.type "BaseException")=b6 true)&&decide (typeIn K (.ref XC)=b6 (.type "type"))&&(Rk K XC).isSome&&decide (findIn K (.ref XC) "__setattr__" =b6 (b6 (.builtin "object.__setattr__")))&&
 ([ki,kf,qv,oU].all λn=>decide (findIn K (.ref XC) (c6 n)=b6 b8))
def NA (K:Frag) (p:Nat×Nat):Bool:=makesIn K p.1&&gZ (findIn K (.ref p.1) "__init__") p.2&&isFn K (.ref p.2)
def Ap (K:Frag):Bool:=G6.all (vS K)&&wk K&&GU K&&b7.clss.all (NA K)&&Gk K 38 35&&gZ (findIn K (.ref XC) "__init__") 68&&isFn K (.ref 68)
structure HeapK (K:Frag):Prop where
 glob:G6.all (vS K)=true
 tabs:wk K=true
 exc:GU K=true
 clss:b7.clss.all (NA K)=true
 go:Gk K 38 35=true
 init:gZ (findIn K (.ref XC) "__init__") 68=true
 fn:isFn K (.ref 68)=true
theorem SZ {K:Frag} (h:Ap K=true):HeapK K:=by
 delta Ap at h;simp only [Z6] at h;obtain ⟨⟨⟨⟨⟨⟨g,e⟩,p⟩,a⟩,b⟩,c⟩,d⟩:=h;exact ⟨g,e,p,a,b,c,d⟩
structure ExcK (K:Frag):Prop where
 mro:mroIn K XC (.type "BaseException")=b6 true
 typ:typeIn K (.ref XC)=b6 (.type "type")
 cls:Ky K XC
 sa:findIn K (.ref XC) "__setattr__" =b6 (b6 (.builtin "object.__setattr__"))
 free:∀n∈ [ki,kf,qv,oU],findIn K (.ref XC) (c6 n)=b6 b8
theorem xE {K:Frag} (h:GU K=true):ExcK K:=by
 delta GU at h;simp only [Z6,aO,decide_eq_true_eq] at h;obtain ⟨⟨⟨⟨f,i⟩,b⟩,g⟩,e⟩:=h;exact ⟨f,i,O.out b,g,e⟩
theorem oa {K:Frag} (h:wk K=true):(∀p∈b7.tabs.attrs,tx K p.1 (c6 p.2)=true∧nZ K p.1 (c6 p.2)=true)∧(∀n∈b7.tabs.xattrs,mB K XC (c6 n)=true)∧∀p∈b7.tabs.meths,us K p.2.1 (c6 p.1) p.2.2=true:=by
 delta wk at h;simp only [Z6,aO] at h;exact ⟨h.1.1,h.1.2,h.2⟩
def XR (w:D8) (s₀:d0) (K:Frag) (kin:K.In s₀.heap) {p:mj} {loose:List c9} {mg mb:c9→Option c5} (T:TopRead p loose mg mb s₀.heap) (big:∃o,s₀.heap.get? 969=b6 o) (low:∀p,p≤3→∃o,s₀.heap.get? p=b6 o) (H:HeapK K):Cx:=
 {w,s₀,K,kin,lim:=T.nolimit,big,low,glob:=⟨mg,mb,T.g,T.b,λx v hg=>Gx kin T H.glob hg⟩
  attr:=(oa H.tabs).1
  xattr:=(oa H.tabs).2.1
  meth:=λn c a hp=>(oa H.tabs).2.2 _ (wO hp)
  isExc:=(xE H.exc).mro
  excType:=(xE H.exc).typ
  xcls:=(xE H.exc).cls.elim λx h=>h.elim λW h=>⟨x,kin _ _ h.1,by rw [h.2.1];rfl,by rw [h.2.1];rfl,by rw [h.2.1];rfl,by rw [h.2.1];rfl⟩}
theorem CX {C:Cx} (H:HeapK C.K) (k:∀p,p∈b7.fns→nr C.K p.1 p.2 λz z=>True) (h:nr C.K 35 zP λG b=>XB G (.bi .exc) ki kf (.loc 1) (.neg (.cst (.int 1))) b) (d:nr C.K 68 AP λG b=>XB G (.cls 38) qv oU (.loc 2) (.loc 3) b):Whole C:=by
 refine {xk:=?_,fns:=λadr f e=>?_,clss:=λc i e=>?_,exc:=?_}
 ·obtain ⟨x,W,O,j,hd⟩:=(xE H.exc).cls;exact ⟨⟨_,W,by delta clsIn;rw [O],hd,by rw [j]⟩,(xE H.exc).sa⟩
 ·obtain ⟨o,fd,b,F,_⟩:=k (adr,f) (nc e) C rfl;exact ⟨o,fd,b,F⟩
 ·have:=aO.mp H.clss _ (nc e);unfold NA at this;simp only [Z6] at this;exact ⟨this.1.1,dz this.1.2,beq_iff_eq.mp this.2⟩
 ·obtain ⟨o,fd,b,F,B⟩:=h C rfl;obtain ⟨o',a,b',L,g⟩:=d C rfl;exact ⟨35,68,o,o',fd,a,b,b',Uo H.go (xE H.exc).free,F,B,L,g,dz H.init,beq_iff_eq.mp H.fn⟩
section
variable {G:TC} {env:i5} {ρ:Loc} {e hi:f6} {pos:n5}
theorem Ff {n:Nat} (h:n≤63):clipAt n 63=n:=by
 delta clipAt;rw [iN (by decide),Int.min_eq_right (show (n:Int)≤63 from fx.mpr h),Int.max_eq_right (V3 n)];rfl
theorem yg {l:d4} {vs:Array c5} {L:List V} (z:Z a st) (H:Cn G z env ρ) (h:OK2 G (.loc 0) e) (q:OK2 G (.cst (.int 63)) hi) (i:C6 ρ 0 st= .ok (.cls l) st) (s:C.s₀.heap.IsList l vs) (r:VRs z.W L vs.toList) (d:L.length≤63) {p':n5} :
  SE z (eval (.Subscript e (.Slice b8 (b6 hi) b8 p') pos) env) (.ok (.ref st.length) (st++ [.list L])):=λQ E p=>by
 have o:SE z (eval e env) (.ok (.cls l) st):=i▸h.e z H;refine Subscript_ (o _ E λz₁ y b j=>wpAny_Slice (FN ((q.e z₁ (H.to b)) _ E λz₂ w u c=>FN ?_)));cases j;cases c with
 | mk t=>
  obtain ⟨ob,v,m,n,hd⟩:=s;have f:(z₂.slc .none (.int 63 t) .none).h.get? l=b6 ob:=(z₂.slc .none (.int 63 t) .none).inv.keep0 _ _ v;have hsz:vs.size=L.length:=r.length;refine (GI.tail (z:=z₂.slc .none (.int 63 t) .none) (r:= .ok (.ref st.length) (st++ [.list L])) (GI.mk (T:= "list") (x:= .ref l) ⟨_,f,m⟩ slot_list_getitem.lookup λQ E k=>?_) (ops:= [.ref z₂.h.objs.size,.ref l]) (by with_unfolding_all rfl)) Q E ((p.to (b.trans u)).to .kept);refine Gh ⟨ob,f,m,n,hd⟩ (j5.IsSliceOf.new ..) (nW b8) (nW (b6 (63,t))) .none nofun ?_ (sz (hsz▸d3 d (by decide)))
  rw [slicePick_plain];refine k.newList ?_ _;have g:clipAt vs.size 63=vs.size:=hsz▸Ff d;show VRs _ L ((vs.toList.take (clipAt vs.size 63)).drop 0).toArray.toList;rw [g,QI (by rw [xA];exact i0 _)];exact u.vrs (b.vrs r)
abbrev cO:CSs:=match nG.body with | .cons _ r=>r | .nil=> .nil
inductive LawB (G:TC):List n6→Prop
 | mk (n p' e hi p2 p3 pos r):eX G n 0→OK2 G (.loc 0) e→OK2 G (.cst (.int 63)) hi→bq G cO r→LawB G (.Assign [.Name n p'] (.Subscript e (.Slice b8 (b6 hi) b8 p2) p3) pos :: r)
def Nf (G:TC) (b:List n6):O (LawB G b):=match b with
 | t :: r=>aL (R:=λt=>LawB G (t :: r)) t λx y pos=>eG (R:=λx=>LawB G (.Assign [x] y pos :: r)) x λn p'=>qX (R:=λy=>LawB G (.Assign [.Name n p'] y pos :: r)) y λe s p3=>vp (R:=λs=>LawB G (.Assign [.Name n p'] (.Subscript e s p3) pos :: r)) s λl h k p2=>match l,h,k with
  | none,b6 hi,b8=>(nQ G n 0).and λh1=>(q9 (.loc 0) G e).and λc=>(q9 (.cst (.int 63)) G hi).and λo=>(chkSs cO G r).and λa=>f8 (.mk n p' e hi p2 p3 pos r h1 c o a)
  | _,_,_=>b8
 | []=>b8
def a0 (C:Cx):Ar C:={A:=callerA,envs:= [],N:=300,d:=15,Φ:=c0 b7 300 15,slf:=b8,frames:=rfl,hd:=λz=>rfl,depth:=by decide,units:=by decide,scop:=λz h=>absurd h H2}
theorem EC {k:Kn}:∀{o:Option f7},o.map Kn.imm=b6 k→∃x,o=b6 x∧k= .imm x
 | some x,e=>⟨x,rfl,(k7 e).symm⟩
theorem DD {n:Nat} {o:Option f7} (e:o.map Kn.imm=b6 (.tr n)):False:=(EC e).elim λz h=>Kn.noConfusion h.2
def z0 (C:Cx):Z (a0 C) []:=⟨λp=>(C.s₀.heap.get? p).map Kn.imm,C.s₀.heap,C.s₀.toks,
 {stay:=λb o e=>cG (dK Kn.imm) e,at_:=λp k e=>(EC e).elim λx h=>by rw [h.2];exact h.1,inj:=λp q n e=>(DD e).elim,sur:=λn h=>absurd h (P9 n),new:=λp n e=>(DD e).elim},λz h=>absurd h H2⟩
theorem zy (J:Whole C) {o:f7} {fd:Z8} {body:List n6} (F:FnAt C 969 nG o fd body) (B:LawB ⟨fd.scope.names,b8⟩ body) {ns:List Int} (d:ns.length≤63) {l:d4} {xs:Array c5} (m:C.s₀.heap.IsList l xs) (hi:∀W,VRs W (ns.map .int) xs.toList)
  (a:∃st',execs b7.tabs 300 (c0 b7 300 14) b8 cO (b6 (.ref 0) :: dW 7 b8) [.list (ns.map .int)]= .ret (.bool true) st') {R:X2→d0→Prop}
  (g:∀s,(∀b o,C.s₀.heap.get? b=b6 o→s.heap.get? b=b6 o)→(∃h t,s={C.s₀ with heap:=h,toks:=t})→R (.ok (.ret (.bool true))) s) :
  O3 C.M callerA (.call (.ref 969) ⟨[.ref l],[]⟩) R C.s₀:=by
 have h1:Ar1 (a0 C) callerA 14:=⟨rfl,λG=>rfl,by decide,by decide⟩
 have w:fd.scope.kind≠ .module:=F.kind▸nofun
 refine cC (z:=z0 C) (Φ:=c0 b7 300 14) (sf:=b8) (args:= [.cls l]) (ρ:=b6 (.cls l) :: dW 7 b8) h1 F (.mk _ _ rfl rfl) w rfl λz₂ S₂ ext q=>?_;cases B with
 | mk n p' e k p2 p3 pos r p he j v=>
  have P:P5 C 300 14 (c0 b7 300 14):= @MU C J 300 14;obtain ⟨kd,i,O⟩:=p;refine mi (wpAny_Assign_Name (yg z₂ (S₂.cn P) he j rfl m (hi _) (by rw [u7];exact d) _ _ λz₃ x u f=>E1 (S₂.to u) i O f λz₄ A c=>?_) rfl);refine v z₄ ⟨c,P,⟨[],rfl⟩⟩ _ _ ?_;obtain ⟨st',a⟩:=a;show PostO z₄ _ _ _ (execs b7.tabs 300 (c0 b7 300 14) b8 cO (b6 (.ref 0) :: dW 7 b8) [.list (ns.map .int)]) _;rw [a];intro z' y E D l';cases D;exact g _ z'.inv.keep0 ⟨_,_,rfl⟩
end
end
section
set_option backward.match.sparseCases true
abbrev pw:Program:=PySem.Challenge.pw_pq1113_01
def sv:Env:={scope:=pw.main.scope,locals:=mainNs,globals:=mainNs,cells:= [],code:= .ref 13,frame:=b6 14}
def hP:Pos:=⟨0,0,0,0⟩
def hZ:Pos:=⟨1026,0,1031,45⟩
abbrev hB:List PySem.Stmt:=behindTheImports pw
def hC:Code:= .body hB sv
def hS:Str:=dM "<module>"
def hF:Str:=dM "/claim/cut.py"
def hT (P:I1):BT:= .node (boot_o_0 P)
 (.node (boot_o_1 P) (.node (boot_o_3 P) (.node (boot_o_7 P) .nil .nil) (.node {cls:= .type "tuple",data:= .seq #[]} .nil .nil)) (.node (boot_o_5 P) (.node (boot_o_9 P) .nil .nil) (.node {cls:= .type "code",data:= .fields #[.str hS 182,.str hS 183,.str hF 184,.int 1 0,.int 0 0,.int 0 0,.int 0 0,.int 0 0,.ref 11,.bool false,.int 181 0,.ref 12,.none,.none,.none,.none,.int 185 0,.int 1 0,.str hF 186]} .nil .nil)))
 (.node (boot_o_2 P) (.node (boot_o_4 P) (.node (boot_o_8 P) .nil .nil) (.node {cls:= .none,data:= .fields #[]} .nil .nil)) (.node (boot_o_6 P) (.node (boot_o_10 P) .nil .nil) (.node {cls:= .type "frame",slots:=#[b6 (.ref 13),b6 (.ref 3),b6 (.ref 3),b8,b6 (.str (dM "__main__") 164),b8,b6 (.ref 0)]} .nil .nil)))
def EU (w:D8) (os:L9):SharedT:=⟨hT w.params,15,{},#[],{},187,os⟩
def MA:List n6→Nat→n6
 | [],_=> .Pass ⟨0,0,0,0⟩
 | s :: _,0=>s
 | _ :: r,n+1=>MA r n
def hd (i:Nat):PySem.Stmt:=MA hB i
def hm (i j:Nat):PySem.Stmt:=match hd i with
 | .ClassDef _ _ _ b .. =>MA b j
 | s=>s
def hs (x:c9) (t:Nat):Value:= .str x t
def he (P:I1) (x:c9) (t:Nat) (v:c5):DictEntry:=⟨reduceHash (P.strHash x.cps),.str x t,v⟩
def tu (l:List c5):Obj:=⟨.type "tuple",b8,.seq ⟨l⟩ 0,#[]⟩
def fi (l:List c5):Obj:=⟨.none,b8,.fields ⟨l⟩,#[]⟩
def fo (c:String) (l:List c5):Obj:=⟨.type c,b8,.fields ⟨l⟩,#[]⟩
def di (l:List P8) (n:Nat):Obj:=⟨.type "dict",b8,.dict ⟨l⟩ n,#[]⟩
def fr (a l:Nat) (v:c5):Obj:=⟨.type "frame",b8,.plain,#[b6 (.ref a),b6 (.ref 3),b6 (.ref l),b8,b6 v,b8,b6 (.ref 0)]⟩
def NI:List c9→Nat→List c5
 | [],_=> []
 | x :: r,t=> .str x t :: NI r (t+1)
def UL (n q:c9) (d:Arguments) (b:List n6) (sc:Scope) (l a t k c:Nat) (v w j m:c5):List Obj:=
 [⟨.none,b8,.func {name:=n,qualname:=q,params:=d,body:= .stmts b,scope:=sc,globals:=0,closure:= [],defaults:= .none,kwdefaults:= .none},#[]⟩,
  fo "code" [.str n t,.str q (t+1),hs "/claim/cut.py" (t+2),.int l 0,.int d.args.length 0,.int 0 0,.int 0 0,.int 3 0,.ref a,.bool true,.int 181 0,.ref (a+1),.none,v,w,.ref c,.int k 0,.int l 0,hs "/claim/cut.py" (k+1)],
  ⟨.type "function",b8,.func {name:=n,qualname:=q,params:=d,body:= .stmts b,scope:=sc,globals:=3,closure:= [],defaults:=j,kwdefaults:= .none,pyModule:=m,code:= .ref (c+1),builtins:=0},#[]⟩]
def fm (s:n6) (q:c9) (a t:Nat) (j m:c5):List Obj:=match s with
 | .FunctionDef n c b _ _ _ sc _ _ p=>tu [] :: fi [] :: (match localNames c sc (.stmts b) with
   | none=>UL n q c b sc p.line a t (t+3) (a+2) .none .none j m
   | some (v,w)=>tu (NI v (t+3)) :: tu (NI w (t+3+v.length)) :: UL n q c b sc p.line a t (t+3+v.length+w.length) (a+4) (.ref (a+2)) (.ref (a+3)) j m)
 | _=> []
def fu (s:n6) (a t:Nat) (j m:c5):List Obj:=match s with
 | .FunctionDef n .. =>fm s n a t j m
 | _=> []
def app:List f7→List f7→List f7
 | [],r=>r
 | x :: l,r=>x :: app l r
def Rs:List (List f7)→List f7
 | []=> []
 | l :: r=>app l (Rs r)
def vQ:Bool→List f7→List f7
 | _,[]=> []
 | true,x :: r=>x :: vQ false r
 | false,_ :: r=>vQ true r
def yH:Nat→List f7→BT
 | 0,_=> .nil
 | _+1,[]=> .nil
 | n+1,x :: r=> .node x (yH n (vQ true r)) (yH n (vQ false r))
def UI:List (Nat×Nat)→List c5
 | []=> []
 | (a,b) :: r=> .int a 0 :: .int 0 0 :: .ref b :: UI r
def o11:Obj:=tu []
def o13:Obj:=fo "code" [.str hS 182,.str hS 183,.str hF 184,.int 1 0,.int 0 0,.int 0 0,.int 0 0,.int 0 0,.ref 11,.bool false,.int 181 0,.ref 12,.none,.none,.none,.none,.int 185 0,.int 1 0,.str hF 186]
def o14:Obj:=fr 13 3 (hs "__main__" 164)
def m0:Value:=hs "siftwall.book" 187
def m1:Value:=hs "siftwall.faults" 198
def m2:Value:=hs "siftwall.addresses" 276
def m3:Value:=hs "siftwall.octets" 347
def m4:Value:=hs "siftwall.types" 358
def m5:Value:=hs "siftwall.tokens" 447
def m6:Value:=hs "siftwall.readexpr" 592
def m7:Value:=hs "siftwall.readrule" 683
def m8:Value:=hs "siftwall.readmade" 789
def m9:Value:=hs "siftwall.readbook" 877
def Yl:Value:=hs "siftwall.fields" 971
def t5:Value:=hs "law_pq1113_01" 1004
def wR (P:I1) (nm:c5):List DictEntry:= [he P "__name__" 165 nm,
 he P "__doc__" 166 .none,
 he P "__package__" 167 .none,
 he P "__loader__" 168 (.builtin "__main__.__loader__#opaque"),
 he P "__spec__" 169 .none,
 he P "__annotations__" 170 (.ref 6),
 he P "__builtins__" 171 (.ref 4),
 he P "__file__" 173 (hs "/claim/cut.py" 172),
 he P "__cached__" 174 .none,
 he P "priorities" 197 (.ref 21),
 he P "WallFault" 229 (.ref 38),
 he P "Misused" 245 (.ref 51),
 he P "BadText" 275 (.ref 71),
 he P "decimal_of" 287 (.ref 80),
 he P "hex_of" 298 (.ref 87),
 he P "ip4_of" 309 (.ref 94),
 he P "groups_of" 323 (.ref 101),
 he P "ip6_of" 335 (.ref 108),
 he P "mac_of" 346 (.ref 115),
 he P "name_number" 357 (.ref 122),
 he P "based_number" 370 (.ref 129),
 he P "number_word" 377 (.ref 136),
 he P "time_units" 383 (.ref 143),
 he P "part_end" 392 (.ref 150),
 he P "time_word" 409 (.ref 157),
 he P "unquoted" 416 (.ref 164),
 he P "name_word" 424 (.ref 171),
 he P "mask_word" 435 (.ref 178),
 he P "value_of_word" 446 (.ref 185),
 he P "token_words" 455 (.ref 192),
 he P "unexpected" 464 (.ref 199),
 he P "Reader" 574 (.ref 280),
 he P "expected" 582 (.ref 291),
 he P "number_here" 591 (.ref 298),
 he P "keyword" 601 (.ref 305),
 he P "out_of_range" 610 (.ref 312),
 he P "number_to" 620 (.ref 319),
 he P "read_text" 627 (.ref 326),
 he P "read_time" 636 (.ref 333),
 he P "type_here" 644 (.ref 340),
 he P "resolved" 654 (.ref 347),
 he P "value_of_text" 663 (.ref 354),
 he P "read_from" 674 (.ref 361),
 he P "read_value" 682 (.ref 368),
 he P "size_unit" 693 (.ref 375),
 he P "sized" 702 (.ref 382),
 he P "read_size" 715 (.ref 390),
 he P "read_over" 723 (.ref 397),
 he P "read_counter_body" 731 (.ref 404),
 he P "read_quota_body" 740 (.ref 411),
 he P "cut_word" 749 (.ref 418),
 he P "is_stroke" 756 (.ref 425),
 he P "read_unit" 764 (.ref 432),
 he P "read_rate" 776 (.ref 439),
 he P "read_limit_body" 788 (.ref 446),
 he P "skip_ends" 797 (.ref 453),
 he P "want_end" 804 (.ref 460),
 he P "open_block" 811 (.ref 467),
 he P "word_in" 820 (.ref 474),
 he P "one_of" 830 (.ref 481),
 he P "read_type" 838 (.ref 488),
 he P "read_types" 846 (.ref 495),
 he P "read_set_flags" 852 (.ref 500),
 he P "read_meter" 862 (.ref 507),
 he P "read_expectation" 868 (.ref 512),
 he P "read_devices" 876 (.ref 519),
 he P "name_here" 887 (.ref 526),
 he P "read_family" 895 (.ref 533),
 he P "kinds_for" 904 (.ref 540),
 he P "read_kind" 914 (.ref 547),
 he P "priority_of" 927 (.ref 554),
 he P "read_priority" 939 (.ref 561),
 he P "read_base" 950 (.ref 568),
 he P "read_flowtable" 959 (.ref 575),
 he P "in_ranks" 970 (.ref 582),
 he P "Tongue" 1003 (.ref 599),
 he P "_law_rows" 1011 (.ref 610),
 he P "_law_digit" 1021 (.ref 617),
 he P "_law_pick" 1029 (.ref 624),
 he P "_law_cut" 1039 (.ref 631),
 he P "_law_families" 1045 (.ref 638),
 he P "_law_hooks" 1051 (.ref 645),
 he P "_law_written" 1057 (.ref 652),
 he P "_law_base" 1065 (.ref 659),
 he P "_law_ends" 1072 (.ref 666),
 he P "_law_flows" 1081 (.ref 673),
 he P "_law_expected" 1092 (.ref 680),
 he P "_law_meter" 1102 (.ref 687),
 he P "_law_verbs" 1108 (.ref 694),
 he P "_law_head" 1116 (.ref 701),
 he P "_law_kinds" 1122 (.ref 706),
 he P "_law_changed" 1135 (.ref 713),
 he P "_law_placed" 1147 (.ref 720),
 he P "_law_now" 1154 (.ref 727),
 he P "_law_fault" 1162 (.ref 734),
 he P "_law_wanted" 1173 (.ref 741),
 he P "_law_is" 1182 (.ref 748),
 he P "_law_taken" 1189 (.ref 755),
 he P "_law_need" 1198 (.ref 762),
 he P "_law_one" 1207 (.ref 769),
 he P "_law_text" 1214 (.ref 776),
 he P "_law_pass" 1222 (.ref 783),
 he P "_law_row_end" 1229 (.ref 790),
 he P "_law_whole" 1235 (.ref 795),
 he P "_law_past" 1244 (.ref 802),
 he P "_law_number" 1253 (.ref 809),
 he P "_law_names" 1263 (.ref 816),
 he P "_law_priority" 1278 (.ref 823),
 he P "_law_own_base" 1288 (.ref 830),
 he P "_law_own_devices" 1297 (.ref 837),
 he P "_law_begun" 1304 (.ref 844),
 he P "_law_own_flows" 1313 (.ref 851),
 he P "_law_value" 1326 (.ref 858),
 he P "_law_time" 1336 (.ref 865),
 he P "_law_own_expected" 1342 (.ref 870),
 he P "_law_octets" 1351 (.ref 877),
 he P "_law_size" 1363 (.ref 884),
 he P "_law_over" 1370 (.ref 891),
 he P "_law_halves" 1379 (.ref 898),
 he P "_law_rate" 1390 (.ref 905),
 he P "_law_own_body" 1406 (.ref 912),
 he P "_law_own_meter" 1416 (.ref 919),
 he P "_law_own_head" 1422 (.ref 924),
 he P "_law_own_kinds" 1428 (.ref 929),
 he P "_law_types" 1434 (.ref 936),
 he P "_law_read" 1445 (.ref 943),
 he P "_law_own_read" 1454 (.ref 950),
 he P "_law_right" 1476 (.ref 957),
 he P "_law_ranked" 1482 (.ref 962),
 (he P "law" 1491 (.ref 969))]
def IN:List Value:=UI [(2,20),(23,27),(29,47),(31,59),(38,79),(47,86),(57,93),(68,100),(86,107),(104,114),(116,121),(126,128),(136,135),(140,142),(142,149),(146,156),(170,163),(174,170),(181,177),(191,184),(213,191),(221,198),(224,205),(275,290),(277,297),(287,304),(291,311),(293,318),(300,325),(304,332),(313,339),(317,346),(323,353),(325,360),(334,367),(337,374),(340,381),(344,389),(353,396),(358,403),(365,410),(372,417),(380,424),(382,431),(393,438),(410,445),(423,452),(426,459),(430,466),(433,473),(438,480),(444,487),(454,494),(459,499),(467,506),(481,511),(503,518),(516,525),(525,532),(531,539),(535,546),(548,553),(569,560),(579,567),(591,574),(607,581),(616,588),(622,609),(624,616),(629,623),(631,630),(638,637),(640,644),(642,651),(644,658),(648,665),(650,672),(659,679),(666,686),(678,693),(680,700),(684,705),(688,712),(693,719),(699,726),(701,733),(703,740),(707,747),(709,754),(712,761),(716,768),(720,775),(724,782),(727,789),(731,794),(736,801),(738,808),(746,815),(758,822),(776,829),(786,836),(799,843),(802,850),(819,857),(831,864),(840,869),(860,876),(864,883),(873,890),(879,897),(884,904),(902,911),(926,918),(935,923),(957,928),(974,935),(976,942),(991,949),(997,956),(1019,961),(1026,968)]
def wx (P:I1):List Obj:=Rs [
 fu (hd 1) 15 189 .none m0,
 [tu [.type "Exception"]],
 [fo "builtin_function_or_method" [.builtin "type.__prepare__",.type "type"]],
 [di [he P "__module__" 207 (hs "siftwall.faults" 198),he P "__qualname__" 209 (hs "WallFault" 208),he P "__firstlineno__" 211 (.int 23 210),he P "__init__" 219 (.ref 35),he P "__static_attributes__" 222 (.ref 36)] 5],
 [tu []],
 [fi [.int 25 0,.int 4 0,.ref 34]],
 [fo "code" [hs "WallFault" 202,hs "WallFault" 203,hs "/claim/cut.py" 204,.int 23 0,.int 0 0,.int 0 0,.int 0 0,.int 0 0,.ref 25,.bool false,.int 181 0,.ref 26,.none,.none,.none,.none,.int 205 0,.int 23 0,hs "/claim/cut.py" 206]],
 [fr 27 24 (hs "siftwall.faults" 198)],
 fm (hm 3 0) "WallFault.__init__" 29 212 .none m1,
 [tu [hs "at" 220,hs "why" 221]],
 [di [he P "__module__" 207 (hs "siftwall.faults" 198),he P "__firstlineno__" 211 (.int 23 210),he P "__init__" 219 (.ref 35),he P "__static_attributes__" 222 (.ref 36),he P "__weakref__" 224 (.ref 39),he P "__doc__" 225 .none] 3],
 [⟨.type "type",b8,(.cls ⟨"WallFault",[.type "Exception"],[.ref 38,.type "Exception",.type "BaseException",.type "object"],37, "WallFault",true,[],[.ref 51,.ref 71],false,b8,false⟩),#[b6 (.ref 22),b8,b6 (hs "WallFault" 200),b6 (hs "WallFault" 208),b6 (.builtin "Exception.__new__"),b6 (.bool true)]⟩],
 [fo "getset_descriptor" [hs "__weakref__" 223,.ref 38,.builtin "ExceptionGroup.__weakref__",.none]],
 [fo "super" [.ref 38,.ref 38,.ref 38]],
 [fo "builtin_function_or_method" [.builtin "object.__init_subclass__",.ref 38]],
 [tu [.ref 38]],
 [fo "builtin_function_or_method" [.builtin "type.__prepare__",.type "type"]],
 [di [he P "__module__" 237 (hs "siftwall.faults" 198),he P "__qualname__" 239 (hs "Misused" 238),he P "__firstlineno__" 241 (.int 29 240),he P "__static_attributes__" 242 (.ref 49)] 4],
 [tu []],
 [fi []],
 [fo "code" [hs "Misused" 232,hs "Misused" 233,hs "/claim/cut.py" 234,.int 29 0,.int 0 0,.int 0 0,.int 0 0,.int 0 0,.ref 45,.bool false,.int 181 0,.ref 46,.none,.none,.none,.none,.int 235 0,.int 29 0,hs "/claim/cut.py" 236]],
 [fr 47 44 (hs "siftwall.faults" 198)],
 [tu []],
 [di [he P "__module__" 237 (hs "siftwall.faults" 198),he P "__firstlineno__" 241 (.int 29 240),he P "__static_attributes__" 242 (.ref 49),he P "__doc__" 243 .none] 2],
 [⟨.type "type",b8,(.cls ⟨"Misused",[.ref 38],[.ref 51,.ref 38,.type "Exception",.type "BaseException",.type "object"],50, "Misused",true,[],[],false,b8,false⟩),#[b6 (.ref 42),b8,b6 (hs "Misused" 230),b6 (hs "Misused" 238),b6 (.builtin "Exception.__new__"),b6 (.bool true)]⟩],
 [fo "super" [.ref 51,.ref 51,.ref 51]],
 [fo "builtin_function_or_method" [.builtin "object.__init_subclass__",.ref 51]],
 [tu [.ref 38]],
 [fo "builtin_function_or_method" [.builtin "type.__prepare__",.type "type"]],
 [di [he P "__module__" 253 (hs "siftwall.faults" 198),he P "__qualname__" 255 (hs "BadText" 254),he P "__firstlineno__" 257 (.int 31 256),he P "__init__" 269 (.ref 68),he P "__static_attributes__" 272 (.ref 69)] 5],
 [tu []],
 [fi [.int 33 0,.int 4 0,.ref 67]],
 [fo "code" [hs "BadText" 248,hs "BadText" 249,hs "/claim/cut.py" 250,.int 31 0,.int 0 0,.int 0 0,.int 0 0,.int 0 0,.ref 57,.bool false,.int 181 0,.ref 58,.none,.none,.none,.none,.int 251 0,.int 31 0,hs "/claim/cut.py" 252]],
 [fr 59 56 (hs "siftwall.faults" 198)],
 [tu [.int 0 258,.int 0 259]],
 fm (hm 5 0) "BadText.__init__" 62 260 (.ref 61) m1,
 [tu [hs "column" 270,hs "row" 271]],
 [di [he P "__module__" 253 (hs "siftwall.faults" 198),he P "__firstlineno__" 257 (.int 31 256),he P "__init__" 269 (.ref 68),he P "__static_attributes__" 272 (.ref 69),he P "__doc__" 273 .none] 2],
 [⟨.type "type",b8,(.cls ⟨"BadText",[.ref 38],[.ref 71,.ref 38,.type "Exception",.type "BaseException",.type "object"],70, "BadText",true,[],[],false,b8,false⟩),#[b6 (.ref 54),b8,b6 (hs "BadText" 246),b6 (hs "BadText" 254),b6 (.builtin "Exception.__new__"),b6 (.bool true)]⟩],
 [fo "super" [.ref 71,.ref 71,.ref 71]],
 [fo "builtin_function_or_method" [.builtin "object.__init_subclass__",.ref 71]],
 fu (hd 7) 74 278 .none m2,
 fu (hd 8) 81 288 .none m2,
 fu (hd 9) 88 299 .none m2,
 fu (hd 10) 95 310 .none m2,
 fu (hd 11) 102 324 .none m2,
 fu (hd 12) 109 336 .none m2,
 fu (hd 14) 116 349 .none m3,
 fu (hd 16) 123 360 .none m4,
 fu (hd 17) 130 371 .none m4,
 fu (hd 18) 137 378 .none m4,
 fu (hd 19) 144 384 .none m4,
 fu (hd 20) 151 393 .none m4,
 fu (hd 21) 158 410 .none m4,
 fu (hd 22) 165 417 .none m4,
 fu (hd 23) 172 425 .none m4,
 fu (hd 24) 179 436 .none m4,
 fu (hd 26) 186 449 .none m5,
 fu (hd 27) 193 456 .none m5,
 [tu []],
 [fo "builtin_function_or_method" [.builtin "type.__prepare__",.type "type"]],
 [di [he P "__module__" 472 (hs "siftwall.tokens" 447),he P "__qualname__" 474 (hs "Reader" 473),he P "__firstlineno__" 476 (.int 224 475),he P "__init__" 485 (.ref 213),he P "look" 495 (.ref 221),he P "take" 503 (.ref 228),he P "is_sign" 512 (.ref 235),he P "is_word" 521 (.ref 242),he P "skip_sign" 529 (.ref 249),he P "want_sign" 537 (.ref 256),he P "want_word" 544 (.ref 263),he P "skip_rows" 551 (.ref 270),he P "fault" 560 (.ref 277),he P "__static_attributes__" 567 (.ref 278)] 14],
 [tu []],
 [fi [.int 226 0,.int 4 0,.ref 212,.int 234 0,.int 4 0,.ref 220,.int 240 0,.int 4 0,.ref 227,.int 245 0,.int 4 0,.ref 234,.int 249 0,.int 4 0,.ref 241,.int 253 0,.int 4 0,.ref 248,.int 259 0,.int 4 0,.ref 255,.int 263 0,.int 4 0,.ref 262,.int 268 0,.int 4 0,.ref 269,.int 272 0,.int 4 0,.ref 276]],
 [fo "code" [hs "Reader" 467,hs "Reader" 468,hs "/claim/cut.py" 469,.int 224 0,.int 0 0,.int 0 0,.int 0 0,.int 0 0,.ref 203,.bool false,.int 181 0,.ref 204,.none,.none,.none,.none,.int 470 0,.int 224 0,hs "/claim/cut.py" 471]],
 [fr 205 202 (hs "siftwall.tokens" 447)],
 fm (hm 28 0) "Reader.__init__" 207 477 .none m5,
 [tu [.int 0 486]],
 fm (hm 28 1) "Reader.look" 215 487 (.ref 214) m5,
 fm (hm 28 2) "Reader.take" 222 496 .none m5,
 fm (hm 28 3) "Reader.is_sign" 229 504 .none m5,
 fm (hm 28 4) "Reader.is_word" 236 513 .none m5,
 fm (hm 28 5) "Reader.skip_sign" 243 522 .none m5,
 fm (hm 28 6) "Reader.want_sign" 250 530 .none m5,
 fm (hm 28 7) "Reader.want_word" 257 538 .none m5,
 fm (hm 28 8) "Reader.skip_rows" 264 545 .none m5,
 fm (hm 28 9) "Reader.fault" 271 552 .none m5,
 [tu [hs "at" 561,hs "family" 562,hs "known" 563,hs "table" 564,hs "tokens" 565,hs "tongue" 566]],
 [di [he P "__module__" 472 (hs "siftwall.tokens" 447),he P "__firstlineno__" 476 (.int 224 475),he P "__init__" 485 (.ref 213),he P "look" 495 (.ref 221),he P "take" 503 (.ref 228),he P "is_sign" 512 (.ref 235),he P "is_word" 521 (.ref 242),he P "skip_sign" 529 (.ref 249),he P "want_sign" 537 (.ref 256),he P "want_word" 544 (.ref 263),he P "skip_rows" 551 (.ref 270),he P "fault" 560 (.ref 277),he P "__static_attributes__" 567 (.ref 278),he P "__dict__" 569 (.ref 281),he P "__weakref__" 571 (.ref 282),he P "__doc__" 572 .none] 4],
 [⟨.type "type",b8,(.cls ⟨"Reader",[.type "object"],[.ref 280,.type "object"],279, "Reader",true,[],[],false,b8,false⟩),#[b8,b8,b6 (hs "Reader" 465),b6 (hs "Reader" 473),b6 (.builtin "object.__new__"),b6 (.bool true)]⟩],
 [fo "getset_descriptor" [hs "__dict__" 568,.ref 280,.builtin "function.__dict__",.builtin "function.__dict__#set"]],
 [fo "getset_descriptor" [hs "__weakref__" 570,.ref 280,.builtin "ExceptionGroup.__weakref__",.none]],
 [fo "super" [.ref 280,.ref 280,.ref 280]],
 [fo "builtin_function_or_method" [.builtin "object.__init_subclass__",.ref 280]],
 fu (hd 29) 285 575 .none m5,
 fu (hd 30) 292 583 .none m5,
 fu (hd 32) 299 594 .none m6,
 fu (hd 33) 306 602 .none m6,
 fu (hd 34) 313 611 .none m6,
 fu (hd 35) 320 621 .none m6,
 fu (hd 36) 327 628 .none m6,
 fu (hd 37) 334 637 .none m6,
 fu (hd 38) 341 645 .none m6,
 fu (hd 39) 348 655 .none m6,
 fu (hd 40) 355 664 .none m6,
 fu (hd 41) 362 675 .none m6,
 fu (hd 43) 369 685 .none m7,
 fu (hd 44) 376 694 .none m7,
 [tu [.int 4 703]],
 fu (hd 45) 384 704 (.ref 383) m7,
 fu (hd 46) 391 716 .none m7,
 fu (hd 47) 398 724 .none m7,
 fu (hd 48) 405 732 .none m7,
 fu (hd 49) 412 741 .none m7,
 fu (hd 50) 419 750 .none m7,
 fu (hd 51) 426 757 .none m7,
 fu (hd 52) 433 765 .none m7,
 fu (hd 53) 440 777 .none m7,
 fu (hd 55) 447 791 .none m8,
 fu (hd 56) 454 798 .none m8,
 fu (hd 57) 461 805 .none m8,
 fu (hd 58) 468 812 .none m8,
 fu (hd 59) 475 821 .none m8,
 fu (hd 60) 482 831 .none m8,
 fu (hd 61) 489 839 .none m8,
 fu (hd 62) 496 847 .none m8,
 fu (hd 63) 501 853 .none m8,
 fu (hd 64) 508 863 .none m8,
 fu (hd 65) 513 869 .none m8,
 fu (hd 67) 520 879 .none m9,
 fu (hd 68) 527 888 .none m9,
 fu (hd 69) 534 896 .none m9,
 fu (hd 70) 541 905 .none m9,
 fu (hd 71) 548 915 .none m9,
 fu (hd 72) 555 928 .none m9,
 fu (hd 73) 562 940 .none m9,
 fu (hd 74) 569 951 .none m9,
 fu (hd 75) 576 960 .none m9,
 [tu []],
 [fo "builtin_function_or_method" [.builtin "type.__prepare__",.type "type"]],
 [di [he P "__module__" 980 (hs "siftwall.fields" 971),he P "__qualname__" 982 (hs "Tongue" 981),he P "__firstlineno__" 984 (.int 616 983),he P "__init__" 993 (.ref 596),he P "__static_attributes__" 996 (.ref 597)] 5],
 [tu []],
 [fi [.int 618 0,.int 4 0,.ref 595]],
 [fo "code" [hs "Tongue" 975,hs "Tongue" 976,hs "/claim/cut.py" 977,.int 616 0,.int 0 0,.int 0 0,.int 0 0,.int 0 0,.ref 586,.bool false,.int 181 0,.ref 587,.none,.none,.none,.none,.int 978 0,.int 616 0,hs "/claim/cut.py" 979]],
 [fr 588 585 (hs "siftwall.fields" 971)],
 fm (hm 77 0) "Tongue.__init__" 590 985 .none Yl,
 [tu [hs "fields" 994,hs "types" 995]],
 [di [he P "__module__" 980 (hs "siftwall.fields" 971),he P "__firstlineno__" 984 (.int 616 983),he P "__init__" 993 (.ref 596),he P "__static_attributes__" 996 (.ref 597),he P "__dict__" 998 (.ref 600),he P "__weakref__" 1000 (.ref 601),he P "__doc__" 1001 .none] 4],
 [⟨.type "type",b8,(.cls ⟨"Tongue",[.type "object"],[.ref 599,.type "object"],598, "Tongue",true,[],[],false,b8,false⟩),#[b8,b8,b6 (hs "Tongue" 973),b6 (hs "Tongue" 981),b6 (.builtin "object.__new__"),b6 (.bool true)]⟩],
 [fo "getset_descriptor" [hs "__dict__" 997,.ref 599,.builtin "function.__dict__",.builtin "function.__dict__#set"]],
 [fo "getset_descriptor" [hs "__weakref__" 999,.ref 599,.builtin "ExceptionGroup.__weakref__",.none]],
 [fo "super" [.ref 599,.ref 599,.ref 599]],
 [fo "builtin_function_or_method" [.builtin "object.__init_subclass__",.ref 599]],
 fu (hd 79) 604 1006 .none t5,
 fu (hd 80) 611 1012 .none t5,
 fu (hd 81) 618 1022 .none t5,
 fu (hd 82) 625 1030 .none t5,
 fu (hd 83) 632 1040 .none t5,
 fu (hd 84) 639 1046 .none t5,
 fu (hd 85) 646 1052 .none t5,
 fu (hd 86) 653 1058 .none t5,
 fu (hd 87) 660 1066 .none t5,
 fu (hd 88) 667 1073 .none t5,
 fu (hd 89) 674 1082 .none t5,
 fu (hd 90) 681 1093 .none t5,
 fu (hd 91) 688 1103 .none t5,
 fu (hd 92) 695 1109 .none t5,
 fu (hd 93) 702 1117 .none t5,
 fu (hd 94) 707 1123 .none t5,
 fu (hd 95) 714 1136 .none t5,
 fu (hd 96) 721 1148 .none t5,
 fu (hd 97) 728 1155 .none t5,
 fu (hd 98) 735 1163 .none t5,
 fu (hd 99) 742 1174 .none t5,
 fu (hd 100) 749 1183 .none t5,
 fu (hd 101) 756 1190 .none t5,
 fu (hd 102) 763 1199 .none t5,
 fu (hd 103) 770 1208 .none t5,
 fu (hd 104) 777 1215 .none t5,
 fu (hd 105) 784 1223 .none t5,
 fu (hd 106) 791 1230 .none t5,
 fu (hd 107) 796 1236 .none t5,
 fu (hd 108) 803 1245 .none t5,
 fu (hd 109) 810 1254 .none t5,
 fu (hd 110) 817 1264 .none t5,
 fu (hd 111) 824 1279 .none t5,
 fu (hd 112) 831 1289 .none t5,
 fu (hd 113) 838 1298 .none t5,
 fu (hd 114) 845 1305 .none t5,
 fu (hd 115) 852 1314 .none t5,
 fu (hd 116) 859 1327 .none t5,
 fu (hd 117) 866 1337 .none t5,
 fu (hd 118) 871 1343 .none t5,
 fu (hd 119) 878 1352 .none t5,
 fu (hd 120) 885 1364 .none t5,
 fu (hd 121) 892 1371 .none t5,
 fu (hd 122) 899 1380 .none t5,
 fu (hd 123) 906 1391 .none t5,
 fu (hd 124) 913 1407 .none t5,
 fu (hd 125) 920 1417 .none t5,
 fu (hd 126) 925 1423 .none t5,
 fu (hd 127) 930 1429 .none t5,
 fu (hd 128) 937 1435 .none t5,
 fu (hd 129) 944 1446 .none t5,
 fu (hd 130) 951 1455 .none t5,
 fu (hd 131) 958 1477 .none t5,
 fu (hd 132) 963 1483 .none t5]
def Yq (P:I1):BT:=yH 11 (boot_o_0 P :: boot_o_1 P :: ⟨.none,b8,.dict #[he P "type.__subclasses__.Exception.0" 226 (.int 38 0),he P "type.__subclasses__.Exception.n" 227 (.int 1 0)] 2,#[]⟩ :: (di ((wR P m6).take 36) 36) :: boot_o_4 P :: boot_o_5 P :: boot_o_6 P :: boot_o_7 P :: boot_o_8 P :: boot_o_9 P :: boot_o_10 P :: o11 :: (fi (IN.take 81)) :: o13 :: o14 :: (wx P).take 298)
def UM (w:D8) (os:L9):SharedT:=⟨Yq w.params,313,{},#[],{},611,os⟩
def Vp:Pos:=⟨291,0,292,68⟩
def WZ (P:I1):BT:=yH 11 (boot_o_0 P :: boot_o_1 P :: ⟨.none,b8,.dict #[he P "type.__subclasses__.Exception.0" 226 (.int 38 0),he P "type.__subclasses__.Exception.n" 227 (.int 1 0)] 2,#[]⟩ :: (di ((wR P m9).take 66) 66) :: boot_o_4 P :: boot_o_5 P :: boot_o_6 P :: boot_o_7 P :: boot_o_8 P :: boot_o_9 P :: boot_o_10 P :: o11 :: (fi (IN.take 171)) :: o13 :: o14 :: (wx P).take 505)
def RH (w:D8) (os:L9):SharedT:=⟨WZ w.params,520,{},#[],{},879,os⟩
def SM:Pos:=⟨515,0,515,8⟩
def Rp (P:I1):BT:=yH 11 (boot_o_0 P :: boot_o_1 P :: ⟨.none,b8,.dict #[he P "type.__subclasses__.Exception.0" 226 (.int 38 0),he P "type.__subclasses__.Exception.n" 227 (.int 1 0)] 2,#[]⟩ :: (di ((wR P t5).take 97) 97) :: boot_o_4 P :: boot_o_5 P :: boot_o_6 P :: boot_o_7 P :: boot_o_8 P :: boot_o_9 P :: boot_o_10 P :: o11 :: (fi (IN.take 264)) :: o13 :: o14 :: (wx P).take 734)
def Ku (w:D8) (os:L9):SharedT:=⟨Rp w.params,749,{},#[],{},1183,os⟩
def JV:Pos:=⟨707,0,708,45⟩
def CF (P:I1):BT:=yH 11 (boot_o_0 P :: boot_o_1 P :: ⟨.none,b8,.dict #[he P "type.__subclasses__.Exception.0" 226 (.int 38 0),he P "type.__subclasses__.Exception.n" 227 (.int 1 0)] 2,#[]⟩ :: (di ((wR P t5).take 130) 130) :: boot_o_4 P :: boot_o_5 P :: boot_o_6 P :: boot_o_7 P :: boot_o_8 P :: boot_o_9 P :: boot_o_10 P :: o11 :: (fi (IN.take 363)) :: o13 :: o14 :: (wx P))
def bC (w:D8) (os:L9):SharedT:=⟨CF w.params,970,{},#[],{},1492,os⟩
def JX:Pos:=⟨1026,0,1031,45⟩
theorem NH (w:D8) (os:L9):topGo bI pw w 11 (b6 (.ref 6)) 12 ⟨boot_heap w.params,#[],boot_drawn,boot_toks,os⟩ (topStub pw)=b6 ((EU w os).abs,⟨denote bI hC,hC,hP,[topFrame hP]⟩):=by
 rw [Fast.te15667345088766844465,Fast.te14364793385576792824,Fast.te11892475500146522536]
 kernel_rfl
theorem Pe (w:D8) (os:L9):segRun bI pw w 11 (b6 (.ref 6)) 1 1 (EU w os).abs (blockOf hB sv hC hP [topFrame hP])=b6 (.next,(EU w os).abs,hC,hP):=by kernel_rfl
abbrev Si:List PySem.Stmt:=hB.take 34
abbrev SW:List PySem.Stmt:=hB.drop 34
abbrev UQ:List PySem.Stmt:=SW.take 33
abbrev RJ:List PySem.Stmt:=SW.drop 33
abbrev Km:List PySem.Stmt:=RJ.take 33
abbrev Ka:List PySem.Stmt:=RJ.drop 33
theorem RN:hB=Si++(UQ++(Km++(Ka++ []))):=by rw [P0,jL,jL,jL]
theorem Tk (w:D8) (os:L9):segRunT bI pw w 11 (b6 (.ref 6)) 1 2010 (EU w os) (piecesOf Si sv hC hP [topFrame hP])=b6 (.next,UM w os,hC,Vp):=by
 rw [Fast.te10110043849684766642,Fast.te14364793385576792824]
 kernel_rfl
theorem Rt (w:D8) (os:L9):segRunT bI pw w 11 (b6 (.ref 6)) 1 950 (UM w os) (piecesOf UQ sv hC Vp [topFrame hP])=b6 (.next,RH w os,hC,SM):=by
 rw [Fast.te10110043849684766642,Fast.te14364793385576792824]
 kernel_rfl
theorem OE (w:D8) (os:L9):segRunT bI pw w 11 (b6 (.ref 6)) 1 1175 (RH w os) (piecesOf Km sv hC SM [topFrame hP])=b6 (.next,Ku w os,hC,JV):=by
 rw [Fast.te10110043849684766642,Fast.te14364793385576792824]
 kernel_rfl
theorem MO (w:D8) (os:L9):segRunT bI pw w 11 (b6 (.ref 6)) 1 1030 (Ku w os) (piecesOf Ka sv hC JV [topFrame hP])=b6 (.next,bC w os,hC,JX):=by
 rw [Fast.te10110043849684766642,Fast.te14364793385576792824]
 kernel_rfl
theorem Iz (w:D8) (os:L9):topRun bI pw w 11 (b6 (.ref 6)) 2 (bC w os).abs ⟨doneF .next,hC,JX,[topFrame hP]⟩=b6 (bC w os).abs:=by
 rw [Fast.te14364793385576792824,Fast.te14082659384304107361]
 kernel_rfl
theorem Sj (w:D8) (os:L9):(staticsOk (importedModules pw.main.body) (boot_heap w.params) (bC w os).abs.heap&&namesBound pw (bC w os).abs.heap&&gensDone (bC w os).abs&&laidKept (boot_heap w.params) (bC w os).abs.heap)=true:=by kernel_rfl
def hQ:Program:=view pw [132]
def hL:List Str:=(pw.main.body.take 132).flatMap bindsAtTop
theorem Tm (w:D8) (os:L9):openSeen hQ hL (importedModules pw.main.body) (λz=>true) true (bC w os).abs=openGood hQ hL:=by
 rw [Fast.te4187177175401517315]
 kernel_rfl
def Sz:List Nat:= [3,0,22,23,24,25,26,27,28,36,37,38,39,40,41,42,43,44,45,46,47,48,49,50,51,52,53,54,55,56,57,58,59,60,61,69,70,71,72,73,200,201,202,203,204,205,206,214,278,279,280,281,282,283,284,383,583,584,585,586,587,588,589,597,598,599,600,601,602,603,21,20,35,34,68,67,80,79,87,86,94,93,101,100,108,107,115,114,122,121,129,128,136,135,143,142,150,149,157,156,164,163,171,170,178,177,185,184,192,191,199,198,213,212,221,220,228,227,235,234,242,241,249,248,256,255,263,262,270,269,277,276,291,290,298,297,305,304,312,311,319,318,326,325,333,332,340,339,347,346,354,353,361,360,368,367,375,374,382,381,390,389,397,396,404,403,411,410,418,417,425,424,432,431,439,438,446,445,453,452,460,459,467,466,474,473,481,480,488,487,495,494,500,499,507,506,512,511,519,518,526,525,533,532,540,539,547,546,554,553,561,560,568,567,575,574,582,581,596,595,610,609,617,616,624,623,631,630,638,637,645,644,652,651,659,658,666,665,673,672,680,679,687,686,694,693,701,700,706,705,713,712,720,719,727,726,734,733,741,740,748,747,755,754,762,761,769,768,776,775,783,782,790,789,795,794,802,801,809,808,816,815,823,822,830,829,837,836,844,843,851,850,858,857,865,864,870,869,877,876,884,883,891,890,898,897,905,904,912,911,919,918,924,923,929,928,936,935,943,942,950,949,957,956,962,961,969,968,1,2]
def US (o:Option f7):Option Obj:=match o with
 | some ⟨_,_,.freed,_⟩=>b8
 | o=>o
def DH (t:BT) (n a:Nat):Option Obj:=bif Gg a n then US (t.get a) else b8
def SI (t:BT) (n:Nat) (l:List Nat):Frag:=l.filterMap λa=>(DH t n a).map λo=>(a,o)
theorem Hf {t:BT} {n a:Nat} {o:f7} {l:Life} (h:DH t n a=b6 o):(absHeap t n l).get? a=b6 o:=by
 unfold DH at h;unfold j5.get?;cases e:Gg a n with
 | false=>rw [e] at h;cases h
 | true=>
  rw [e] at h;rw [absHeap_at,iP (show a < n from Ag e)];cases e:t.get a with
  | none=>rw [e] at h;cases h
  | some x=>rw [e] at h;exact h
theorem HL {g:Nat→Option f7} {a:Nat} {o:f7} (l:List Nat):jO a (l.filterMap λa=>(g a).map λo=>(a,o))=b6 o→g a=b6 o:=by
 induction l with
 | nil=>intro e;cases e
 | cons b l ih=>
  intro e;rw [QO] at e;cases c:g b with
  | none=>rw [c] at e;exact ih e
  | some ob=>
   rw [c] at e;dsimp only [xx] at e;rw [K8] at e;by_cases h:a=b
   ·subst h;rw [beq_self_eq_true] at e;exact c.trans e
   ·rw [beq_false_of_ne h] at e;exact ih e
theorem GM {t:BT} {n:Nat} {a:Life} (l:List Nat):(SI t n l).In (absHeap t n a):=λz z e=>Hf (HL l e)
def hK (P:I1):Frag:=SI (CF P) 970 Sz
def IF (K:Frag) (l:List (Nat×CFn)):Bool:=l.all λq=>(He K q.1 q.2 (λz z=>True) λz z=>f8 trivial).isSome
abbrev Uq (G:TC) (b:List n6):Prop:=XB G (.bi .exc) ki kf (.loc 1) (.neg (.cst (.int 1))) b
abbrev Tp (G:TC) (b:List n6):Prop:=XB G (.cls 38) qv oU (.loc 2) (.loc 3) b
theorem Jo (P:I1):Ap (hK P)=true:=by kernel_rfl
theorem x35 (P:I1):(He (hK P) 35 zP Uq λG b=>Rz G _ _ _ _ _ b).isSome=true:=by kernel_rfl
theorem x68 (P:I1):(He (hK P) 68 AP Tp λG b=>Rz G _ _ _ _ _ b).isSome=true:=by kernel_rfl
theorem x969 (P:I1):(He (hK P) 969 nG LawB Nf).isSome=true:=by kernel_rfl
theorem NN (P:I1):gZ (nsIn (hK P) N9 (dM "law")) 969=true:=by kernel_rfl
theorem ME (P:I1):((rW 4).all λp=>((hK P).lookup p).isSome)=true:=by kernel_rfl
theorem LF (P:I1):((hK P).lookup 969).isSome=true:=by kernel_rfl
theorem WR (P:I1):IF (hK P) (b7.fns.take 45)=true:=by kernel_rfl
theorem WD (P:I1):IF (hK P) ((b7.fns.drop 45).take 45)=true:=by kernel_rfl
theorem Xz (P:I1):IF (hK P) ((b7.fns.drop 45).drop 45)=true:=by kernel_rfl
structure Seen (K:Frag):Prop where
 heap:HeapK K
 fns:∀p,p∈b7.fns→nr K p.1 p.2 λzz zz=>True
 x35:nr K 35 zP Uq
 x68:nr K 68 AP Tp
 x969:nr K 969 nG LawB
 law:nsIn K N9 (dM "law")=b6 (b6 (.ref 969))
 low:∀p,p≤3→∃o,K.lookup p=b6 o
 big:∃o,K.lookup 969=b6 o
theorem Hg (P:I1):Seen (hK P) where
 heap:=SZ (Jo P)
 fns:=λp hp=>by
  have g:∀l,IF (hK P) l=true→p∈l→nr (hK P) p.1 p.2 λz z=>True:=λl h m=>O.out (aO.mp h p m);rw [← jL 45 b7.fns,← jL 45 (b7.fns.drop 45)] at hp;rcases dP.mp hp with h | h
  ·exact g _ (WR P) h
  ·rcases dP.mp h with h | h
   ·exact g _ (WD P) h
   ·exact g _ (Xz P) h
 x35:=O.out (x35 P)
 x68:=O.out (x68 P)
 x969:=O.out (x969 P)
 law:=dz (NN P)
 low:=λp hp=>xd.mp (aO.mp (ME P) p (List.mem_range.mpr (Nat.lt_succ_of_le hp)))
 big:=xd.mp (LF P)
def EW (w:D8):Heap:=absHeap (CF w.params) 970 {}
def Es (w:D8) (h:j5):Prop:=∃K:Frag,K.In h∧Seen K
theorem WQ (w:D8) (s:d0) (e:s.heap=EW w):Es w s.heap:=⟨hK w.params,by rw [e];exact GM Sz,Hg w.params⟩
theorem WS (w:D8) (h h':j5) (y:Es w h) (k:∀b o,h.get? b=b6 o→h'.get? b=b6 o):Es w h':=y.elim λK y=>⟨K,y.1.keeps k,y.2⟩
theorem LJ (P:I1):((boot_heap P).isNs N9&&(#[]:Array GenState).size==0,(boot_heap P).objs.size,(boot_heap P).nsMap N9 "__annotations__")=(true,11,b6 (.ref 6)):=by kernel_rfl
theorem Pv:opening pw=plainProg pw.main.scope.names:=by kernel_rfl
theorem Qn (s:d0):fenceModules? pw s=b6 s:=by kernel_rfl
theorem Qm {q:String→Option Builtin} {p:mj} {w:D8} {N m:Nat} {a:Option c5} {H:j5} {g:Array GenState} {d:Drawn} {k:Nat} {os:L9} {s:d0} (z:(H.isNs N9&&g.size==0,H.objs.size,H.nsMap N9 "__annotations__")=(true,m,a))
  (r:topRun q p w m a N ⟨H,g,d,k,os⟩ (topStub p)=b6 s) (l:(staticsOk (importedModules p.main.body) H s.heap&&namesBound p s.heap&&gensDone s&&laidKept H s.heap)=true):topFrom q p w N ⟨H,g,d,k,os⟩=b6 s:=by
 simp only [Prod.mk.injEq] at z;unfold topFrom;dsimp only;rw [z.1,z.2.1,z.2.2,r,FL,l]
theorem Jy (w:D8) (os:L9):topRun bI pw w 11 (b6 (.ref 6)) (2010+(950+(1175+(1030+2)))) (EU w os).abs (restOf hB sv hC hP [topFrame hP])=b6 (bC w os).abs:=by
 rw [RN];exact piece_app (segRun_of (Tk w os)) (piece_app (segRun_of (Rt w os)) (piece_app (segRun_of (OE w os)) (piece_app (segRun_of (MO w os)) (piece_nil (Iz w os)))))
theorem IX:LeftO pw hQ hL (λz=>true) (λs=>s.heap) EW 6000:=λw=>by
 obtain ⟨⟨h,g,d,k,os⟩,e,e'⟩:=ch.mp (boot_open (N:=6000) Pv rfl Qn w);simp only [Prod.mk.injEq] at e';have m:=topRun_mono (6000-(12+(1+(2010+(950+(1175+(1030+2))))))) _ _ _ _ (go_top (NH w os) (piece_block (Pe w os) (Jy w os)));have a:topFrom bI pw w 6000 ⟨h,g,d,k,os⟩=b6 (bC w os).abs:=by
  rw [e'.1,e'.2.1,e'.2.2.1,e'.2.2.2];exact Qm (LJ w.params) m (Sj w os)
 unfold openEnds;rw [e,FL,a,xx,Tm w os];rfl
abbrev DV:OpenRow:=PySem.Challenge.rw_pq1113_01.row
theorem rf:(defOf hQ DV.name).isSome=true:=by kernel_rfl
def hD:DefRec×List (c9×f6):=(defOf hQ DV.name).get rf
theorem Bh:defOf hQ DV.name=b6 (hD.1,hD.2):=(Option.some_get rf).symm
abbrev oN:OpenRow:=PySem.Challenge.rw_pq1113_01.row
theorem GD:(["vars", "dir", "locals"]:List c9).filter (readsOut oN.prog oN.prog.main.body)= []:=by kernel_rfl
theorem Jf:noRoadLSs {strict:= !(importedModules oN.prog.main.body).all cThrough.contains,foot:=b8,bare:=(["vars", "dir", "locals"]:List c9).filter (readsOut oN.prog oN.prog.main.body)} oN.prog.main.body=true:=by
 rw [GD]
 kernel_rfl
theorem Cw:looksOpen oN.prog=true:=by
 unfold looksOpen;rw [Jf]
 kernel_rfl
theorem Qz:oN.wellSaid=true:=by
 unfold OpenRow.wellSaid OpenRow.partSaid;rw [Cw]
 kernel_rfl
theorem Tr:(noRoadLSs {strict:=true,foot:=b6 PySem.Challenge.rw_pq1113_01.bound',writes:=PySem.Challenge.rw_pq1113_01.writes,may:=PySem.Challenge.rw_pq1113_01.may} PySem.Challenge.rw_pq1113_01.footing)=true:=by kernel_rfl
theorem QC:(PySem.Challenge.rw_pq1113_01.bound'.all (λn=> !builtinNamed n||PySem.Challenge.rw_pq1113_01.about== [n]|| !PySem.Challenge.rw_pq1113_01.reads n))=true:=by kernel_rfl
theorem Pw:(namesMeet PySem.Challenge.rw_pq1113_01.prog PySem.Challenge.rw_pq1113_01.above (λz n=> !PySem.Challenge.rw_pq1113_01.own.contains n))=true:=by kernel_rfl
theorem IQ:PySem.Challenge.rw_pq1113_01.wellSaid=true:=by
 unfold OpenLaw.wellSaid;rw [Qz,Tr,QC,Pw]
 kernel_rfl
theorem Ha (c:WalkO hQ hL (λz z=>True) Es DV.toRowW hD.1 hD.2 λf vs=>PySem.call f vs):PySem.Challenge.rw_pq1113_01.Holds:=
 holds_law IQ λa=>holds_open (r:=DV) (q:=hQ) (loose:=hL) (Xt:=λz=>true) (XP:=λz z=>True) (Yf:=λs=>s.heap) (Ya:=EW) (YP:=Es) (N:=6000) (d:=hD.1) (kwd:=hD.2)
  IX WQ WS (λz z=>trivial) (λz z z z z=>trivial) Bh (by kernel_rfl) (by kernel_rfl) (λz z=>recFacts_nil rfl) (by kernel_rfl) a (by kernel_rfl) ⟨rfl,rfl,rfl,rfl,rfl,by decide +kernel⟩ ⟨[.list []],by decide +kernel,by decide +kernel⟩ c
set_option tactic.hygienic true in
theorem claim_of (e:∀ns:List Int,ns.length≤63→∃st',execs b7.tabs 300 (c0 b7 300 14) b8 cO (b6 (.ref 0) :: dW 7 b8) [.list (ns.map .int)]= .ret (.bool true) st'):PySem.Challenge.rw_pq1113_01.Holds:=by
 apply Ha;intro w s₀ s₁ mg mb G Y E o pm cd N dV kV Q u r hD b hg args F as i f A D x;obtain ⟨K,j,s⟩:=Y;have T:=topRead_of G.T;have v:E=969:=by
  have c:mg (dM "law")=b6 (.ref E):=by
   rw [defOf_name Bh] at b;exact b
  rw [mg_of j T.g s.law] at c;injection c with c;injection c with c;exact c.symm
 subst v;clear hD r u Q b
 wrow_args i f A D x
 rename_i ns hs a k z y M L l vs J hL U X S P R m q;have d:ns.length≤63:=by omega
 have B:∀W,VRs W (ns.map V.int) vs.toArray.toList:=λW=>by
  rw [List.toList_toArray];clear a k z y hL U X S R m q hs d
  induction P with
  | nil=>rfl
  | cons n t _ ih=>exact RCons.mk _ _ (RInt.mk t) ih
 let C:Cx:=XR w s₁ K j T (Exists.imp (λo h=>j _ _ h) s.big) (λp hp=>Exists.imp (λo h=>j _ _ h) (s.low p hp)) s.heap;obtain ⟨o9,O,b9,I,H⟩:=s.x969 C rfl;refine dN (zy (C:=C) (CX s.heap s.fns s.x35 s.x68) I H d hL B (e ns d) λs' keep same=>?_);obtain ⟨h',t',rfl⟩:=same;refine GoodW.toG ⟨.inl ⟨_,.bool true,[],rfl,λcls=>?_,.bool true,?_,λZ=>⟨xu,λZ h=>(nomatch h)⟩⟩,keep,rfl,hg⟩
 ·rfl
 ·wrow_post
end
end
local macro_rules
  | `(tactic| wp_walk using $ts,*) => do
    let l := ("HN XY XU Yv Dn HP Dz yl Bi EF yo DS CR xZ AB TU TP Ss Uj UC Ua TN Rq Tj Xw Yt Sk Xn Ro Xb Xu OW Nz Mk Ym VB Od VM WU UX Yu Vf Rv Wy WV TZ WE Vl Nh NP QU VA Yi IE Wu Xc VC Yk Ql OZ SK So PE Gv Mx Qf Ic HF Uz Te OF LY NT GT Xj Ni Go Gp Tu TS VT Hz HY Na Pj Ec NZ KB UN XN MF Hw AM Em Ez JC GF GB Jt Oy Pt IL Uh Vb VD Ry WA Mn Pf Wm UA PN Sh VK Uw Xg Rr Vr Wx RG Rh UB Wi TR Re Rf VU Ul TE TV RI Tz Tv UE RB Uk Tx WN Xp Vj WM IW QV Ml Sc Sv XH Wp Xm XQ WH Yc XX Wf Xs VW WW Yy Yb WP YC Ww Wc WX VG WO YB Yd XW WJ Wa WK Xa XV WT WF Wr Xl Wo Wn IK Mo Vk WY Ui Xi Sr OU Uu Yh RE WL TF NQ Pi HH GW Om Ji CP Tg ec DZ VE Yz XM We Fn Ct Fj Tb MW QX Og yf OB zF NL yt Md f0 RT nf OH Op OP UU ze lw Oh dx Hv GH HQ LQ TM Sn UV Tw UG By Cp Ch Cs Cc RX SY AO List.getElem?_cons_zero List.getElem?_cons_succ Xd Ys XT WG Hx Aw Sa zi yI zr Mv Mg Bt Ep td su uD sY GR SA Wb Ex pM Ru Pm cP n9 T9 U2 Gq Ny Hl yY fY MT Bb".splitOn " ").toArray.map (fun s => (Lean.mkIdent s.toName : Lean.Term)) ++ ts.getElems
    `(tactic| simp only [$[$l:term],*])
section
variable {γ:Type}
def p9 (g:V→St→γ) (K:Res→γ):Res→γ
 | .ok v st=>g v st
 | .bad e st=>K (.bad e st)
 | .mk _ _=>K .stuck
 | .stuck=>K .stuck
def w8 (g:List V→St→γ) (K:Res→γ):ResL→γ
 | .ok v st=>g v st
 | .bad e st=>K (.bad e st)
 | .stuck=>K .stuck
def ci (g:V→St→γ) (K:ResL→γ):Res→γ
 | .ok v st=>g v st
 | .bad e st=>K (.bad e st)
 | .mk _ _=>K .stuck
 | .stuck=>K .stuck
def i8 (g:V→St→γ) (ρ:Loc) (K:Out→γ):Res→γ
 | .ok v st=>g v st
 | .bad e st=>K (.bad e ρ st)
 | .mk _ _=>K .stuck
 | .stuck=>K .stuck
def lR (v:V) (K:ResL→γ) (r:ResL):γ:=K (r.cons v)
def yd (K:Res→γ) (v:V) (st:St):γ:=K (NB v st)
def Nj (K:Res→γ) (v:V) (st:St):γ:=K (LL v st)
def vv (op:BOp) (x:V) (K:Res→γ) (y:V) (st:St):γ:=K (u6 op x y st)
def gS (op:COp) (x:V) (K:Res→γ) (y:V) (st:St):γ:=K (Y0 st (l7 st op x y))
def xK (Φ:d7) (f:V) (K:Res→γ) (vs:List V) (st:St):γ:=K (apply Φ f vs st)
def JA (m:BM) (o:V) (K:Res→γ) (vs:List V) (st:St):γ:=K (o8 m o vs st)
def ew (Φ:d7) (a:Nat) (o:V) (K:Res→γ) (vs:List V) (st:St):γ:=K (Φ a (o :: vs) st)
def An (T:Tabs) (name:List Nat) (K:Res→γ) (o:V) (st:St):γ:=K (getAttr T name o st)
def wQ (o:V) (K:Res→γ) (i:V) (st:St):γ:=K (s8 o i st)
def Jj (o l h:V) (K:Res→γ) (k:V) (st:St):γ:=K (I9 o l h k st)
def AF (K:Res→γ) (vs:List V) (st:St):γ:=K (.ok (.ref st.length) (st++ [.list vs]))
def Qd (K:Res→γ) (vs:List V) (st:St):γ:=K (.ok (.tup vs) st)
def AJ (K:Res→γ) (vs:List V) (st:St):γ:=K (E6 vs st)
def Py (K:Res→γ) (v:V) (st:St):γ:=K (uF v st)
def S6 (T:Tabs) (N:Nat) (Φ:d7) (g:CE) (ρ:Loc) (v:V) (st:St):Res:=c8 (P7 v st) .stuck λsrc=>
   cH src.at (λx st'=>(i4 T N Φ g (ρ++ [b6 x]) st').bind λy st'=>o8 .append (.ref st.length) [y] st') st.length N 0 (st++ [.list []])
def V2 (T:Tabs) (N:Nat) (Φ:d7) (g cond:CE) (ρ:Loc) (v:V) (st:St):Res:=c8 (P7 v st) .stuck λsrc=>
   cH src.at (λx st'=>(i4 T N Φ cond (ρ++ [b6 x]) st').bind λc st'=>aa c ((i4 T N Φ g (ρ++ [b6 x]) st').bind λy st'=>o8 .append (.ref st.length) [y] st') (.ok .none st') .stuck) st.length N 0 (st++ [.list []])
def DW (T:Tabs) (N:Nat) (Φ:d7) (g:CE) (ρ:Loc) (K:Res→γ) (v:V) (st:St):γ:=K (S6 T N Φ g ρ v st)
def ul (T:Tabs) (N:Nat) (Φ:d7) (g cond:CE) (ρ:Loc) (K:Res→γ) (v:V) (st:St):γ:=K (V2 T N Φ g cond ρ v st)
def BC (K:Res→γ) (r:ResL):γ:=K (kF r)
mutual
noncomputable def cE (T:Tabs) (N:Nat) (Φ:d7):CE→Loc→St→(Res→γ)→γ
 | .cst v,_,st,K=>K (.ok v st)
 | .loc i,ρ,st,K=>K (C6 ρ i st)
 | .bop S es,ρ,st,K=>cB T N Φ S es ρ st K
 | .not a,ρ,st,K=>cE T N Φ a ρ st (p9 (yd K) K)
 | .neg a,ρ,st,K=>cE T N Φ a ρ st (p9 (Nj K) K)
 | .bin op a b,ρ,st,K=>cE T N Φ a ρ st (p9 (λx st=>cE T N Φ b ρ st (p9 (vv op x K) K)) K)
 | .ite t a b,ρ,st,K=>cE T N Φ t ρ st (p9 (λv st=>aa v (cE T N Φ a ρ st K) (cE T N Φ b ρ st K) (K .stuck)) K)
 | .cmp1 op a b,ρ,st,K=>cE T N Φ a ρ st (p9 (λx st=>cE T N Φ b ρ st (p9 (gS op x K) K)) K)
 | .cmp2 p r a b c,ρ,st,K=>cE T N Φ a ρ st (p9 (λx st=>cE T N Φ b ρ st (p9 (λy st=>c8 (l7 st p x y) (K .stuck) λq=>T4 q (cE T N Φ c ρ st (p9 (gS r y K) K)) (K (.ok (.bool false) st))) K)) K)
 | .call f args,ρ,st,K=>if N=0 then K .stuck else cE T N Φ f ρ st (p9 (λfv st=>cEs T N Φ args ρ st (w8 (xK Φ fv K) K)) K)
 | .bm m o args,ρ,st,K=>if N=0 then K .stuck else cE T N Φ o ρ st (p9 (λd st=>T4 (Q5 m d st) (cEs T N Φ args ρ st (w8 (JA m d K) K)) (K .stuck)) K)
 | .im name o args,ρ,st,K=>if N=0 then K .stuck else cE T N Φ o ρ st (p9 (λd st=>c8 (Y4 T name d st) (K .stuck) λa=>cEs T N Φ args ρ st (w8 (ew Φ a d K) K)) K)
 | .attr name o,ρ,st,K=>cE T N Φ o ρ st (p9 (An T name K) K)
 | .sub o i,ρ,st,K=>cE T N Φ o ρ st (p9 (λd st=>cE T N Φ i ρ st (p9 (wQ d K) K)) K)
 | .slice o lo hi step,ρ,st,K=>cE T N Φ o ρ st (p9 (λd st=>cE T N Φ lo ρ st (p9 (λl st=>cE T N Φ hi ρ st (p9 (λh st=>cE T N Φ step ρ st (p9 (Jj d l h K) K)) K)) K)) K)
 | .list es,ρ,st,K=>cEs T N Φ es ρ st (w8 (AF K) K)
 | .tup es,ρ,st,K=>cEs T N Φ es ρ st (w8 (Qd K) K)
 | .dict n,ρ,st,K=>cEs T N Φ n ρ st (w8 (AJ K) K)
 | .comp g j,ρ,st,K=>cE T N Φ j ρ st (p9 (DW T N Φ g ρ K) K)
 | .compIf g j cond,ρ,st,K=>cE T N Φ j ρ st (p9 (ul T N Φ g cond ρ K) K)
 | .fmt e,ρ,st,K=>cE T N Φ e ρ st (p9 (Py K) K)
 | .fstr ps,ρ,st,K=>cEs T N Φ ps ρ st (BC K)
noncomputable def cEs (T:Tabs) (N:Nat) (Φ:d7):CEs→Loc→St→(ResL→γ)→γ
 | .nil,_,st,K=>K (.ok [] st)
 | .cons e r,ρ,st,K=>cE T N Φ e ρ st (ci (λv st=>cEs T N Φ r ρ st (lR v K)) K)
noncomputable def cB (T:Tabs) (N:Nat) (Φ:d7) (S:Bool):CEs→Loc→St→(Res→γ)→γ
 | .nil,_,_,K=>K .stuck
 | .cons e r,ρ,st,K=>match r with
  | .nil=>cE T N Φ e ρ st K
  | .cons _ _=>cE T N Φ e ρ st (p9 (λv st=>aa v (if S then cB T N Φ S r ρ st K else K (.ok v st)) (if S then K (.ok v st) else cB T N Φ S r ρ st K) (K .stuck)) K)
end
theorem r5 {g:V→St→γ} {K:Res→γ} {f:V→St→Res} {r:Res} (h:∀v st,g v st=K (f v st)):p9 g K r=K (r.bind f):=by
 cases r <;> first | exact h _ _ | rfl
theorem W9 {g:List V→St→γ} {K:Res→γ} {f:List V→St→Res} {r:ResL} (h:∀v st,g v st=K (f v st)):w8 g K r=K (r.bind f):=by
 cases r <;> first | exact h _ _ | rfl
theorem BU {g:V→St→γ} {K:ResL→γ} {f:V→St→ResL} {r:Res} (h:∀v st,g v st=K (f v st)):ci g K r=K (r.bindL f):=by
 cases r <;> first | exact h _ _ | rfl
theorem p7 {g:V→St→γ} {K:Out→γ} {ρ:Loc} {f:V→St→Out} {r:Res} (h:∀v st,g v st=K (f v st)):i8 g ρ K r=K (r.bindO ρ f):=by
 cases r <;> first | exact h _ _ | rfl
theorem sB {c:Type} {q:Bool} {a b:γ} {K:c→γ} {a' b':c} (h:a=K a') (d:b=K b'):T4 q a b=K (T4 q a' b'):=by
 cases q <;> assumption
theorem sU {e:Type} {v:V} {a b c:γ} {K:e→γ} {a' b' d:e} (h:a=K a') (f:b=K b') (g:c=K d):aa v a b c=K (v.onB d λq=>T4 q a' b'):=by
 cases v <;> first | exact g | exact sB h f
theorem bf {c α:Type} {o:Option α} {s:γ} {f:α→γ} {K:c→γ} {d:c} {b:α→c} (hs:s=K d) (h:∀a,f a=K (b a)):c8 o s f=K (c8 o d b):=by
 cases o <;> first | exact hs | exact h _
theorem iT {a:Type} {p:Prop} [Decidable p] {K:a→γ} {z b':a} {b:γ} (h:¬p→b=K b'):(if p then K z else b)=K (if p then z else b'):=by
 by_cases c:p
 ·rw [iP c,iP c]
 ·rw [iN c,iN c];exact h c
theorem VJ {a:Type} {p:Prop} [Decidable p] {K:a→γ} {z b':a} {b:γ} (h:p→b=K b'):(if p then b else K z)=K (if p then b' else z):=by
 by_cases c:p
 ·rw [iP c,iP c];exact h c
 ·rw [iN c,iN c]
variable {T:Tabs} {N:Nat} {Φ:d7}
mutual
theorem l9:∀(e:CE) {ρ:Loc} {st:St} {K:Res→γ},cE T N Φ e ρ st K=K (i4 T N Φ e ρ st)
 | .cst _,_,_,_=>rfl
 | .loc _,_,_,_=>rfl
 | .bop S es,_,_,_=>cB_eq es
 | .not a,_,_,_=>(l9 a).trans (r5 λz z=>rfl)
 | .neg a,_,_,_=>(l9 a).trans (r5 λz z=>rfl)
 | .bin op a b,_,_,_=>(l9 a).trans (r5 λz z=>(l9 b).trans (r5 λz z=>rfl))
 | .ite t a b,_,_,_=>(l9 t).trans (r5 λz z=>sU (l9 a) (l9 b) rfl)
 | .cmp1 op a b,_,_,_=>(l9 a).trans (r5 λz z=>(l9 b).trans (r5 λz z=>rfl))
 | .cmp2 p r a b c,_,_,_=>(l9 a).trans (r5 λx z=>(l9 b).trans (r5 λy st=>bf rfl λz=>sB ((l9 c).trans (r5 λz z=>rfl)) rfl))
 | .call f args,_,_,_=>by
  refine iT λ_=>?_;exact (l9 f).trans (r5 λz z=>(cEs_eq args).trans (W9 λz z=>rfl))
 | .bm m o args,_,_,_=>iT λz=>(l9 o).trans (r5 λd st=>sB ((cEs_eq args).trans (W9 λz z=>rfl)) rfl)
 | .im name o args,_,_,_=>iT λz=>(l9 o).trans (r5 λd st=>bf rfl λz=>(cEs_eq args).trans (W9 λz z=>rfl))
 | .attr name o,_,_,_=>(l9 o).trans (r5 λz z=>rfl)
 | .sub o i,_,_,_=>(l9 o).trans (r5 λz z=>(l9 i).trans (r5 λz z=>rfl))
 | .slice o lo hi step,_,_,_=>(l9 o).trans (r5 λz z=>(l9 lo).trans (r5 λz z=>(l9 hi).trans (r5 λz z=>(l9 step).trans (r5 λz z=>rfl))))
 | .list es,_,_,_=>(cEs_eq es).trans (W9 λz z=>rfl)
 | .tup es,_,_,_=>(cEs_eq es).trans (W9 λz z=>rfl)
 | .dict es,_,_,_=>(cEs_eq es).trans (W9 λz z=>rfl)
 | .comp g j,_,_,_=>(l9 j).trans (r5 λz z=>rfl)
 | .compIf g j c,_,_,_=>(l9 j).trans (r5 λz z=>rfl)
 | .fmt e,_,_,_=>(l9 e).trans (r5 λz z=>rfl)
 | .fstr ps,_,_,_=>(cEs_eq ps).trans rfl
theorem cEs_eq:∀(es:CEs) {ρ:Loc} {st:St} {K:ResL→γ},cEs T N Φ es ρ st K=K (evalEs T N Φ es ρ st)
 | .nil,_,_,_=>rfl
 | .cons e r,_,_,_=>(l9 e).trans (BU λz z=>(cEs_eq r).trans rfl)
theorem cB_eq:∀(es:CEs) {S:Bool} {ρ:Loc} {st:St} {K:Res→γ},cB T N Φ S es ρ st K=K (evalB T N Φ S es ρ st)
 | .nil,_,_,_,_=>rfl
 | .cons e .nil,_,_,_,_=>l9 e
 | .cons e (.cons f r),S,ρ,_,K=>(l9 e).trans (r5 λv st=>by
   cases v <;> first | rfl | (rename_i b;cases b <;> cases S <;> first | exact cB_eq (.cons f r) | rfl))
end
def ny (K:Out→γ) (ρ:Loc) (o:Option St):γ:=c8 o (K .stuck) λst'=>K (.next ρ st')
def H4 (t:CT) (ρ:Loc) (v:V) (st:St):Out:=c8 (n7 t v ρ) .stuck λρ'=> .next ρ' st
def F6 (T:Tabs) (N:Nat) (Φ:d7) (slf:Option Nat) (t:CE) (body:CSs) (f:Nat) (ρ:Loc) (st:St):Out:=
 wJ (λρ st=>i4 T N Φ t ρ st) (λρ st=>execs T N Φ slf body ρ st) f ρ st
def ff (T:Tabs) (N:Nat) (Φ:d7) (slf:Option Nat) (t:CT) (body:CSs) (ρ:Loc) (v:V) (st:St):Out:=c8 (P7 v st) .stuck λsrc=>
   fX src.at (λx ρ st=>c8 (n7 t x ρ) .stuck λρ'=>execs T N Φ slf body ρ' st) N 0 ρ st
def kc (ρ:Loc) (K:Out→γ) (r:Res):γ:=K (GE ρ r)
def pE (ρ:Loc) (K:Out→γ) (r:Res):γ:=K (nA ρ r)
mutual
noncomputable def cS (T:Tabs) (N:Nat) (Φ:d7) (slf:Option Nat):CS→Loc→St→(Out→γ)→γ
 | .expr e,ρ,st,K=>cE T N Φ e ρ st (i8 (λz st=>K (.next ρ st)) ρ K)
 | .set t e,ρ,st,K=>if N=0∧t.isTup=true then K .stuck else cE T N Φ e ρ st (i8 (λv st=>K (H4 t ρ v st)) ρ K)
 | .setAttr name o e,ρ,st,K=>cE T N Φ e ρ st (i8 (λv st=>cE T N Φ o ρ st (i8 (λd st=>ny K ρ (Internal.setAttr T slf name d v st)) ρ K)) ρ K)
 | .setSub o i e,ρ,st,K=>cE T N Φ e ρ st (i8 (λv st=>cE T N Φ o ρ st (i8 (λd st=>cE T N Φ i ρ st (i8 (λs st=>ny K ρ (Internal.setSub d s v st)) ρ K)) ρ K)) ρ K)
 | .augName i op e,ρ,st,K=>c8 ρ[i]? (K .stuck) λo=>c8 o (K .stuck) λc=>cE T N Φ e ρ st (i8 (λv st=>i8 (λnew st=>K (.next (ρ.set i (b6 new)) st)) ρ K (L8 op c v st)) ρ K)
 | .augAttr name o op e,ρ,st,K=>cE T N Φ o ρ st (i8 (λd st=>i8 (λc st=>cE T N Φ e ρ st (i8 (λv st=>i8 (λnew st=>ny K ρ (Internal.setAttr T slf name d new st)) ρ K (L8 op c v st)) ρ K)) ρ K (Internal.getAttr T name d st)) ρ K)
 | .augSub o i op e,ρ,st,K=>cE T N Φ o ρ st (i8 (λd st=>cE T N Φ i ρ st (i8 (λs st=>i8 (λc st=>cE T N Φ e ρ st (i8 (λv st=>i8 (λnew st=>ny K ρ (Internal.setSub d s new st)) ρ K (L8 op c v st)) ρ K)) ρ K (s8 d s st)) ρ K)) ρ K)
 | .ite t a b,ρ,st,K=>cE T N Φ t ρ st (i8 (λv st=>aa v (cSs T N Φ slf a ρ st K) (cSs T N Φ slf b ρ st K) (K .stuck)) ρ K)
 | .whl t body,ρ,st,K=>K (F6 T N Φ slf t body N ρ st)
 | .for t j body,ρ,st,K=>cE T N Φ j ρ st (i8 (λv st=>K (ff T N Φ slf t body ρ v st)) ρ K)
 | .forEnum t j body,ρ,st,K=>K (exec T N Φ slf (.forEnum t j body) ρ st)
 | .ret e,ρ,st,K=>cE T N Φ e ρ st (kc ρ K)
 | .raise e,ρ,st,K=>if N=0 then K .stuck else cE T N Φ e ρ st (pE ρ K)
 | .brk,ρ,st,K=>K (.brk ρ st)
 | .try body i h,ρ,st,K=>K (exec T N Φ slf (.try body i h) ρ st)
noncomputable def cSs (T:Tabs) (N:Nat) (Φ:d7) (slf:Option Nat):CSs→Loc→St→(Out→γ)→γ
 | .nil,ρ,st,K=>K (.next ρ st)
 | .cons s r,ρ,st,K=>match r with
  | .nil=>cS T N Φ slf s ρ st K
  | .cons _ _=>cS T N Φ slf s ρ st λo=>match o with
   | .next ρ' st'=>cSs T N Φ slf r ρ' st' K
   | o=>K o
end
variable {slf:Option Nat}
theorem gM {K:Out→γ} {ρ:Loc}:∀{o:Option St},ny K ρ o=K (c8 o .stuck λst'=> .next ρ st')
 | some _=>rfl
 | none=>rfl
mutual
theorem Ay:∀(s:CS) {ρ:Loc} {st:St} {K:Out→γ},cS T N Φ slf s ρ st K=K (exec T N Φ slf s ρ st)
 | .expr e,_,_,_=>(l9 e).trans (p7 λz z=>rfl)
 | .set t e,_,_,_=>iT λz=>(l9 e).trans (p7 λz z=>rfl)
 | .setAttr name o e,_,_,_=>(l9 e).trans (p7 λz z=>(l9 o).trans (p7 λz z=>gM))
 | .setSub o i e,_,_,_=>(l9 e).trans (p7 λz z=>(l9 o).trans (p7 λz z=>(l9 i).trans (p7 λz z=>gM)))
 | .augName i op e,ρ,st,K=>bf rfl λz=>bf rfl λz=>(l9 e).trans (p7 λz z=>p7 λz z=>rfl)
 | .augAttr name o op e,_,_,_=>(l9 o).trans (p7 λz z=>p7 λz z=>(l9 e).trans (p7 λz z=>p7 λz z=>gM))
 | .augSub o i op e,_,_,_=>(l9 o).trans (p7 λz z=>(l9 i).trans (p7 λz z=>p7 λz z=>(l9 e).trans (p7 λz z=>p7 λz z=>gM)))
 | .ite t a b,_,_,_=>(l9 t).trans (p7 λz z=>sU (cSs_eq a) (cSs_eq b) rfl)
 | .whl _ _,_,_,_=>rfl
 | .for t j body,_,_,_=>(l9 j).trans (p7 λz z=>rfl)
 | .forEnum _ _ _,_,_,_=>rfl
 | .ret e,_,_,_=>(l9 e).trans rfl
 | .raise e,_,_,_=>iT λz=>(l9 e).trans rfl
 | .brk,_,_,_=>rfl
 | .try _ _ _,_,_,_=>rfl
theorem cSs_eq:∀(ss:CSs) {ρ:Loc} {st:St} {K:Out→γ},cSs T N Φ slf ss ρ st K=K (execs T N Φ slf ss ρ st)
 | .nil,_,_,_=>rfl
 | .cons s .nil,ρ,st,K=>(Ay s).trans (by
   show _=K ((exec T N Φ slf s ρ st).seq .next)
   cases exec T N Φ slf s ρ st <;> rfl)
 | .cons s (.cons a r),ρ,st,K=>(Ay s).trans (by
   show _=K ((exec T N Φ slf s ρ st).seq λρ' st'=>execs T N Φ slf (.cons a r) ρ' st')
   cases exec T N Φ slf s ρ st <;> first | exact cSs_eq (.cons a r) | rfl)
end
end
section
variable {γ:Type} {T:Tabs} {N:Nat} {Φ:d7} {ρ:Loc} {st:St} {slf:Option Nat} {v w x y o i l h k fv:V} {a b c e f t:CE} {es r:CEs} {cs:CSs} {vs:List V} {S q:Bool} {K:Res→γ} {KL:ResL→γ} {KO:Out→γ} {n:Nat} {ex:Exc}
theorem HN {g:V→St→γ}:p9 g K (.ok v st)=g v st:=rfl
theorem Dn {g:V→St→γ}:p9 g K (.bad ex st)=K (.bad ex st):=rfl
theorem HP {g:V→St→γ}:p9 g K .stuck=K .stuck:=rfl
theorem Dz {g:List V→St→γ}:w8 g K (.ok vs st)=g vs st:=rfl
theorem yl {g:List V→St→γ}:w8 g K (.bad ex st)=K (.bad ex st):=rfl
theorem Bi {g:List V→St→γ}:w8 g K .stuck=K .stuck:=rfl
theorem EF {g:V→St→γ}:ci g KL (.ok v st)=g v st:=rfl
theorem yo {g:V→St→γ}:ci g KL (.bad ex st)=KL (.bad ex st):=rfl
theorem DS {g:V→St→γ}:ci g KL .stuck=KL .stuck:=rfl
theorem CR {g:V→St→γ}:i8 g ρ KO (.ok v st)=g v st:=rfl
theorem xZ {g:V→St→γ}:i8 g ρ KO (.bad ex st)=KO (.bad ex ρ st):=rfl
theorem AB {g:V→St→γ}:i8 g ρ KO .stuck=KO .stuck:=rfl
theorem TU {A B C:γ}:aa (.bool true) A B C=A:=rfl
theorem TP {A B C:γ}:aa (.bool false) A B C=B:=rfl
theorem Ss :cE T N Φ (.cst v) ρ st K=K (.ok v st):=rfl
theorem Uj :cE T N Φ (.loc n) ρ st K=K (C6 ρ n st):=rfl
theorem UC :cE T N Φ (.bop S es) ρ st K=cB T N Φ S es ρ st K:=rfl
theorem Ua :cE T N Φ (.not a) ρ st K=cE T N Φ a ρ st (p9 (yd K) K):=rfl
theorem RF :yd K (.bool q) st=K (.ok (.bool !q) st):=rfl
theorem TN :cE T N Φ (.neg a) ρ st K=cE T N Φ a ρ st (p9 (Nj K) K):=rfl
theorem Rq {z:Int}:Nj K (.int z) st=K (.ok (.int (-z)) st):=rfl
def Ux (T:Tabs) (N:Nat) (Φ:d7) (op:BOp) (b:CE) (ρ:Loc) (K:Res→γ) (x:V) (st:St):γ:=cE T N Φ b ρ st (p9 (vv op x K) K)
theorem Tj {op:BOp}:cE T N Φ (.bin op a b) ρ st K=cE T N Φ a ρ st (p9 (Ux T N Φ op b ρ K) K):=rfl
theorem Xw {op:BOp}:Ux T N Φ op b ρ K x st=cE T N Φ b ρ st (p9 (vv op x K) K):=rfl
theorem Yt {op:BOp}:vv op x K y st=K (u6 op x y st):=rfl
def Ta (T:Tabs) (N:Nat) (Φ:d7) (a b:CE) (ρ:Loc) (K:Res→γ) (v:V) (st:St):γ:=aa v (cE T N Φ a ρ st K) (cE T N Φ b ρ st K) (K .stuck)
theorem Sk :cE T N Φ (.ite t a b) ρ st K=cE T N Φ t ρ st (p9 (Ta T N Φ a b ρ K) K):=rfl
theorem Xn :Ta T N Φ a b ρ K v st=aa v (cE T N Φ a ρ st K) (cE T N Φ b ρ st K) (K .stuck):=rfl
def SV (T:Tabs) (N:Nat) (Φ:d7) (op:COp) (b:CE) (ρ:Loc) (K:Res→γ) (x:V) (st:St):γ:=cE T N Φ b ρ st (p9 (gS op x K) K)
theorem Ro {op:COp}:cE T N Φ (.cmp1 op a b) ρ st K=cE T N Φ a ρ st (p9 (SV T N Φ op b ρ K) K):=rfl
theorem Xb {op:COp}:SV T N Φ op b ρ K x st=cE T N Φ b ρ st (p9 (gS op x K) K):=rfl
theorem Xu {op:COp}:gS op x K y st=K (Y0 st (l7 st op x y)):=rfl
def zk (o:Option Bool) (A B C:γ):γ:=c8 o C λq=>T4 q A B
theorem OW {A B C:γ}:zk (b6 true) A B C=A:=rfl
theorem Nz {A B C:γ}:zk (b6 false) A B C=B:=rfl
def Lo (T:Tabs) (N:Nat) (Φ:d7) (p r:COp) (c:CE) (ρ:Loc) (K:Res→γ) (x y:V) (st:St):γ:=zk (l7 st p x y) (cE T N Φ c ρ st (p9 (gS r y K) K)) (K (.ok (.bool false) st)) (K .stuck)
def Ri (T:Tabs) (N:Nat) (Φ:d7) (p r:COp) (b c:CE) (ρ:Loc) (K:Res→γ) (x:V) (st:St):γ:=cE T N Φ b ρ st (p9 (Lo T N Φ p r c ρ K x) K)
theorem Mk {p r:COp}:cE T N Φ (.cmp2 p r a b c) ρ st K=cE T N Φ a ρ st (p9 (Ri T N Φ p r b c ρ K) K):=rfl
theorem Ym {p r:COp}:Ri T N Φ p r b c ρ K x st=cE T N Φ b ρ st (p9 (Lo T N Φ p r c ρ K x) K):=rfl
theorem VB {p r:COp}:Lo T N Φ p r c ρ K x y st=zk (l7 st p x y) (cE T N Φ c ρ st (p9 (gS r y K) K)) (K (.ok (.bool false) st)) (K .stuck):=rfl
def Rc (T:Tabs) (N:Nat) (Φ:d7) (es:CEs) (ρ:Loc) (K:Res→γ) (fv:V) (st:St):γ:=cEs T N Φ es ρ st (w8 (xK Φ fv K) K)
theorem Od :cE T (N+1) Φ (.call f es) ρ st K=cE T (N+1) Φ f ρ st (p9 (Rc T (N+1) Φ es ρ K) K):=rfl
theorem VM :Rc T N Φ es ρ K fv st=cEs T N Φ es ρ st (w8 (xK Φ fv K) K):=rfl
theorem WU :xK Φ (.fn n) K vs st=K (Φ n vs st):=rfl
theorem UX :xK Φ (.cls n) K vs st=K (Φ n vs st):=rfl
theorem Yu {bi:BI}:xK Φ (.bi bi) K vs st=K (A1 bi vs st):=rfl
theorem Vf {A B:γ}:T4 true A B=A:=rfl
theorem Rv {A B:γ}:T4 false A B=B:=rfl
def Rx (T:Tabs) (N:Nat) (Φ:d7) (m:BM) (es:CEs) (ρ:Loc) (K:Res→γ) (d:V) (st:St):γ:=T4 (Q5 m d st) (cEs T N Φ es ρ st (w8 (JA m d K) K)) (K .stuck)
theorem Wy {m:BM}:cE T (N+1) Φ (.bm m a es) ρ st K=cE T (N+1) Φ a ρ st (p9 (Rx T (N+1) Φ m es ρ K) K):=rfl
theorem WV {m:BM} {d:V}:Rx T N Φ m es ρ K d st=T4 (Q5 m d st) (cEs T N Φ es ρ st (w8 (JA m d K) K)) (K .stuck):=rfl
theorem TZ {m:BM} {d:V}:JA m d K vs st=K (o8 m d vs st):=rfl
def gr (T:Tabs) (N:Nat) (Φ:d7) (nm:List Nat) (es:CEs) (ρ:Loc) (K:Res→γ) (d:V) (st:St):γ:=c8 (Y4 T nm d st) (K .stuck) λa=>cEs T N Φ es ρ st (w8 (ew Φ a d K) K)
theorem WE {nm:List Nat}:cE T (N+1) Φ (.im nm a es) ρ st K=cE T (N+1) Φ a ρ st (p9 (gr T (N+1) Φ nm es ρ K) K):=rfl
theorem nw {nm:List Nat} {d:V} {m:Nat} (h:Y4 T nm d st=b6 m):gr T N Φ nm es ρ K d st=cEs T N Φ es ρ st (w8 (ew Φ m d K) K):=by delta gr;rw [h];rfl
theorem Vl {d:V}:ew Φ n d K vs st=K (Φ n (d :: vs) st):=rfl
theorem Nh {nm:List Nat}:cE T N Φ (.attr nm a) ρ st K=cE T N Φ a ρ st (p9 (An T nm K) K):=rfl
theorem NP {nm:List Nat}:An T nm K o st=K (getAttr T nm o st):=rfl
def Tn (T:Tabs) (N:Nat) (Φ:d7) (i:CE) (ρ:Loc) (K:Res→γ) (d:V) (st:St):γ:=cE T N Φ i ρ st (p9 (wQ d K) K)
theorem QU :cE T N Φ (.sub a b) ρ st K=cE T N Φ a ρ st (p9 (Tn T N Φ b ρ K) K):=rfl
theorem VA :Tn T N Φ b ρ K o st=cE T N Φ b ρ st (p9 (wQ o K) K):=rfl
theorem Yi :wQ o K i st=K (s8 o i st):=rfl
def Mu (T:Tabs) (N:Nat) (Φ:d7) (y:CE) (ρ:Loc) (K:Res→γ) (o l:V) (h:V) (st:St):γ:=cE T N Φ y ρ st (p9 (Jj o l h K) K)
def LN (T:Tabs) (N:Nat) (Φ:d7) (hi y:CE) (ρ:Loc) (K:Res→γ) (o:V) (l:V) (st:St):γ:=cE T N Φ hi ρ st (p9 (Mu T N Φ y ρ K o l) K)
def Sq (T:Tabs) (N:Nat) (Φ:d7) (lo hi y:CE) (ρ:Loc) (K:Res→γ) (o:V) (st:St):γ:=cE T N Φ lo ρ st (p9 (LN T N Φ hi y ρ K o) K)
theorem IE :cE T N Φ (.slice a b c e) ρ st K=cE T N Φ a ρ st (p9 (Sq T N Φ b c e ρ K) K):=rfl
theorem Wu :Sq T N Φ b c e ρ K o st=cE T N Φ b ρ st (p9 (LN T N Φ c e ρ K o) K):=rfl
theorem Xc :LN T N Φ c e ρ K o l st=cE T N Φ c ρ st (p9 (Mu T N Φ e ρ K o l) K):=rfl
theorem VC :Mu T N Φ e ρ K o l h st=cE T N Φ e ρ st (p9 (Jj o l h K) K):=rfl
theorem Yk :Jj o l h K k st=K (I9 o l h k st):=rfl
theorem Ql :cE T N Φ (.list es) ρ st K=cEs T N Φ es ρ st (w8 (AF K) K):=rfl
theorem OZ :AF K vs st=K (.ok (.ref st.length) (st++ [.list vs])):=rfl
theorem SK :cE T N Φ (.tup es) ρ st K=cEs T N Φ es ρ st (w8 (Qd K) K):=rfl
theorem So :Qd K vs st=K (.ok (.tup vs) st):=rfl
theorem PE :cE T N Φ (.dict es) ρ st K=cEs T N Φ es ρ st (w8 (AJ K) K):=rfl
theorem Gv :AJ K vs st=K (E6 vs st):=rfl
theorem Mx :cE T N Φ (.comp a b) ρ st K=cE T N Φ b ρ st (p9 (DW T N Φ a ρ K) K):=rfl
theorem Qf :DW T N Φ a ρ K v st=K (S6 T N Φ a ρ v st):=rfl
theorem Ic :cE T N Φ (.compIf a b c) ρ st K=cE T N Φ b ρ st (p9 (ul T N Φ a c ρ K) K):=rfl
theorem HF :ul T N Φ a c ρ K v st=K (V2 T N Φ a c ρ v st):=rfl
theorem Uz :cE T N Φ (.fmt a) ρ st K=cE T N Φ a ρ st (p9 (Py K) K):=rfl
theorem Te :Py K v st=K (uF v st):=rfl
theorem OF :cE T N Φ (.fstr es) ρ st K=cEs T N Φ es ρ st (BC K):=rfl
theorem LY :BC K (.ok vs st)=K (kF (.ok vs st)):=rfl
theorem NT :cEs T N Φ .nil ρ st KL=KL (.ok [] st):=rfl
def Su (T:Tabs) (N:Nat) (Φ:d7) (r:CEs) (ρ:Loc) (K:ResL→γ) (v:V) (st:St):γ:=cEs T N Φ r ρ st (lR v K)
theorem GT :cEs T N Φ (.cons a r) ρ st KL=cE T N Φ a ρ st (ci (Su T N Φ r ρ KL) KL):=rfl
theorem Xj :Su T N Φ r ρ KL v st=cEs T N Φ r ρ st (lR v KL):=rfl
theorem Ni :lR v KL (.ok vs st)=KL (.ok (v :: vs) st):=rfl
theorem Go :lR v KL (.bad ex st)=KL (.bad ex st):=rfl
theorem Gp :lR v KL .stuck=KL .stuck:=rfl
theorem Tu :cB T N Φ S (.cons a .nil) ρ st K=cE T N Φ a ρ st K:=rfl
def DG (T:Tabs) (N:Nat) (Φ:d7) (r:CEs) (ρ:Loc) (K:Res→γ) (v:V) (st:St):γ:=aa v (cB T N Φ true r ρ st K) (K (.ok v st)) (K .stuck)
def Do (T:Tabs) (N:Nat) (Φ:d7) (r:CEs) (ρ:Loc) (K:Res→γ) (v:V) (st:St):γ:=aa v (K (.ok v st)) (cB T N Φ false r ρ st K) (K .stuck)
theorem TS :cB T N Φ true (.cons a (.cons b r)) ρ st K=cE T N Φ a ρ st (p9 (DG T N Φ (.cons b r) ρ K) K):=rfl
theorem VT :cB T N Φ false (.cons a (.cons b r)) ρ st K=cE T N Φ a ρ st (p9 (Do T N Φ (.cons b r) ρ K) K):=rfl
theorem Hz :DG T N Φ r ρ K (.bool true) st=cB T N Φ true r ρ st K:=rfl
theorem HY :DG T N Φ r ρ K (.bool false) st=K (.ok (.bool false) st):=rfl
theorem Na :Do T N Φ r ρ K (.bool true) st=K (.ok (.bool true) st):=rfl
theorem Pj :Do T N Φ r ρ K (.bool false) st=cB T N Φ false r ρ st K:=rfl
theorem Ec :Y0 st (b6 q)= .ok (.bool q) st:=rfl
theorem bl {p:Prop} [Decidable p] {P:Bool→γ→Prop} {A B:γ} (h1:p→P true A) (c:¬p→P false B):P (decide p) (if p then A else B):=by
 by_cases h:p
 ·rw [decide_eq_true h,iP h];exact h1 h
 ·rw [decide_eq_false h,iN h];exact c h
theorem KB {p:Prop} [Decidable p] {A B C:γ}:aa (.bool (decide p)) A B C=if p then A else B:=bl (P:=λq z=>aa (.bool q) A B C=z) (λa=>rfl) (λa=>rfl)
theorem UN {p:Prop} [Decidable p]:DG T N Φ r ρ K (.bool (decide p)) st=if p then cB T N Φ true r ρ st K else K (.ok (.bool false) st):=bl (P:=λq z=>DG T N Φ r ρ K (.bool q) st=z) (λa=>rfl) (λa=>rfl)
theorem XN {p:Prop} [Decidable p]:Do T N Φ r ρ K (.bool (decide p)) st=if p then K (.ok (.bool true) st) else cB T N Φ false r ρ st K:=bl (P:=λq z=>Do T N Φ r ρ K (.bool q) st=z) (λa=>rfl) (λa=>rfl)
theorem MF {p:Prop} [Decidable p]:yd K (.bool (decide p)) st=K (.ok (.bool (decide (¬p))) st):=by rw [RF,decide_not]
theorem Hw {p:Prop} [Decidable p] {g:V→St→γ} {A B:Res}:p9 g K (if p then A else B)=if p then p9 g K A else p9 g K B:=apply_ite ..
theorem AM {p:Prop} [Decidable p] {g:List V→St→γ} {A B:ResL}:w8 g K (if p then A else B)=if p then w8 g K A else w8 g K B:=apply_ite ..
theorem Em {p:Prop} [Decidable p] {g:V→St→γ} {A B:Res}:ci g KL (if p then A else B)=if p then ci g KL A else ci g KL B:=apply_ite ..
theorem Ez {p:Prop} [Decidable p] {g:V→St→γ} {A B:Res}:i8 g ρ KO (if p then A else B)=if p then i8 g ρ KO A else i8 g ρ KO B:=apply_ite ..
theorem JC {p:Prop} [Decidable p] {A B:Res}:kc ρ KO (if p then A else B)=if p then kc ρ KO A else kc ρ KO B:=apply_ite ..
theorem GF {p:Prop} [Decidable p] {A B:Res}:pE ρ KO (if p then A else B)=if p then pE ρ KO A else pE ρ KO B:=apply_ite ..
theorem NZ {p:Prop} [Decidable p] {A B C:γ}:zk (b6 (decide p)) A B C=if p then A else B:=bl (P:=λq z=>zk (b6 q) A B C=z) (λa=>rfl) (λa=>rfl)
theorem GB :yd K (.bool true) st=K (.ok (.bool false) st):=rfl
theorem Jt :yd K (.bool false) st=K (.ok (.bool true) st):=rfl
theorem Oy :cSs T N Φ slf .nil ρ st KO=KO (.next ρ st):=rfl
def cQ (T:Tabs) (N:Nat) (Φ:d7) (slf:Option Nat) (r:CSs) (K:Out→γ) (o:Out):γ:=match o with
  | .next ρ' st'=>cSs T N Φ slf r ρ' st' K
  | o=>K o
theorem Pt {s:CS}:cSs T N Φ slf (.cons s .nil) ρ st KO=cS T N Φ slf s ρ st KO:=rfl
theorem IL {s S:CS}:cSs T N Φ slf (.cons s (.cons S cs)) ρ st KO=cS T N Φ slf s ρ st (cQ T N Φ slf (.cons S cs) KO):=rfl
theorem Uh :cQ T N Φ slf cs KO (.brk ρ st)=KO (.brk ρ st):=rfl
theorem Vb :cQ T N Φ slf cs KO (.ret v st)=KO (.ret v st):=rfl
theorem VD :cQ T N Φ slf cs KO (.retmk ex st)=KO (.retmk ex st):=rfl
theorem Ry :cQ T N Φ slf cs KO (.bad ex ρ st)=KO (.bad ex ρ st):=rfl
theorem WA :cQ T N Φ slf cs KO (.stuck)=KO (.stuck):=rfl
theorem Mn :cQ T N Φ slf cs KO (.next ρ st)=cSs T N Φ slf cs ρ st KO:=rfl
def SD (ρ:Loc) (K:Out→γ) (_:V) (st:St):γ:=K (.next ρ st)
theorem Pf :cS T N Φ slf (.expr e) ρ st KO=cE T N Φ e ρ st (i8 (SD ρ KO) ρ KO):=rfl
theorem Wm :SD ρ KO v st=KO (.next ρ st):=rfl
def Bk (t:CT) (ρ:Loc) (K:Out→γ) (v:V) (st:St):γ:=K (H4 t ρ v st)
theorem UA :cS T N Φ slf (.set (.name n) e) ρ st KO=cE T N Φ e ρ st (i8 (Bk (.name n) ρ KO) ρ KO):=iN λh=>O0 h.2
theorem PN {ts:CTs}:cS T (N+1) Φ slf (.set (.tup ts) e) ρ st KO=cE T (N+1) Φ e ρ st (i8 (Bk (.tup ts) ρ KO) ρ KO):=by
 show (if N+1=0∧true=true then KO .stuck else cE T (N+1) Φ e ρ st (i8 (Bk (.tup ts) ρ KO) ρ KO))=_;exact iN λh=>Nat.succ_ne_zero N h.1
theorem Sh {h:CT}:Bk h ρ KO v st=KO (H4 h ρ v st):=rfl
def Fu (T:Tabs) (slf:Option Nat) (nm:List Nat) (ρ:Loc) (K:Out→γ) (v d:V) (st:St):γ:=ny K ρ (Internal.setAttr T slf nm d v st)
def TW (T:Tabs) (N:Nat) (Φ:d7) (slf:Option Nat) (nm:List Nat) (o:CE) (ρ:Loc) (K:Out→γ) (v:V) (st:St):γ:=cE T N Φ o ρ st (i8 (Fu T slf nm ρ K v) ρ K)
theorem VK {nm:List Nat}:cS T N Φ slf (.setAttr nm a e) ρ st KO=cE T N Φ e ρ st (i8 (TW T N Φ slf nm a ρ KO) ρ KO):=rfl
theorem Uw {nm:List Nat}:TW T N Φ slf nm a ρ KO v st=cE T N Φ a ρ st (i8 (Fu T slf nm ρ KO v) ρ KO):=rfl
theorem bA {nm:List Nat} {v d:V} {st':St} (h:Internal.setAttr T slf nm d v st=b6 st'):Fu T slf nm ρ KO v d st=KO (.next ρ st'):=by delta Fu;rw [h];rfl
def gz (ρ:Loc) (K:Out→γ) (v d s:V) (st:St):γ:=ny K ρ (Internal.setSub d s v st)
def Oc (T:Tabs) (N:Nat) (Φ:d7) (i:CE) (ρ:Loc) (K:Out→γ) (v d:V) (st:St):γ:=cE T N Φ i ρ st (i8 (gz ρ K v d) ρ K)
def Td (T:Tabs) (N:Nat) (Φ:d7) (o i:CE) (ρ:Loc) (K:Out→γ) (v:V) (st:St):γ:=cE T N Φ o ρ st (i8 (Oc T N Φ i ρ K v) ρ K)
theorem Xg :cS T N Φ slf (.setSub a b e) ρ st KO=cE T N Φ e ρ st (i8 (Td T N Φ a b ρ KO) ρ KO):=rfl
theorem Rr :Td T N Φ a b ρ KO v st=cE T N Φ a ρ st (i8 (Oc T N Φ b ρ KO v) ρ KO):=rfl
theorem Vr :Oc T N Φ b ρ KO v o st=cE T N Φ b ρ st (i8 (gz ρ KO v o) ρ KO):=rfl
theorem kE {v d s:V} {st':St} (h:Internal.setSub d s v st=b6 st'):gz ρ KO v d s st=KO (.next ρ st'):=by delta gz;rw [h];rfl
def Ia (i:Nat) (ρ:Loc) (K:Out→γ) (new:V) (st:St):γ:=K (H4 (.name i) ρ new st)
def Io (i:Nat) (op:BOp) (ρ:Loc) (K:Out→γ) (c v:V) (st:St):γ:=i8 (Ia i ρ K) ρ K (L8 op c v st)
theorem Fk {i:Nat} {o:V} (h:ρ[i]?=b6 (b6 o)):H4 (.name i) ρ v st= .next (ρ.set i (b6 v)) st:=by
 show c8 (if i < ρ.length then b6 (ρ.set i (b6 v)) else b8) Out.stuck _=_;rw [iP (U6.mp h).1];rfl
theorem RS {op:BOp} {c:V} (h:ρ[n]?=b6 (b6 c)):cS T N Φ slf (.augName n op e) ρ st KO=cE T N Φ e ρ st (i8 (Io n op ρ KO c) ρ KO):=by
 show c8 ρ[n]? (KO .stuck) (λo=>c8 o (KO .stuck) λc=>cE T N Φ e ρ st (i8 (λv st=>i8 (λnew st=>KO (.next (ρ.set n (b6 new)) st)) ρ KO (L8 op c v st)) ρ KO))=_;rw [h];have f:(λ(new:V) (st:St)=>KO (.next (ρ.set n (b6 new)) st))=Ia n ρ KO:=funext λv=>funext λs=>(cG KO (Fk h)).symm;rw [f];rfl
def UY (T:Tabs) (N:Nat) (Φ:d7) (n:Nat) (op:BOp) (e:CE) (ρ:Loc) (st:St) (K:Out→γ):Res→γ
 | .ok c _=>cE T N Φ e ρ st (i8 (Io n op ρ K c) ρ K)
 | _=>K .stuck
theorem Wx {op:BOp}:cS T N Φ slf (.augName n op e) ρ st KO=UY T N Φ n op e ρ st KO (C6 ρ n st):=by
 show c8 ρ[n]? (KO .stuck) (λo=>c8 o (KO .stuck) λc=>cE T N Φ e ρ st (i8 (λv st=>i8 (λnew st=>KO (.next (ρ.set n (b6 new)) st)) ρ KO (L8 op c v st)) ρ KO))=_;cases h:ρ[n]? with
 | none=>delta C6;rw [h];rfl
 | some o=>
  cases o with
  | some v=>delta C6;rw [← h];refine (RS (slf:=slf) h).trans ?_;rw [h];rfl
  | none=>delta C6;rw [h];rfl
theorem RG {op:BOp} {s:St}:UY T N Φ n op e ρ st KO (.ok v s)=cE T N Φ e ρ st (i8 (Io n op ρ KO v) ρ KO):=rfl
theorem Rh {op:BOp}:Io n op ρ KO v w st=i8 (Ia n ρ KO) ρ KO (L8 op v w st):=rfl
theorem UB :Ia n ρ KO v st=KO (H4 (.name n) ρ v st):=rfl
def CB (T:Tabs) (slf:Option Nat) (nm:List Nat) (ρ:Loc) (K:Out→γ) (d new:V) (st:St):γ:=ny K ρ (Internal.setAttr T slf nm d new st)
def LI (T:Tabs) (slf:Option Nat) (nm:List Nat) (op:BOp) (ρ:Loc) (K:Out→γ) (d c v:V) (st:St):γ:=i8 (CB T slf nm ρ K d) ρ K (L8 op c v st)
def Me (T:Tabs) (N:Nat) (Φ:d7) (slf:Option Nat) (nm:List Nat) (op:BOp) (e:CE) (ρ:Loc) (K:Out→γ) (d c:V) (st:St):γ:=cE T N Φ e ρ st (i8 (LI T slf nm op ρ K d c) ρ K)
def RZ (T:Tabs) (N:Nat) (Φ:d7) (slf:Option Nat) (nm:List Nat) (op:BOp) (e:CE) (ρ:Loc) (K:Out→γ) (d:V) (st:St):γ:=i8 (Me T N Φ slf nm op e ρ K d) ρ K (Internal.getAttr T nm d st)
theorem Wi {nm:List Nat} {op:BOp}:cS T N Φ slf (.augAttr nm a op e) ρ st KO=cE T N Φ a ρ st (i8 (RZ T N Φ slf nm op e ρ KO) ρ KO):=rfl
theorem TR {nm:List Nat} {op:BOp}:RZ T N Φ slf nm op e ρ KO o st=i8 (Me T N Φ slf nm op e ρ KO o) ρ KO (Internal.getAttr T nm o st):=rfl
theorem Re {nm:List Nat} {op:BOp}:Me T N Φ slf nm op e ρ KO o v st=cE T N Φ e ρ st (i8 (LI T slf nm op ρ KO o v) ρ KO):=rfl
theorem Rf {nm:List Nat} {op:BOp}:LI T slf nm op ρ KO o v w st=i8 (CB T slf nm ρ KO o) ρ KO (L8 op v w st):=rfl
theorem Rj {nm:List Nat} {d new:V} {st':St} (h:Internal.setAttr T slf nm d new st=b6 st'):CB T slf nm ρ KO d new st=KO (.next ρ st'):=by delta CB;rw [h];rfl
def yb (ρ:Loc) (K:Out→γ) (d s new:V) (st:St):γ:=ny K ρ (Internal.setSub d s new st)
def Lq (op:BOp) (ρ:Loc) (K:Out→γ) (d s c v:V) (st:St):γ:=i8 (yb ρ K d s) ρ K (L8 op c v st)
def Nr (T:Tabs) (N:Nat) (Φ:d7) (op:BOp) (e:CE) (ρ:Loc) (K:Out→γ) (d s c:V) (st:St):γ:=cE T N Φ e ρ st (i8 (Lq op ρ K d s c) ρ K)
def MJ (T:Tabs) (N:Nat) (Φ:d7) (op:BOp) (e:CE) (ρ:Loc) (K:Out→γ) (d s:V) (st:St):γ:=i8 (Nr T N Φ op e ρ K d s) ρ K (s8 d s st)
def UJ (T:Tabs) (N:Nat) (Φ:d7) (op:BOp) (i e:CE) (ρ:Loc) (K:Out→γ) (d:V) (st:St):γ:=cE T N Φ i ρ st (i8 (MJ T N Φ op e ρ K d) ρ K)
theorem VU {op:BOp}:cS T N Φ slf (.augSub a b op e) ρ st KO=cE T N Φ a ρ st (i8 (UJ T N Φ op b e ρ KO) ρ KO):=rfl
theorem Ul {op:BOp}:UJ T N Φ op b e ρ KO o st=cE T N Φ b ρ st (i8 (MJ T N Φ op e ρ KO o) ρ KO):=rfl
theorem TE {op:BOp}:MJ T N Φ op e ρ KO o i st=i8 (Nr T N Φ op e ρ KO o i) ρ KO (s8 o i st):=rfl
theorem TV {op:BOp}:Nr T N Φ op e ρ KO o i v st=cE T N Φ e ρ st (i8 (Lq op ρ KO o i v) ρ KO):=rfl
theorem RI {op:BOp}:Lq op ρ KO o i v w st=i8 (yb ρ KO o i) ρ KO (L8 op v w st):=rfl
theorem Kz {d s new:V} {st':St} (h:Internal.setSub d s new st=b6 st'):yb ρ KO d s new st=KO (.next ρ st'):=by delta yb;rw [h];rfl
def QY (T:Tabs) (N:Nat) (Φ:d7) (slf:Option Nat) (a b:CSs) (ρ:Loc) (K:Out→γ) (v:V) (st:St):γ:=aa v (cSs T N Φ slf a ρ st K) (cSs T N Φ slf b ρ st K) (K .stuck)
theorem Tz {a b:CSs}:cS T N Φ slf (.ite t a b) ρ st KO=cE T N Φ t ρ st (i8 (QY T N Φ slf a b ρ KO) ρ KO):=rfl
theorem Tv {a b:CSs}:QY T N Φ slf a b ρ KO v st=aa v (cSs T N Φ slf a ρ st KO) (cSs T N Φ slf b ρ st KO) (KO .stuck):=rfl
theorem UE :cS T N Φ slf (.whl t cs) ρ st KO=KO (F6 T N Φ slf t cs N ρ st):=rfl
def Tt (T:Tabs) (N:Nat) (Φ:d7) (slf:Option Nat) (t:CT) (body:CSs) (ρ:Loc) (K:Out→γ) (v:V) (st:St):γ:=K (ff T N Φ slf t body ρ v st)
theorem RB {h:CT}:cS T N Φ slf (.for h e cs) ρ st KO=cE T N Φ e ρ st (i8 (Tt T N Φ slf h cs ρ KO) ρ KO):=rfl
theorem Uk {h:CT}:Tt T N Φ slf h cs ρ KO v st=KO (ff T N Φ slf h cs ρ v st):=rfl
theorem Tx :cS T N Φ slf (.ret e) ρ st KO=cE T N Φ e ρ st (kc ρ KO):=rfl
theorem WN :kc ρ KO (.ok v st)=KO (.ret v st):=rfl
theorem Xp :kc ρ KO (.mk ex st)=KO (.retmk ex st):=rfl
theorem Vj :kc ρ KO (.bad ex st)=KO (.bad ex ρ st):=rfl
theorem WM :kc ρ KO .stuck=KO .stuck:=rfl
theorem IW :cS T (N+1) Φ slf (.raise e) ρ st KO=cE T (N+1) Φ e ρ st (pE ρ KO):=rfl
theorem QV :pE ρ KO (.mk ex st)=KO (.bad ex ρ st):=rfl
theorem Ml :pE ρ KO (.bad ex st)=KO (.bad ex ρ st):=rfl
theorem Sc :pE ρ KO .stuck=KO .stuck:=rfl
theorem Sv :cS T N Φ slf .brk ρ st KO=KO (.brk ρ st):=rfl
section
variable {σ:Type} {st:St} {n:Nat} {s:σ}
theorem i7 {f:List V→σ} {l:List V} (h:st[n]?=b6 (.list l)):r6 st n s f=f l:=cG (λx:Option AObj=>c8 x s λo:AObj=>o.onL s f) h
theorem G4 {f:List (List Nat×V)→σ} {l:List (List Nat×V)} (h:st[n]?=b6 (.dict l)):O7 st n s f=f l:=cG (λx:Option AObj=>c8 x s λo:AObj=>o.onD s f) h
theorem be {f:List (List Nat×V)→σ} {l:List (List Nat×V)} (h:st[n]?=b6 (.ns l)):nU st n s f=f l:=cG (λx:Option AObj=>c8 x s λo:AObj=>o.onN s f) h
theorem Qy {f:List V→σ} {g:List (List Nat×V)→σ} {l:List V} (h:st[n]?=b6 (.list l)):onLD st n s f g=f l:=cG (λx:Option AObj=>c8 x s λo:AObj=>o.onLD s f g) h
theorem WC {f:List V→σ} {g:List (List Nat×V)→σ} {l:List (List Nat×V)} (h:st[n]?=b6 (.dict l)):onLD st n s f g=g l:=cG (λx:Option AObj=>c8 x s λo:AObj=>o.onLD s f g) h
theorem AE {f:List V→σ} {g:List (Int×V)→σ} {l:List V} (h:st[n]?=b6 (.list l)):onLI st n s f g=f l:=cG (λx:Option AObj=>c8 x s λo:AObj=>o.onLI s f g) h
theorem VO {f:List V→σ} {g:List (Int×V)→σ} {l:List (Int×V)} (h:st[n]?=b6 (.idict l)):onLI st n s f g=g l:=cG (λx:Option AObj=>c8 x s λo:AObj=>o.onLI s f g) h
end
theorem U4 {ρ:Loc} {i:Nat} {v:V} {st:St} (h:ρ[i]?=b6 (b6 v)):C6 ρ i st= .ok v st:=by delta C6;rw [h];rfl
theorem XH {ρ:Loc}:C6 (b6 v :: ρ) 0 st= .ok v st:=rfl
theorem Wp {ρ:Loc} {u:Option V}:H4 (.name 0) (u :: ρ) v st= .next (b6 v :: ρ) st:=rfl
theorem Xm {z0:Option V} {ρ:Loc}:C6 (z0 :: b6 v :: ρ) 1 st= .ok v st:=rfl
theorem XQ {z0:Option V} {ρ:Loc} {u:Option V}:H4 (.name 1) (z0 :: u :: ρ) v st= .next (z0 :: b6 v :: ρ) st:=rfl
theorem WH {z0 u:Option V} {ρ:Loc}:C6 (z0 :: u :: b6 v :: ρ) 2 st= .ok v st:=rfl
theorem Yc {z0 z:Option V} {ρ:Loc} {u:Option V}:H4 (.name 2) (z0 :: z :: u :: ρ) v st= .next (z0 :: z :: b6 v :: ρ) st:=rfl
theorem XX {z0 u z:Option V} {ρ:Loc}:C6 (z0 :: u :: z :: b6 v :: ρ) 3 st= .ok v st:=rfl
theorem Wf {z0 z a:Option V} {ρ:Loc} {u:Option V}:H4 (.name 3) (z0 :: z :: a :: u :: ρ) v st= .next (z0 :: z :: a :: b6 v :: ρ) st:=rfl
theorem Xs {z0 u z a:Option V} {ρ:Loc}:C6 (z0 :: u :: z :: a :: b6 v :: ρ) 4 st= .ok v st:=rfl
theorem VW {z0 z a b:Option V} {ρ:Loc} {u:Option V}:H4 (.name 4) (z0 :: z :: a :: b :: u :: ρ) v st= .next (z0 :: z :: a :: b :: b6 v :: ρ) st:=rfl
theorem WW {z0 u z a b:Option V} {ρ:Loc}:C6 (z0 :: u :: z :: a :: b :: b6 v :: ρ) 5 st= .ok v st:=rfl
theorem Yy {z0 z a b c:Option V} {ρ:Loc} {u:Option V}:H4 (.name 5) (z0 :: z :: a :: b :: c :: u :: ρ) v st= .next (z0 :: z :: a :: b :: c :: b6 v :: ρ) st:=rfl
theorem Yb {z0 u z a b c:Option V} {ρ:Loc}:C6 (z0 :: u :: z :: a :: b :: c :: b6 v :: ρ) 6 st= .ok v st:=rfl
theorem WP {z0 z a b c d:Option V} {ρ:Loc} {u:Option V}:H4 (.name 6) (z0 :: z :: a :: b :: c :: d :: u :: ρ) v st= .next (z0 :: z :: a :: b :: c :: d :: b6 v :: ρ) st:=rfl
theorem YC {z0 u z a b c d:Option V} {ρ:Loc}:C6 (z0 :: u :: z :: a :: b :: c :: d :: b6 v :: ρ) 7 st= .ok v st:=rfl
theorem Ww {z0 z a b c d e:Option V} {ρ:Loc} {u:Option V}:H4 (.name 7) (z0 :: z :: a :: b :: c :: d :: e :: u :: ρ) v st= .next (z0 :: z :: a :: b :: c :: d :: e :: b6 v :: ρ) st:=rfl
theorem Wc {z0 u z a b c d e:Option V} {ρ:Loc}:C6 (z0 :: u :: z :: a :: b :: c :: d :: e :: b6 v :: ρ) 8 st= .ok v st:=rfl
theorem WX {z0 z a b c d e f:Option V} {ρ:Loc} {u:Option V}:H4 (.name 8) (z0 :: z :: a :: b :: c :: d :: e :: f :: u :: ρ) v st= .next (z0 :: z :: a :: b :: c :: d :: e :: f :: b6 v :: ρ) st:=rfl
theorem VG {z0 u z a b c d e f:Option V} {ρ:Loc}:C6 (z0 :: u :: z :: a :: b :: c :: d :: e :: f :: b6 v :: ρ) 9 st= .ok v st:=rfl
theorem WO {z0 z a b c d e f g:Option V} {ρ:Loc} {u:Option V}:H4 (.name 9) (z0 :: z :: a :: b :: c :: d :: e :: f :: g :: u :: ρ) v st= .next (z0 :: z :: a :: b :: c :: d :: e :: f :: g :: b6 v :: ρ) st:=rfl
theorem YB {z0 u z a b c d e f g:Option V} {ρ:Loc}:C6 (z0 :: u :: z :: a :: b :: c :: d :: e :: f :: g :: b6 v :: ρ) 10 st= .ok v st:=rfl
theorem Yd {z0 z a b c d e f g h:Option V} {ρ:Loc} {u:Option V}:H4 (.name 10) (z0 :: z :: a :: b :: c :: d :: e :: f :: g :: h :: u :: ρ) v st= .next (z0 :: z :: a :: b :: c :: d :: e :: f :: g :: h :: b6 v :: ρ) st:=rfl
theorem XW {z0 u a b c d e f g h z:Option V} {ρ:Loc}:C6 (z0 :: u :: a :: b :: c :: d :: e :: f :: g :: h :: z :: b6 v :: ρ) 11 st= .ok v st:=rfl
theorem WJ {z0 a b c d e f g h i z:Option V} {ρ:Loc} {u:Option V}:H4 (.name 11) (z0 :: a :: b :: c :: d :: e :: f :: g :: h :: i :: z :: u :: ρ) v st= .next (z0 :: a :: b :: c :: d :: e :: f :: g :: h :: i :: z :: b6 v :: ρ) st:=rfl
theorem Wa {z0 u b c d e f g h i z a:Option V} {ρ:Loc}:C6 (z0 :: u :: b :: c :: d :: e :: f :: g :: h :: i :: z :: a :: b6 v :: ρ) 12 st= .ok v st:=rfl
theorem WK {z0 b c d e f g h i j z a:Option V} {ρ:Loc} {u:Option V}:H4 (.name 12) (z0 :: b :: c :: d :: e :: f :: g :: h :: i :: j :: z :: a :: u :: ρ) v st= .next (z0 :: b :: c :: d :: e :: f :: g :: h :: i :: j :: z :: a :: b6 v :: ρ) st:=rfl
theorem Xa {z0 u c d e f g h i j z a b:Option V} {ρ:Loc}:C6 (z0 :: u :: c :: d :: e :: f :: g :: h :: i :: j :: z :: a :: b :: b6 v :: ρ) 13 st= .ok v st:=rfl
theorem XV {z0 c d e f g h i j k z a b:Option V} {ρ:Loc} {u:Option V}:H4 (.name 13) (z0 :: c :: d :: e :: f :: g :: h :: i :: j :: k :: z :: a :: b :: u :: ρ) v st= .next (z0 :: c :: d :: e :: f :: g :: h :: i :: j :: k :: z :: a :: b :: b6 v :: ρ) st:=rfl
theorem WT {z0 u d e f g h i j k z a b c:Option V} {ρ:Loc}:C6 (z0 :: u :: d :: e :: f :: g :: h :: i :: j :: k :: z :: a :: b :: c :: b6 v :: ρ) 14 st= .ok v st:=rfl
theorem WF {z0 d e f g h i j k l z a b c:Option V} {ρ:Loc} {u:Option V}:H4 (.name 14) (z0 :: d :: e :: f :: g :: h :: i :: j :: k :: l :: z :: a :: b :: c :: u :: ρ) v st= .next (z0 :: d :: e :: f :: g :: h :: i :: j :: k :: l :: z :: a :: b :: c :: b6 v :: ρ) st:=rfl
theorem Wr {z0 u e f g h i j k l z a b c d:Option V} {ρ:Loc}:C6 (z0 :: u :: e :: f :: g :: h :: i :: j :: k :: l :: z :: a :: b :: c :: d :: b6 v :: ρ) 15 st= .ok v st:=rfl
theorem Xl {z0 e f g h i j k l m z a b c d:Option V} {ρ:Loc} {u:Option V}:H4 (.name 15) (z0 :: e :: f :: g :: h :: i :: j :: k :: l :: m :: z :: a :: b :: c :: d :: u :: ρ) v st= .next (z0 :: e :: f :: g :: h :: i :: j :: k :: l :: m :: z :: a :: b :: c :: d :: b6 v :: ρ) st:=rfl
theorem i9 {s:CS}:cSs T N Φ slf (.cons s cs) ρ st KO=cS T N Φ slf s ρ st (cQ T N Φ slf cs KO):=by
 rw [cSs_eq,Ay];show KO ((exec T N Φ slf s ρ st).seq λρ' st'=>execs T N Φ slf cs ρ' st')=_
 cases exec T N Φ slf s ρ st <;> first | exact (cSs_eq cs).symm | rfl
def fC (n:Nat) (v:V):Out→Out
 | .next ρ st=>H4 (.name n) ρ v st
 | _=> .stuck
theorem Vo {α:Type} {o:Option α} {s:γ} {f:α→γ} {c:Type} {g:γ→c}:g (c8 o s f)=c8 o (g s) λa=>g (f a):=by cases o <;> rfl
theorem Wo {i j:Nat}:H4 (.tup (.cons (.name i) (.cons (.name j) .nil))) ρ (.tup [v,w]) st=fC j w (H4 (.name i) ρ v st):=by
 show c8 (c8 (n7 (.name i) v ρ) b8 λρ'=>c8 (n7 (.name j) w ρ') b8 b6) Out.stuck (λρ'=> .next ρ' st)=fC j w (c8 (n7 (.name i) v ρ) Out.stuck λρ'=> .next ρ' st);cases n7 (.name i) v ρ with
 | none=>rfl
 | some r=>
  show c8 (c8 (n7 (.name j) w r) b8 b6) Out.stuck (λρ'=> .next ρ' st)=c8 (n7 (.name j) w r) Out.stuck (λρ'=> .next ρ' st)
  cases n7 (.name j) w r <;> rfl
theorem Wn {i j k:Nat}:H4 (.tup (.cons (.name i) (.cons (.name j) (.cons (.name k) .nil)))) ρ (.tup [v,w,x]) st=fC k x (fC j w (H4 (.name i) ρ v st)):=by
 show c8 (c8 (n7 (.name i) v ρ) b8 λρ'=>c8 (n7 (.name j) w ρ') b8 λρ'=>c8 (n7 (.name k) x ρ') b8 b6) Out.stuck (λρ'=> .next ρ' st)=fC k x (fC j w (c8 (n7 (.name i) v ρ) Out.stuck λρ'=> .next ρ' st));cases n7 (.name i) v ρ with
 | none=>rfl
 | some r=>
  show c8 (c8 (n7 (.name j) w r) b8 λρ'=>c8 (n7 (.name k) x ρ') b8 b6) Out.stuck (λρ'=> .next ρ' st)=fC k x (c8 (n7 (.name j) w r) Out.stuck λρ'=> .next ρ' st);cases n7 (.name j) w r with
  | none=>rfl
  | some q=>
   show c8 (c8 (n7 (.name k) x q) b8 b6) Out.stuck (λρ'=> .next ρ' st)=c8 (n7 (.name k) x q) Out.stuck (λρ'=> .next ρ' st)
   cases n7 (.name k) x q <;> rfl
theorem IK :fC n v (.next ρ st)=H4 (.name n) ρ v st:=rfl
def PO (q:Bool) (v:V) (n:Nat) (st:St):Res:= .ok v (if q then st.take n else st)
def cc (n:Nat):Out→Res
 | .next _ st=> .ok .none (st.take n)
 | .ret v st=>PO v.flat v n st
 | .retmk e st=> .mk e (st.take n)
 | .bad e _ st=> .bad e (st.take n)
 | _=> .stuck
def PM (q:Bool) (v:V) (s st:St):Res:=if q then .ok v s else .ok (v.shift s.length) (s++st.map (AObj.shift s.length))
def sP (s:St):Out→Res
 | .next _ _=> .ok .none s
 | .ret v st=>PM v.flat v s st
 | .retmk e _=> .mk e s
 | .bad e _ _=> .bad e s
 | _=> .stuck
theorem Mo :cc n (.next ρ st)= .ok .none (st.take n):=rfl
theorem Vk :cc n (.ret v st)=PO v.flat v n st:=rfl
theorem WY :cc n (.retmk ex st)= .mk ex (st.take n):=rfl
theorem Ui :cc n (.bad ex ρ st)= .bad ex (st.take n):=rfl
theorem Xi :cc n .stuck= .stuck:=rfl
theorem Sr :PO true v n st= .ok v (st.take n):=rfl
theorem OU {s:St}:sP s (.next ρ st)= .ok .none s:=rfl
theorem Uu {s:St}:sP s (.ret v st)=PM v.flat v s st:=rfl
theorem Yh {s:St}:sP s (.retmk ex st)= .mk ex s:=rfl
theorem RE {s:St}:sP s (.bad ex ρ st)= .bad ex s:=rfl
theorem WL {s:St}:sP s .stuck= .stuck:=rfl
theorem TF {s:St}:PM true v s st= .ok v s:=rfl
theorem NQ {s:List Nat}:(V.str s).flat=true:=rfl
theorem Pi {z:Int}:(V.int z).flat=true:=rfl
theorem HH :V.none.flat=true:=rfl
theorem GW :(V.bool q).flat=true:=rfl
theorem Om :(V.tup vs).flat=V.flats vs:=rfl
theorem Ji :V.flats []=true:=rfl
theorem CP :V.flats (v :: vs)=(v.flat&&V.flats vs):=rfl
theorem Tg :(true&&q)=q:=rfl
theorem ec:∀{l:List (List Nat)},V.flats (l.map V.str)=true
 | []=>rfl
 | _ :: r=>ec (l:=r)
theorem pK {P:Prog} {N d i:Nat} {f:CFn} {args:List V} {st:St} (h:C7 P.fns i=b6 f) :
  c0 P N (d+1) i args st=if V.flats args then (P6 P N (c0 P N d) b8 f args []).lay st else (P6 P N (c0 P N d) b8 f args st).trim st.length:=by
 have c:∀{o:Option CFn} {A:CFn→Res} {B:Res},o=b6 f→(match o with | some f=>A f | none=>B)=A f:=λh=>by subst h;rfl
 refine (c h).trans ?_
 cases V.flats args <;> rfl
abbrev Kend:Out→Res:=Out.res
theorem mR {P:Prog} {f:CFn} {args:List V} {st:St} {ρ:Loc} (c:F8 f args=b6 ρ):P6 P N Φ slf f args st=cSs P.tabs N Φ slf f.body ρ st Kend:=by
 rw [cSs_eq];show c8 (F8 f args) Res.stuck (λρ=>Kend (execs P.tabs N Φ slf f.body ρ st))=_;rw [c];rfl
theorem wa {P:Prog} {N d i:Nat} {f:CFn} {args:List V} {st:St} {ρ:Loc} (h:C7 P.fns i=b6 f) (b:V.flats args=false) (a:F8 f args=b6 ρ) :
  c0 P (N) (d+1) i args st=cSs P.tabs N (c0 P N d) b8 f.body ρ st (cc st.length):=by
 rw [pK h,iN (λc=>by rw [b] at c;cases c),mR a,cSs_eq,cSs_eq];show (Kend _).trim _=_
 cases execs P.tabs N (c0 P N d) b8 f.body ρ st <;> rfl
def sm (l:List V) (n:Nat):Loc:=l.map b6++dW n b8
theorem XY {v:V} {l:List V} {n:Nat}:sm (v :: l) n=b6 v :: sm l n:=rfl
theorem XU {n:Nat}:sm [] (n+1)=b8 :: sm [] n:=rfl
theorem Yv:sm [] 0= []:=rfl
theorem d6 {P:Prog} {N d i:Nat} {args:List V} {st:St} (f:CFn) (n:Nat) (h:(C7 P.fns i,V.flats args,F8 f args)=(b6 f,false,b6 (sm args n))):c0 P (N) (d+1) i args st=cSs P.tabs N (c0 P N d) b8 f.body (sm args n) st (cc st.length):=by
 simp only [Prod.mk.injEq] at h;exact wa h.1 h.2.1 h.2.2
theorem bz {P:Prog} {N d i:Nat} {f:CFn} {args:List V} {st:St} {ρ:Loc} (h:C7 P.fns i=b6 f) (a:V.flats args=true) (c:F8 f args=b6 ρ) :
  c0 P (N) (d+1) i args st=cSs P.tabs N (c0 P N d) b8 f.body ρ [] (sP st):=by
 rw [pK h,iP a,mR c,cSs_eq,cSs_eq];show (Kend _).lay _=_
 cases execs P.tabs N (c0 P N d) b8 f.body ρ [] <;> rfl
theorem DZ {a b:List Nat}:l7 st .eq (.str a) (.str b)=b6 (decide (a=b)):=rfl
theorem VE {a b:Int}:l7 st .lt (.int a) (.int b)=b6 (decide (a < b)):=rfl
theorem Yz {a b:Int}:l7 st .le (.int a) (.int b)=b6 (decide (a≤b)):=rfl
theorem XM {a b:Int}:l7 st .gt (.int a) (.int b)=b6 (decide (a > b)):=rfl
theorem We {a b:Int}:l7 st .ge (.int a) (.int b)=b6 (decide (a≥b)):=rfl
theorem Fn {a b:Int}:l7 st .eq (.int a) (.int b)=b6 (decide (a=b)):=rfl
theorem Ct {a b:List Nat}:l7 st .ne (.str a) (.str b)=b6 (decide (a≠b)):=cG b6 (decide_not ..).symm
theorem Fj {a b:Int}:l7 st .ne (.int a) (.int b)=b6 (decide (a≠b)):=cG b6 (decide_not ..).symm
theorem Tb {a b:Int}:u6 .add (.int a) (.int b) st= .ok (.int (a+b)) st:=rfl
theorem MW {a b:Int}:u6 .sub (.int a) (.int b) st= .ok (.int (a-b)) st:=rfl
theorem QX {a b:Int}:L8 .add (.int a) (.int b) st= .ok (.int (a+b)) st:=rfl
theorem Ve {a b:List Nat}:u6 .add (.str a) (.str b) st=if a.length+b.length≤sizeLim then .ok (.str (a++b)) st else .stuck:=rfl
theorem Yg {a b:List Nat}:L8 .add (.str a) (.str b) st=if a.length+b.length≤sizeLim then .ok (.str (a++b)) st else .stuck:=rfl
theorem Og :l7 st .is .none .none=b6 true:=rfl
theorem yf :l7 st .isnot .none .none=b6 false:=rfl
theorem OB {z:Int}:l7 st .is (.int z) .none=b6 false:=rfl
theorem zF {z:Int}:l7 st .isnot (.int z) .none=b6 true:=rfl
theorem NL {s:List Nat}:l7 st .is (.str s) .none=b6 false:=rfl
theorem yt {s:List Nat}:l7 st .isnot (.str s) .none=b6 true:=rfl
end
section
variable {T:Tabs} {N:Nat} {Φ:d7} {ρ:Loc} {st:St} {slf:Option Nat} {γ:Type} {KO:Out→γ}
def Kre (r:Res):Res:=r
def Kid (o:Out):Out:=o
theorem Md {r:Res}:Kre r=r:=rfl
theorem f0 {o:Out}:Kid o=o:=rfl
theorem iZ {e:CE}:i4 T N Φ e ρ st=cE T N Φ e ρ st Kre:=(l9 e (K:=Kre)).symm
theorem Vi {b:CSs}:execs T N Φ slf b ρ st=cSs T N Φ slf b ρ st Kid:=(cSs_eq b (K:=Kid)).symm
def l8:CS→CE
 | .whl t _=>t
 | _=> .cst .none
def f9:CS→CSs
 | .whl _ b=>b
 | .for _ _ b=>b
 | _=> .nil
def d2:CSs→Nat→CS
 | .nil,_=> .brk
 | .cons s _,0=>s
 | .cons _ r,n+1=>d2 r n
def g8:CSs→Nat→CSs
 | r,0=>r
 | .nil,_=> .nil
 | .cons _ r,n+1=>g8 r n
def Ow (T:Tabs) (N:Nat) (Φ:d7) (slf:Option Nat) (t:CE) (body:CSs) (f:Nat) (K:Out→γ) (o:Out):γ:=match o with
 | .next ρ' st'=>K (F6 T N Φ slf t body f ρ' st')
 | .brk ρ' st'=>K (.next ρ' st')
 | o=>K o
def Kw (T:Tabs) (N:Nat) (Φ:d7) (slf:Option Nat) (t:CE) (body:CSs) (f:Nat) (K:Out→γ) (ρ:Loc) (v:V) (st:St):γ:=
 aa v (cSs T N Φ slf body ρ st (Ow T N Φ slf t body f K)) (K (.next ρ st)) (K .stuck)
theorem V8 {t:CE} {body:CSs} {f:Nat} {R:γ} (h:cE T N Φ t ρ st (i8 (Kw T N Φ slf t body f KO ρ) ρ KO)=R):KO (F6 T N Φ slf t body (f+1) ρ st)=R:=by
 rw [l9,p7 (K:=KO) (f:=λv st=>aa v ((execs T N Φ slf body ρ st).turn λρ' st'=>F6 T N Φ slf t body f ρ' st') (.next ρ st) .stuck) λv st=>?_] at h
 ·exact h
 ·refine sU ?_ rfl rfl;rw [cSs_eq]
  cases execs T N Φ slf body ρ st <;> rfl
theorem RT {t:CE} {body:CSs} {f:Nat} {v:V}:Kw T N Φ slf t body f KO ρ v st=aa v (cSs T N Φ slf body ρ st (Ow T N Φ slf t body f KO)) (KO (.next ρ st)) (KO .stuck):=rfl
theorem nf {t:CE} {body:CSs} {f:Nat}:Ow T N Φ slf t body f KO (.next ρ st)=KO (F6 T N Φ slf t body f ρ st):=rfl
theorem OH {t:CE} {body:CSs} {f:Nat}:Ow T N Φ slf t body f KO (.brk ρ st)=KO (.next ρ st):=rfl
theorem Op {t:CE} {body:CSs} {f:Nat} {v:V}:Ow T N Φ slf t body f KO (.ret v st)=KO (.ret v st):=rfl
theorem OP {t:CE} {body:CSs} {f:Nat} {e:Exc}:Ow T N Φ slf t body f KO (.bad e ρ st)=KO (.bad e ρ st):=rfl
theorem UU {t:CE} {body:CSs} {f:Nat}:Ow T N Φ slf t body f KO .stuck=KO .stuck:=rfl
def kH (T:Tabs) (N:Nat) (Φ:d7) (slf:Option Nat) (t:CT) (body:CSs) (l:List V) (f k:Nat) (ρ:Loc) (st:St):Out:=
 fX (Src.fix l).at (λx ρ st=>c8 (n7 t x ρ) .stuck λρ'=>execs T N Φ slf body ρ' st) f k ρ st
theorem ze {t:CT} {body:CSs} {s:List Nat}:ff T N Φ slf t body ρ (.str s) st=kH T N Φ slf t body (s.map λc=>V.str [c]) N 0 ρ st:=rfl
theorem lw {t:CT} {body:CSs} {l:List V}:ff T N Φ slf t body ρ (.tup l) st=kH T N Φ slf t body l N 0 ρ st:=rfl
def Fl (T:Tabs) (N:Nat) (Φ:d7) (slf:Option Nat) (t:CT) (body:CSs):List V→Loc→St→Out
 | [],ρ,st=> .next ρ st
 | x :: r,ρ,st=>c8 (n7 t x ρ) .stuck λρ'=>(execs T N Φ slf body ρ' st).turn λa st'=>Fl T N Φ slf t body r a st'
theorem D2 {α:Type} {L r:List α} {p:α} {k:Nat} (h:L.drop k=p :: r):L[k]?=b6 p∧L.drop (k+1)=r:=by
 constructor
 ·have:=FR (xs:=L) (i:=k) (j:=0);rw [h] at this;exact this.symm
 ·rw [← List.drop_drop,h];rfl
theorem Y3 {α:Type} {L:List α} {k:Nat} (h:L.drop k= []):L[k]?=none:=KW (List.drop_eq_nil_iff.mp h)
theorem pz {t:CT} {body:CSs} {l:List V}:∀(r:List V) (f k:Nat) (ρ:Loc) (st:St),l.drop k=r→r.length < f→kH T N Φ slf t body l f k ρ st=Fl T N Φ slf t body r ρ st
 | _,0,_,_,_,_,h=>absurd h (P9 _)
 | [],f+1,k,ρ,st,hdL,_=>by
  show c8 l[k]? (Out.next ρ st) _=_;rw [Y3 hdL];rfl
 | x :: r,f+1,k,ρ,st,hdL,h=>by
  show c8 l[k]? (Out.next ρ st) (λx=>(c8 (n7 t x ρ) Out.stuck λρ'=>execs T N Φ slf body ρ' st).turn λρ' st'=>kH T N Φ slf t body l f (k+1) ρ' st')=c8 (n7 t x ρ) Out.stuck λρ'=>(execs T N Φ slf body ρ' st).turn λa st'=>Fl T N Φ slf t body r a st';rw [(D2 hdL).1];show (c8 (n7 t x ρ) Out.stuck λρ'=>execs T N Φ slf body ρ' st).turn _=_;cases n7 t x ρ with
  | none=>rfl
  | some ρ'=>
   show (execs T N Φ slf body ρ' st).turn _=(execs T N Φ slf body ρ' st).turn _;cases execs T N Φ slf body ρ' st with
   | next a st'=>exact pz r f (k+1) a st' (D2 hdL).2 (Z7 h)
   | _=>rfl
theorem R0 {t:CT} {body:CSs} {l:List V} {f:Nat} (h:l.length < f):kH T N Φ slf t body l f 0 ρ st=Fl T N Φ slf t body l ρ st:=pz l f 0 ρ st rfl h
def yQ (T:Tabs) (N:Nat) (Φ:d7) (slf:Option Nat) (t:CT) (body:CSs) (r:List V) (K:Out→γ) (o:Out):γ:=match o with
   | .next a st'=>K (Fl T N Φ slf t body r a st')
   | .brk a st'=>K (.next a st')
   | o=>K o
theorem Oh {t:CT} {body:CSs}:Fl T N Φ slf t body [] ρ st= .next ρ st:=rfl
theorem iX {t:CT} {body:CSs} {x:V} {r:List V} {ρ':Loc} {R:γ} (h:n7 t x ρ=b6 ρ') (c:cSs T N Φ slf body ρ' st (yQ T N Φ slf t body r KO)=R):KO (Fl T N Φ slf t body (x :: r) ρ st)=R:=by
 rw [cSs_eq] at c;subst c;show KO (c8 (n7 t x ρ) Out.stuck _)=_;rw [h];show KO ((execs T N Φ slf body ρ' st).turn _)=_
 cases execs T N Φ slf body ρ' st <;> rfl
theorem dx {t:CT} {body:CSs} {r:List V}:yQ T N Φ slf t body r KO (.next ρ st)=KO (Fl T N Φ slf t body r ρ st):=rfl
theorem Hv {t:CT} {body:CSs} {r:List V}:yQ T N Φ slf t body r KO (.brk ρ st)=KO (.next ρ st):=rfl
theorem GH {t:CT} {body:CSs} {r:List V} {v:V}:yQ T N Φ slf t body r KO (.ret v st)=KO (.ret v st):=rfl
theorem HQ {t:CT} {body:CSs} {r:List V} {e:Exc}:yQ T N Φ slf t body r KO (.bad e ρ st)=KO (.bad e ρ st):=rfl
theorem LQ {t:CT} {body:CSs} {r:List V}:yQ T N Φ slf t body r KO .stuck=KO .stuck:=rfl
theorem af {α:Type} {x y:List α} {m n:Nat} (h1:x.length≤m) (c:y.length≤n):(x++y).length≤m+n:=u3▸dJ h1 c
theorem gO {get:St→Nat→Option (Option V)} {l:List V} {body:V→St→Res} {g:V→List V} (i:∀acc k,get (st++ [AObj.list acc]) k=b6 l[k]?) (c:∀x∈l,∀acc,acc.length < l.length→body x (st++ [AObj.list acc])= .ok .none (st++ [AObj.list (acc++g x)]))
  (hg:∀x,(g x).length≤1):∀(r:List V) (f k:Nat) (acc:List V),l.drop k=r→r.length < f→acc.length≤k→
   cH get body st.length f k (st++ [AObj.list acc])= .ok (.ref st.length) (st++ [.list (acc++r.flatMap g)])
 | _,0,_,_,_,h,_=>absurd h (P9 _)
 | [],f+1,k,acc,hdL,_,_=>by
  show c8 (get (st++ [AObj.list acc]) k) Res.stuck _=_;rw [i,Y3 hdL];exact cG (λa=>Res.ok _ (st++ [AObj.list a])) (P0 acc).symm
 | x :: r,f+1,k,acc,hdL,h,b=>by
  show c8 (get (st++ [AObj.list acc]) k) Res.stuck _=_;have hx:=U6.mp (D2 hdL).1;obtain ⟨O,e⟩:=hx;rw [i,(D2 hdL).1];show (body x (st++ [AObj.list acc])).thenN _=_;rw [c x (e▸dX O) acc (J7 b O)];refine (gO i c hg r f (k+1) (acc++g x) (D2 hdL).2 (Z7 h) (af b (hg x))).trans ?_;rw [List.flatMap_cons,e7]
theorem bK {acc:List V} {v:V} (h:acc.length < sizeLim) (hv:v.flat=true):o8 .append (.ref st.length) [v] (st++ [.list acc])= .ok .none (st++ [.list (acc++ [v])]):=by
 show r6 (st++ [AObj.list acc]) st.length Res.stuck _=_;delta r6;rw [I2 (i0 _),I3];show (if _ then _ else _)=_;rw [iP ⟨h,hv⟩,dY _ _ (i0 _),I3];rfl
theorem fZ {p:V→Bool}:∀{l:List V},l.flatMap (λx=>bif p x then [x] else [])=l.filter p
 | []=>rfl
 | y :: r=>by rw [List.flatMap_cons,fZ,dU];cases p y <;> rfl
theorem lf {e cond:CE} {v:V} {src:Src} {l:List V} {p:V→Bool} (hs:P7 v st=b6 src) (i:∀acc k,src.at (st++ [AObj.list acc]) k=b6 l[k]?) (b:l.length < N) (h:N≤sizeLim)
  (f:∀x∈l,x.flat=true) (d:∀x∈l,∀acc,i4 T N Φ cond (ρ++ [b6 x]) (st++ [.list acc])= .ok (.bool (p x)) (st++ [.list acc]))
  (he:∀x∈l,∀acc,i4 T N Φ e (ρ++ [b6 x]) (st++ [.list acc])= .ok x (st++ [.list acc])) :
  V2 T N Φ e cond ρ v st= .ok (.ref st.length) (st++ [.list (l.filter p)]):=by
 delta V2;rw [hs];refine (gO (g:=λx=>bif p x then [x] else []) i (λx hx acc c=>?_) (λx=>?_) l N 0 [] rfl b (i0 0)).trans ?_
 ·rw [d x hx,Hr];cases p x with
  | true=>
   show (Res.bind _ _)=_;rw [he x hx,Hr,bK (M6 (Ga c b) h) (f x hx)];rfl
  | false=>exact cG (λa=>Res.ok V.none (st++ [AObj.list a])) (P0 acc).symm
 ·cases p x
  ·exact T3 1
  ·exact i0 1
 ·rw [fZ];rfl
theorem eT {g cond:CE} {v:V} {l:List V} {p:V→Bool} (hs:P7 v st=b6 (.fix l)) (a:l.length < N) (h:N≤sizeLim)
  (c:∀x∈l,x.flat=true) (b:∀x∈l,∀acc,i4 T N Φ cond (ρ++ [b6 x]) (st++ [.list acc])= .ok (.bool (p x)) (st++ [.list acc]))
  (he:∀x∈l,∀acc,i4 T N Φ g (ρ++ [b6 x]) (st++ [.list acc])= .ok x (st++ [.list acc])) :
  V2 T N Φ g cond ρ v st= .ok (.ref st.length) (st++ [.list (l.filter p)]):=lf hs (λz z=>rfl) a h c b he
theorem vE {n k:Nat} (h:k < n):X1 n (k:Int)=b6 k:=by
 delta X1;dsimp only;rw [iN (kr.mpr (V3 k)),iP (q7.mpr ⟨decide_eq_true (V3 k),decide_eq_true (P1.mpr h)⟩)];rfl
theorem ET {n:Nat}:X1 (n+1) (-1)=b6 n:=by
 have e:(-1:Int)+((n+1:Nat):Int)=(n:Int):=by omega
 delta X1;dsimp only;rw [iP (show (-1:Int) < 0 by decide),e,iP (q7.mpr ⟨decide_eq_true (V3 n),decide_eq_true (P1.mpr (oC n))⟩)];rfl
theorem D1 {k:List Nat}:∀{l:List (List Nat)},M5 k (l.map V.str)=b6 (decide (k∈l))
 | []=>rfl
 | a :: r=>by
  show (M5 k (r.map V.str)).map (decide (a=k)||·)=_;rw [D1];show b6 _=b6 _
  congr 1
  by_cases h:a=k
  ·simp [h]
  ·have h':¬k=a:=λe=>h e.symm;simp [h,h']
theorem qi {k:List Nat} {l:List V}:nP st (.str k) (.tup l)=M5 k l:=rfl
theorem zo {k:List Nat} {l:List V} {m:List (List Nat)} (h:l=m.map V.str):l7 st .isin (.str k) (.tup l)=b6 (decide (k∈m)):=by
 subst h;show nP _ _ _=_;rw [qi,D1]
theorem dG {k:List Nat} {l:List V} {m:List (List Nat)} (h:l=m.map V.str):l7 st .notin (.str k) (.tup l)=b6 (decide (k∉m)):=by
 subst h;show (nP st (.str k) (.tup (m.map V.str))).map _=_;rw [qi,D1];show b6 _=b6 _
 by_cases h:k∈m <;> simp [h]
theorem TM {k a:List Nat}:l7 st .isin (.str k) (.tup [.str a])=b6 (decide (k∈ [a])):=zo (m:= [a]) rfl
theorem Sn {k a b:List Nat}:l7 st .isin (.str k) (.tup [.str a,.str b])=b6 (decide (k∈ [a,b])):=zo (m:= [a,b]) rfl
theorem UV {k a b c:List Nat}:l7 st .isin (.str k) (.tup [.str a,.str b,.str c])=b6 (decide (k∈ [a,b,c])):=zo (m:= [a,b,c]) rfl
theorem Tw {k a b c d e:List Nat}:l7 st .isin (.str k) (.tup [.str a,.str b,.str c,.str d,.str e])=b6 (decide (k∈ [a,b,c,d,e])):=zo (m:= [a,b,c,d,e]) rfl
theorem UG {k a b c d e f:List Nat}:l7 st .isin (.str k) (.tup [.str a,.str b,.str c,.str d,.str e,.str f])=b6 (decide (k∈ [a,b,c,d,e,f])):=zo (m:= [a,b,c,d,e,f]) rfl
theorem By {k a b:List Nat}:l7 st .notin (.str k) (.tup [.str a,.str b])=b6 (decide (k∉ [a,b])):=dG (m:= [a,b]) rfl
theorem Cp {k a b c:List Nat}:l7 st .notin (.str k) (.tup [.str a,.str b,.str c])=b6 (decide (k∉ [a,b,c])):=dG (m:= [a,b,c]) rfl
theorem Ch {k a b c d:List Nat}:l7 st .notin (.str k) (.tup [.str a,.str b,.str c,.str d])=b6 (decide (k∉ [a,b,c,d])):=dG (m:= [a,b,c,d]) rfl
theorem Cs {k a b c d e:List Nat}:l7 st .notin (.str k) (.tup [.str a,.str b,.str c,.str d,.str e])=b6 (decide (k∉ [a,b,c,d,e])):=dG (m:= [a,b,c,d,e]) rfl
theorem Cc {k:List Nat} {m:List (List Nat)}:l7 st .notin (.str k) (.tup (m.map V.str))=b6 (decide (k∉m)):=dG rfl
theorem RX {k:List Nat} {m:List (List Nat)}:l7 st .isin (.str k) (.tup (m.map V.str))=b6 (decide (k∈m)):=zo rfl
theorem SY {k:Nat} {s:List Nat}:l7 st .isin (.str [k]) (.str s)=b6 (decide (k∈s)):=by
 show b6 (s.contains k)=_;rw [QE]
theorem AO {k:Nat} {s:List Nat}:l7 st .notin (.str [k]) (.str s)=b6 (decide (k∉s)):=by
 show (b6 (s.contains k)).map _=_;rw [QE];show b6 (!decide _)=_;rw [decide_not]
end
section
structure Tok where
 sort:List Nat
 text:List Nat
 row:Int
 col:Int
 deriving DecidableEq
def Tok.v (k:Tok):V:= .tup [.str k.sort,.str k.text,.int k.row,.int k.col]
structure Bx where
 pre:St
 T:List Tok
 t:Nat
 tg:Nat
 ty:Nat
 fld:Nat
 fam:List Nat
 types:List (List Nat×V)
abbrev p8:List Nat:= s!"tokens"
abbrev S4:List Nat:= s!"at"
abbrev B4:List Nat:= s!"tongue"
abbrev J9:List Nat:= s!"known"
abbrev w9:List Nat:= s!"family"
abbrev U7:List Nat:= s!"table"
abbrev Q3:List Nat:= s!"fields"
abbrev bJ:List Nat:= s!"types"
structure Bx.Ok (x:Bx):Prop where
 toks:x.pre[x.t]?=b6 (.list (x.T.map Tok.v))
 tongue:x.pre[x.tg]?=b6 (.ns [(Q3,.ref x.fld),(bJ,.ref x.ty)])
 types:x.pre[x.ty]?=b6 (.dict x.types)
 pos:0 < x.T.length
 small:x.T.length≤250
 txt:∀k∈x.T,k.text.length≤100
 asc:∀k∈x.T,∀c∈k.text,c < 128
 srt:∀k∈x.T,∀c∈k.sort,c < 128
 wne:∀k∈x.T,k.sort= s!"word"→k.text≠ []
 ends:∀k∈x.T,k.sort= s!"end"→k.text= [59]∨k.text= [10]
 total:(x.T.map λk=>k.text.length).sum≤250
 last:∀k,x.T[x.T.length-1]?=b6 k→k.sort= s!"eof"
def Bx.k (x:Bx):Nat:=x.pre.length
def Bx.res (x:Bx) (a:Nat):AObj:= .ns [(p8,.ref x.t),(S4,.int (a:Int)),(B4,.inst 599 x.tg),(J9,.ref (x.k+1)),(w9,.str x.fam),(U7,.str [])]
def Bx.bes (x:Bx) (b:Nat):AObj:= .dict [(p8,.ref x.t),(S4,.int (b:Int)),(w9,.str x.fam)]
def S (x:Bx) (a b:Nat) (ext:St):St:=x.pre++x.res a :: .dict [] :: x.bes b :: ext
variable {x:Bx} {a b n:Nat} {ext:St}
theorem P2:(S x a b ext).length=x.k+3+ext.length:=by
 rw [S,u3,A2,G3 3];rfl
theorem kP {i:Nat} {o:AObj} (h:x.pre[i]?=b6 o):(S x a b ext)[i]?=b6 o:=
 (cg (U6.mp h).1).trans h
theorem ja {l r:St} {i:Nat}:(l++r)[l.length+i]?=r[i]?:=by
 rw [I2 (A7 ..),dR]
theorem aq {l r:St} {i:Nat} {o:AObj}:(l++r).set (l.length+i) o=l++r.set i o:=by
 rw [dY _ _ (A7 ..),dR]
theorem BS:(S x a b ext)[x.k]?=b6 (x.res a):=ja (i:=0)
theorem wG:(S x a b ext)[x.k+2]?=b6 (x.bes b):=ja (i:=2)
theorem Ki {i:Nat}:(S x a b ext)[x.k+3+i]?=ext[i]?:=by
 rw [A2,G3 3];exact ja (i:=i+3)
theorem cP {l:St}:S x a b ext++l=S x a b (ext++l):=e7 ..
theorem zn {a':Nat}:(S x a b ext).set x.k (x.res a')=S x a' b ext:=aq (i:=0)
theorem yZ {b':Nat}:(S x a b ext).set (x.k+2) (x.bes b')=S x a b' ext:=aq (i:=2)
theorem lP {i:Nat} {o:AObj}:(S x a b ext).set (x.k+3+i) o=S x a b (ext.set i o):=by
 rw [A2,G3 3];exact aq (i:=i+3)
theorem n9 {a' b':Nat} {l:St}:(S x a b (ext++l)).take (S x a' b' ext).length=S x a b ext:=by
 rw [← cP,P2,← P2 (x:=x) (a:=a) (b:=b),rX]
theorem U2 {a' b':Nat} {l l2:St}:(S x a b (ext++l++l2)).take (S x a' b' ext).length=S x a b ext:=by rw [e7,n9]
theorem Gq {a' b':Nat} {l l2 l3:St}:(S x a b (ext++l++l2++l3)).take (S x a' b' ext).length=S x a b ext:=by rw [e7,e7,n9]
theorem T9 {a' b':Nat}:(S x a b ext).take (S x a' b' ext).length=S x a b ext:=by
 rw [P2,← P2 (x:=x) (a:=a) (b:=b),ma]
def now (x:Bx) (a:Nat):Tok:=(x.T[min a (x.T.length-1)]?).getD ⟨[],[],0,0⟩
theorem mm {nm:List Nat} {v:V} (h:(280,nm)∈b7.tabs.attrs) (c:look? [(p8,.ref x.t),(S4,.int (a:Int)),(B4,.inst 599 x.tg),(J9,.ref (x.k+1)),(w9,.str x.fam),(U7,.str [])] nm=b6 v) :
  getAttr b7.tabs nm (.inst 280 x.k) (S x a b ext)= .ok v (S x a b ext):=by
 show (if (280,nm)∈b7.tabs.attrs then nU (S x a b ext) x.k Res.stuck _ else .stuck)=_;rw [iP h,be BS];show jW (look? _ nm) _=_;rw [c];rfl
theorem Sa:getAttr b7.tabs s!"at" (.inst 280 x.k) (S x a b ext)= .ok (.int (a:Int)) (S x a b ext):=mm (by decide) rfl
theorem zi:getAttr b7.tabs s!"tokens" (.inst 280 x.k) (S x a b ext)= .ok (.ref x.t) (S x a b ext):=mm (by decide) rfl
theorem yI:getAttr b7.tabs s!"family" (.inst 280 x.k) (S x a b ext)= .ok (.str x.fam) (S x a b ext):=mm (by decide) rfl
theorem zr:getAttr b7.tabs s!"tongue" (.inst 280 x.k) (S x a b ext)= .ok (.inst 599 x.tg) (S x a b ext):=mm (by decide) rfl
theorem KD {a':Nat}:Internal.setAttr b7.tabs b8 s!"at" (.inst 280 x.k) (.int (a':Int)) (S x a b ext)=b6 (S x a' b ext):=by
 show (if (280,s!"at")∈b7.tabs.attrs then nU (S x a b ext) x.k b8 _ else b8)=_;rw [iP (by decide),be BS];show (if _ then b6 ((S x a b ext).set x.k (x.res a')) else b8)=_;rw [iP ⟨.inl rfl,(by show 6 < 1000;decide)⟩,zn]
theorem cW {nm:List Nat} {m:Nat} (h:look? [(p8,V.ref x.t),(S4,.int (a:Int)),(B4,.inst 599 x.tg),(J9,.ref (x.k+1)),(w9,.str x.fam),(U7,.str [])] nm=b8)
  (h':aK b7.tabs.meths nm 280=b6 m):Y4 b7.tabs nm (.inst 280 x.k) (S x a b ext)=b6 m:=by
 refine (be BS).trans ?_;show (match look? _ nm with
   | some _=>b8
   | none=>aK b7.tabs.meths nm 280)=_
 rw [h];exact h'
theorem oI (hx:x.Ok):A1 .len [.ref x.t] (S x a b ext)= .ok (.int (x.T.length:Int)) (S x a b ext):=by
 refine (i7 (kP hx.toks)).trans ?_;show (if (x.T.map Tok.v).length≤sizeLim then _ else _)=_;rw [u7,iP (d3 hx.small (by decide))]
theorem U0 {i:Nat} (h:i < 1000000):S7 (i:Int)=true:=Nat.ble_eq_true_of_le h
theorem ol (hx:x.Ok) {i:Nat} (hi:i < x.T.length):s8 (.ref x.t) (.int (i:Int)) (S x a b ext)= .ok (now x i).v (S x a b ext):=by
 refine (AE (kP hx.toks)).trans ?_;show (if _ then jW (x.T.map Tok.v)[(i:Int).toNat]? _ else .stuck)=_;rw [iP (U0 (M6 hi (d3 hx.small (by decide)))),jR,br,bt hi];delta now;rw [gi (Lg hi),bt hi];rfl
end
section
abbrev sWord:List Nat:= s!"word"
abbrev sSign:List Nat:= s!"sign"
abbrev jZ:List Nat:= s!"end"
abbrev sEof:List Nat:= s!"eof"
abbrev sStr:List Nat:= s!"string"
abbrev rd (x:Bx):V:= .inst 280 x.k
abbrev bk (x:Bx):V:= .ref (x.k+2)
inductive PR (α:Type) where
 | ok (v:α) (a:Nat)
 | bad (e:Exc) (a:Nat)
 | stuck
def PR.bind {α β:Type} (r:PR α) (f:α→Nat→PR β):PR β:=match r with
 | .ok v a=>f v a
 | .bad e a=> .bad e a
 | .stuck=> .stuck
def PR.res {α:Type} (g:α→V) (s:Nat→St) (r:PR α):Res:=match r with
 | .ok v a=> .ok (g v) (s a)
 | .bad e a=> .bad e (s a)
 | .stuck=> .stuck
section
variable {T:Tabs} {N:Nat} {Φ:d7} {ρ:Loc} {st:St} {slf:Option Nat} {α β:Type} {a:Nat} {e:Exc} {g:α→V} {s:Nat→St}
theorem Ny {v:α}:(PR.ok v a).res g s= .ok (g v) (s a):=rfl
theorem Hl:(PR.bad e a:PR α).res g s= .bad e (s a):=rfl
theorem yY:(PR.stuck:PR α).res g s= .stuck:=rfl
theorem fY {v:α} {f:α→Nat→PR β}:(PR.ok v a).bind f=f v a:=rfl
theorem MT {f:α→Nat→PR β}:(PR.bad e a).bind f= .bad e a:=rfl
theorem Bb {f:α→Nat→PR β}:(PR.stuck).bind f= .stuck:=rfl
theorem lm {c:Prop} [Decidable c] {r a:PR α} {f:α→Nat→PR β}:(if c then r else a).bind f=if c then r.bind f else a.bind f:=by split <;> rfl
end
theorem jf {α β c:Type} {r:PR α} {f:α→Nat→PR β} {g:β→Nat→PR c}:(r.bind f).bind g=r.bind λv a=>(f v a).bind g:=by cases r <;> rfl
theorem RL {x:Bx} {a b a' b':Nat} {ext:St} {e:Exc}:Res.bad e ((S x a b ext).take (S x a' b' ext).length)= .bad e (S x a b ext):=cG (Res.bad _) T9
section
variable {α β γ:Type} {r:PR α} {gv:α→V} {s:Nat→St} {k:Res→γ} {F:α→Nat→PR β} {Q:PR β→γ}
theorem d5 (h:∀v a,r= .ok v a→k (.ok (gv v) (s a))=Q (F v a)) (c:∀e a,k (.bad e (s a))=Q (.bad e a):=by intros;exact RL) (hs:k .stuck=Q .stuck:=by rfl):k (r.res gv s)=Q (r.bind F):=by
 cases r with
 | ok v a=>exact h v a rfl
 | bad e a=>exact c e a
 | stuck=>exact hs
theorem G9 {Q:PR α→γ} (h:∀v a,r= .ok v a→k (.ok (gv v) (s a))=Q (.ok v a)) (c:∀e a,k (.bad e (s a))=Q (.bad e a):=by intros;exact RL) (hs:k .stuck=Q .stuck:=by rfl):k (r.res gv s)=Q r:=by
 cases r with
 | ok v a=>exact h v a rfl
 | bad e a=>exact c e a
 | stuck=>exact hs
theorem s9 {p:Prop} [Decidable p] {A B:γ} {r a:PR β} (h:p→A=Q r) (h':¬p→B=Q a):(if p then A else B)=Q (if p then r else a):=by
 by_cases c:p
 ·rw [iP c,iP c];exact h c
 ·rw [iN c,iN c];exact h' c
theorem R6 {p q:Prop} [Decidable p] [Decidable q] {A B:γ}:(if p then if q then A else B else B)=if p∧q then A else B:=by
 by_cases c:p
 ·by_cases e:q
  ·rw [iP c,iP e,iP ⟨c,e⟩]
  ·rw [iP c,iN e,iN (λh=>e h.2)]
 ·rw [iN c,iN (λh=>c h.1)]
theorem cX {p q:Prop} [Decidable p] [Decidable q] {A B:γ}:(if p then A else if q then A else B)=if p∨q then A else B:=by
 by_cases c:p
 ·rw [iP c,iP (.inl c)]
 ·by_cases e:q
  ·rw [iN c,iP e,iP (.inr e)]
  ·rw [iN c,iN e,iN (λh=>h.elim c e)]
theorem N3 {p:Prop} [Decidable p] {A B:γ} {r a:PR β} (h:p→A=Q r) (h':¬p→B=Q a):(if ¬p then B else A)=Q (if p then r else a):=by
 by_cases c:p
 ·rw [iN (λn=>n c),iP c];exact h c
 ·rw [iP c,iN c];exact h' c
theorem J3 {p q:Prop} [Decidable p]:¬(p∧q)↔(¬p∨¬q):=Decidable.not_and_iff_not_or_not
theorem t7 {p q:Prop} [Decidable p] [Decidable q] {A B:γ} (h:p↔q):(if p then A else B)=if q then A else B:=by
 by_cases c:q
 ·rw [iP (h.mpr c),iP c]
 ·rw [iN (λe=>c (h.mp e)),iN c]
theorem Ol {p q:Prop} [Decidable p] [Decidable q] {A B:γ} {r c:PR β} (h:p∧q→A=Q r) (h':¬(p∧q)→B=Q c):(if p then if q then A else B else B)=Q (if p∧q then r else c):=R6.trans (s9 h h')
end
theorem lB {n:Nat} (h:0 < n):(n:Int)-1=((n-1:Nat):Int):=by omega
variable {x:Bx} {a b n N d:Nat} {ext l l':St} {st:St} {t w s:List Nat} {k:Tok} {Φ:d7} {args:CEs} {ρ:Loc}
abbrev K0 (x:Bx) (a:Nat) (s t:List Nat):Prop:=(now x a).sort=s∧(now x a).text=t
def ni (k:Tok):List Nat:=if k.sort= s!"eof" then s!"end of file" else if k.sort= s!"end" then (if k.text= [10] then s!"newline" else [59]) else [39]++k.text++ [39]
def p5 (x:Bx) (a:Nat) (w:List Nat):Exc:=⟨s!"syntax error, unexpected "++ni (now x a)++ s!", expecting "++w,(now x a).row,(now x a).col⟩
def J1 (x:Bx) (a:Nat) (why:List Nat):Exc:=⟨why,(now x a).row,(now x a).col⟩
theorem vD (hx:x.Ok):x.T.length-1 < x.T.length:=Nat.sub_lt hx.pos Nat.one_pos
theorem mY (hx:x.Ok):x.T[min a (x.T.length-1)]?=b6 (now x a):=by
 have h:min a (x.T.length-1) < x.T.length:=J7 (wZ ..) (vD hx);rw [now,bt h];rfl
theorem E7 (hx:x.Ok):now x a∈x.T:=xq (mY hx)
theorem t4 (hx:x.Ok):(now x a).text.length≤100:=hx.txt _ (E7 hx)
theorem vV (hx:x.Ok) (h:x.T.length≤a+1):(now x a).sort= s!"eof":=
 hx.last _ (by have:=mY (a:=a) hx;rwa [Gf (rV h)] at this)
theorem w6 (hx:x.Ok) (h:(now x a).sort≠ s!"eof"):a+1 < x.T.length:=by
 by_cases b:x.T.length≤a+1
 ·exact absurd (vV hx b) h
 ·omega
theorem e8 {a b:List Nat} {m n:Nat} (h:a.length≤m) (c:b.length≤n):(a++b).length≤m+n:=u3▸dJ h c
theorem e9 {a b:List Nat} {m n:Nat} (c:a.length≤m) (d:b.length≤n) (h:m+n≤sizeLim:=by decide):u6 .add (.str a) (.str b) st= .ok (.str (a++b)) st:=iP (d3 (dJ c d) h)
theorem Hy {a b:List Nat} {m n:Nat} (c:a.length≤m) (d:b.length≤n) (h:m+n≤sizeLim:=by decide):L8 .add (.str a) (.str b) st= .ok (.str (a++b)) st:=iP (d3 (dJ c d) h)
theorem bn {n:Nat} (h:n≤100000):n≤sizeLim:=d3 h (by decide)
theorem rt (hx:x.Ok):(ni (now x a)).length≤102:=by
 delta ni
 split
 ·decide
 ·split
  ·split <;> decide
  ·exact e8 (e8 (a:= [39]) (m:=1) (by decide) (t4 hx)) (n:=1) (by decide)
theorem Xd:s8 k.v (.int 0) st= .ok (.str k.sort) st:=rfl
theorem Ys:s8 k.v (.int 1) st= .ok (.str k.text) st:=rfl
theorem XT:s8 k.v (.int 2) st= .ok (.int k.row) st:=rfl
theorem WG:s8 k.v (.int 3) st= .ok (.int k.col) st:=rfl
theorem Hx:I9 k.v .none (.int 2) .none st= .ok (.tup [.str k.sort,.str k.text]) st:=rfl
theorem Aw:k.v.flat=true:=(rfl)
section
variable {T:Tabs} {c:Nat} {γ:Type} {K:Res→γ} {KO:Out→γ}
theorem Mv:gr b7.tabs N Φ s!"look" args ρ K (.inst 280 x.k) (S x a b ext)=cEs b7.tabs N Φ args ρ (S x a b ext) (w8 (ew Φ 221 (.inst 280 x.k) K) K):=nw (cW rfl rfl)
theorem Mg:gr b7.tabs N Φ s!"take" args ρ K (.inst 280 x.k) (S x a b ext)=cEs b7.tabs N Φ args ρ (S x a b ext) (w8 (ew Φ 228 (.inst 280 x.k) K) K):=nw (cW rfl rfl)
theorem Bt:gr b7.tabs N Φ s!"is_sign" args ρ K (.inst 280 x.k) (S x a b ext)=cEs b7.tabs N Φ args ρ (S x a b ext) (w8 (ew Φ 235 (.inst 280 x.k) K) K):=nw (cW rfl rfl)
theorem Ep:gr b7.tabs N Φ s!"is_word" args ρ K (.inst 280 x.k) (S x a b ext)=cEs b7.tabs N Φ args ρ (S x a b ext) (w8 (ew Φ 242 (.inst 280 x.k) K) K):=nw (cW rfl rfl)
theorem td:gr b7.tabs N Φ s!"skip_sign" args ρ K (.inst 280 x.k) (S x a b ext)=cEs b7.tabs N Φ args ρ (S x a b ext) (w8 (ew Φ 249 (.inst 280 x.k) K) K):=nw (cW rfl rfl)
theorem su:gr b7.tabs N Φ s!"want_sign" args ρ K (.inst 280 x.k) (S x a b ext)=cEs b7.tabs N Φ args ρ (S x a b ext) (w8 (ew Φ 256 (.inst 280 x.k) K) K):=nw (cW rfl rfl)
theorem uD:gr b7.tabs N Φ s!"want_word" args ρ K (.inst 280 x.k) (S x a b ext)=cEs b7.tabs N Φ args ρ (S x a b ext) (w8 (ew Φ 263 (.inst 280 x.k) K) K):=nw (cW rfl rfl)
theorem sY:gr b7.tabs N Φ s!"skip_rows" args ρ K (.inst 280 x.k) (S x a b ext)=cEs b7.tabs N Φ args ρ (S x a b ext) (w8 (ew Φ 270 (.inst 280 x.k) K) K):=nw (cW rfl rfl)
theorem GR:gr b7.tabs N Φ s!"fault" args ρ K (.inst 280 x.k) (S x a b ext)=cEs b7.tabs N Φ args ρ (S x a b ext) (w8 (ew Φ 277 (.inst 280 x.k) K) K):=nw (cW rfl rfl)
theorem SA:CB b7.tabs b8 s!"at" ρ KO (.inst 280 x.k) (.int ((a:Int)+1)) (S x a b ext)=KO (.next ρ (S x (a+1) b ext)):=Rj (KD (a':=a+1))
theorem NX {a':Nat}:Fu b7.tabs b8 s!"at" ρ KO (.int (a':Int)) (.inst 280 x.k) (S x a b ext)=KO (.next ρ (S x a' b ext)):=bA KD
theorem Wb:s8 (.ref (x.k+2)) (.str s!"at") (S x a b ext)= .ok (.int (b:Int)) (S x a b ext):=by
 exact (G4 wG).trans rfl
theorem Ex:s8 (.ref (x.k+2)) (.str s!"tokens") (S x a b ext)= .ok (.ref x.t) (S x a b ext):=by
 exact (G4 wG).trans rfl
theorem pM:s8 (.ref (x.k+2)) (.str s!"family") (S x a b ext)= .ok (.str x.fam) (S x a b ext):=by
 exact (G4 wG).trans rfl
theorem Fw {b':Nat}:Internal.setSub (.ref (x.k+2)) (.str s!"at") (.int (b':Int)) (S x a b ext)=b6 (S x a b' ext):=by
 refine (G4 wG).trans ?_;show (if _ then b6 ((S x a b ext).set (x.k+2) (x.bes b')) else b8)=_;rw [iP ⟨(by show 3 < 1000;decide),rfl⟩,yZ]
theorem Ru:yb ρ KO (.ref (x.k+2)) (.str s!"at") (.int ((b:Int)+1)) (S x a b ext)=KO (.next ρ (S x a (b+1) ext)):=Kz (Fw (b':=b+1))
theorem sr:yb ρ KO (.ref (x.k+2)) (.str s!"at") (.int ((b:Int)+0)) (S x a b ext)=KO (.next ρ (S x a b ext)):=Kz (Fw (b':=b))
theorem Vm {b':Nat}:gz ρ KO (.int (b':Int)) (.ref (x.k+2)) (.str s!"at") (S x a b ext)=KO (.next ρ (S x a b' ext)):=kE Fw
theorem Pm {r c:Int}:c0 b7 N (d+2) 71 [.str w,.int r,.int c] st= .mk ⟨w,r,c⟩ st:=rfl
end

theorem Ce (h:x.T.length≤a) (hp:0 < x.T.length):now x (x.T.length-1)=now x a:=by
 delta now;rw [Nat.min_self,Gf (d3 (vc ..) h)]
theorem vM (hx:x.Ok) {as:List V} {j:Int} {a':Nat} (i:V.flats as=false) (g:F8 GL as=b6 [b6 (rd x),b6 (.int j),b8,b8]) (e:(a:Int)+j=(a':Int)):c0 b7 (N+1) (d+1) 221 as (S x a b ext)= .ok (now x a').v (S x a b ext):=by
 rw [wa (f:=GL) rfl i g];wp_walk using GL,e,oI hx;have hp:=hx.pos;by_cases h:x.T.length≤a'
 ·rw [iP (fx.mpr h),lB hp];wp_walk using ol hx (Nat.sub_lt hp Nat.one_pos),Ce h hp
 ·rw [iN (λc=>h (fx.mp c))];wp_walk using ol hx (Nat.lt_of_not_le h)
theorem A0 (hx:x.Ok):c0 b7 (N+1) (d+1) 221 [rd x] (S x a b ext)= .ok (now x a).v (S x a b ext):=vM hx rfl rfl (QJ _)
theorem gH (hx:x.Ok):c0 b7 (N+1) (d+1) 221 [rd x,.int 1] (S x a b ext)= .ok (now x (a+1)).v (S x a b ext):=vM hx rfl rfl rfl
theorem s4 (hx:x.Ok):c0 b7 (N+1) (d+2) 228 [rd x] (S x a b ext)= .ok (now x a).v (S x (a+1) b ext):=by
 rw [d6 PH 1 rfl];wp_walk using PH,A0 hx
theorem KE {p q:Prop} [Decidable p] [Decidable q] {k:Res→Res}:(if p then k (.ok (.bool (decide q)) st) else k (.ok (.bool false) st))=k (.ok (.bool (decide (p∧q))) st):=by
 by_cases h:p
 ·rw [iP h];exact cG (λc=>k (.ok (.bool c) st)) (decide_eq_decide.mpr ⟨λc=>⟨h,c⟩,λc=>c.2⟩)
 ·rw [iN h,decide_eq_false (λc:p∧q=>h c.1)]
theorem dy (hx:x.Ok):c0 b7 (N+1) (d+2) 235 [rd x,.str t] (S x a b ext)= .ok (.bool (decide (K0 x a sSign t))) (S x a b ext):=by
 rw [d6 Nb 1 rfl];wp_walk using Nb,A0 hx;exact KE (k:=id)
theorem R4 (hx:x.Ok):c0 b7 (N+1) (d+2) 242 [rd x,.str t] (S x a b ext)= .ok (.bool (decide (K0 x a sWord t))) (S x a b ext):=by
 rw [d6 LZ 1 rfl];wp_walk using LZ,A0 hx;exact KE (k:=id)
theorem M1 (hx:x.Ok):c0 b7 (N+1) (d+3) 249 [rd x,.str t] (S x a b ext)=if K0 x a sSign t then .ok (.bool true) (S x (a+1) b ext) else .ok (.bool false) (S x a b ext):=by
 rw [d6 MB 0 rfl];wp_walk using MB,dy hx,ite_not
theorem Xx (hx:x.Ok):c0 b7 (N+1) (d+1) 192 [(now x a).v] st= .ok (.str (ni (now x a))) st:=by
 rw [bz (f:=PZ) (ρ:= [b6 ((now x a).v)]) rfl rfl rfl];wp_walk using PZ,e9 (a:= [39]) (m:=1) (by decide) (t4 hx),e9 (e8 (a:= [39]) (m:=1) (by decide) (t4 hx)) (b:= [39]) (n:=1) (by decide);delta ni
 split
 ·rfl
 ·split
  ·split <;> rfl
  ·rfl
theorem TL (hx:x.Ok) (h:w.length≤10000):c0 b7 (N+1) (d+3) 199 [(now x a).v,.str w] st= .mk (p5 x a w) st:=by
 rw [bz (f:=LK) (ρ:= [b6 ((now x a).v),b6 (.str w),b8,b8,b8]) rfl rfl rfl];have h1:=rt (a:=a) hx;have c:=e8 (a:= s!"syntax error, unexpected ") (m:=25) (by decide) h1;have o:=e8 c (b:= s!", expecting ") (n:=12) (by decide);wp_walk using LK,Xx hx,e9 (a:= s!"syntax error, unexpected ") (m:=25) (by decide) h1,e9 c (b:= s!", expecting ") (n:=12) (by decide),e9 o h;rfl
theorem k6 (hx:x.Ok) (h:w.length≤10000):c0 b7 (N+1) (d+4) 291 [rd x,.str w] (S x a b ext)= .mk (p5 x a w) (S x a b ext):=by
 rw [d6 Qp 1 rfl];wp_walk using Qp,A0 hx,TL hx h
theorem T6 (hx:x.Ok):c0 b7 (N+1) (d+3) 277 [rd x,.str w] (S x a b ext)= .mk (J1 x a w) (S x a b ext):=by
 rw [d6 LR 2 rfl];wp_walk using LR,A0 hx;rfl
end
section
variable {x:Bx} {a b n N d:Nat} {ext l l':St} {st:St} {t w s:List Nat} {k:Tok} {Φ:d7} {args:CEs} {ρ:Loc} {α:Type}
def PR.out (r:PR α) (k:α→Nat→Out) (c:Exc→Nat→Out):Out:=match r with
 | .ok v a=>k v a
 | .bad e a=>c e a
 | .stuck=> .stuck
abbrev P4:Unit→V:=λz=> .none
abbrev natV:Nat→V:=λn=> .int (n:Int)
theorem AY:Q5 .lower (.str s) st=true:=rfl
theorem vL:Q5 .find (.str s) st=true:=rfl
theorem iD:Q5 .split (.str s) st=true:=rfl
theorem Cz:Q5 .strip (.str s) st=true:=rfl
theorem gN:Q5 .join (.str s) st=true:=rfl
theorem Ft:Q5 .index (.str s) st=true:=rfl
theorem vX {c:Nat}:o8 .find (.str s) [.str [c]] st= .ok (.int (match A8 c s with | some i=>(i:Int) | none=> -1)) st:=rfl
theorem Fa {c:Nat} (h:c < 128):o8 .lower (.str [c]) [] st= .ok (.str [iR c]) st:=by
 show (if _ then Res.ok (.str ([c].map iR)) st else .stuck)=_;rw [iP ⟨by simp [h],(by show 1≤100000;decide)⟩];rfl
theorem aV {j:Nat} (h:s.length≤1000):I9 (.str s) .none (.int (j:Int)) .none st= .ok (.str (s.take j)) st:=by
 show (if s.length≤sizeLim then (match b6 0,(if 0≤(j:Int) then b6 (min j s.length) else b8) with
  | some a,b6 b=>Res.ok (.str (E9 a b s)) st
  | _,_=> .stuck) else .stuck)=_
 rw [iP (d3 h (by decide)),iP (V3 j)];show Res.ok (.str ((s.take (min j s.length)).drop 0)) st=_;rw [List.drop_zero,← List.take_take,ma]
theorem aW {j:Nat} (h:s.length≤1000):I9 (.str s) (.int (j:Int)) .none .none st= .ok (.str (s.drop j)) st:=by
 show (if s.length≤sizeLim then (match (if 0≤(j:Int) then b6 (min j s.length) else b8),b6 s.length with
  | some a,b6 b=>Res.ok (.str (E9 a b s)) st
  | _,_=> .stuck) else .stuck)=_
 rw [iP (d3 h (by decide)),iP (V3 j)];show Res.ok (.str ((s.take s.length).drop (min j s.length))) st=_;rw [ma];by_cases c:j≤s.length
 ·rw [gi c]
 ·rw [Gf (Nat.le_of_not_le c),List.drop_length,Ge (Nat.le_of_not_le c)]
theorem pk (h:s.length≤1000):I9 (.str s) .none (.int 2) .none st= .ok (.str (s.take 2)) st:=aV (j:=2) h
theorem iA (h:s.length≤1000):I9 (.str s) .none (.int 1) .none st= .ok (.str (s.take 1)) st:=aV (j:=1) h
theorem rg (h:s.length≤1000):I9 (.str s) (.int 2) .none .none st= .ok (.str (s.drop 2)) st:=aW (j:=2) h
theorem ck (h:s.length≤1000):I9 (.str s) (.int 1) .none .none st= .ok (.str (s.drop 1)) st:=aW (j:=1) h
def based (b:Nat) (t:List Nat):Option Nat:=if t= [] then b8 else j7 b 0 t
def num (t:List Nat):Option Nat:=if t.take 2= s!"0x" then based 16 (t.drop 2) else based 10 t
def y8:Option Nat→V
 | some n=> .int (n:Int)
 | none=> .none
theorem sS:∀c < 128,A8 (iR c) s!"0123456789abcdef"=E2 c:=by decide
theorem uJ {B:Nat} (hB:B≤16):∀{t:List Nat} {acc m j:Nat},acc < 16 ^ j→j7 B acc t=b6 m→m < 16 ^ (j+t.length)
 | [],acc,m,j,h,e=>by
  rw [j7] at e;cases e;exact h
 | c :: r,acc,m,j,h,e=>by
  rw [Nl] at e;cases hdL:E2 c with
  | none=>rw [hdL] at e;cases e
  | some d=>
   rw [hdL] at e;dsimp only at e
   split at e
   ·rename_i a;have:=uJ (j:=j+1) hB (by rw [Nat.pow_succ];have:acc*B≤acc*16:=FB _ hB;omega) e;rw [G2,show j+(r.length+1)=j+1+r.length by omega];exact this
   ·cases e
set_option exponentiation.threshold 2000 in
theorem aH {m j:Nat} (h:m < 16 ^ j) (a:j≤400):m < intLim:=by
 refine M6 h ?_;delta intLim;rw [show (16:Nat)=2 ^ 4 from rfl,← Nat.pow_mul];exact Nat.pow_le_pow_right (by decide) (by omega)
theorem vg {i j:Int} (hi:i.natAbs < intLim) (a:j.natAbs < intLim):u6 .mul (.int i) (.int j) st= .ok (.int (i*j)) st:=by
 show (if _ then _ else _)=_;rw [iP (decide_eq_true ⟨hi,a⟩)]
theorem jd {B:Nat} (hB:B≤16) {K:Out→Res} {t0:List Nat} (O:∀(n:Nat) o3 o4,K (.next [b6 (.str t0),b6 (.int (B:Int)),b6 (.int (n:Int)),o3,o4] [])= .ok (y8 (b6 n)) st) (k:K (.ret .none [])= .ok .none st):∀{t:List Nat} {acc j:Nat} {o3 o4:Option V},acc < 16 ^ j→j+t.length≤400→(∀c∈t,c < 128)→
  K (Fl b7.tabs (N+1) Φ b8 (.name 3) (f9 (d2 DE.body 2)) (t.map λc=>V.str [c]) [b6 (.str t0),b6 (.int (B:Int)),b6 (.int (acc:Int)),o3,o4] [])= .ok (y8 (j7 B acc t)) st
 | [],acc,j,o3,o4,h,g,e=>O ..
 | c :: r,acc,j,o3,o4,h,g,e=>by
  have i:j+1+r.length≤400:=by rw [Ai];exact g
  have b:(acc:Int).natAbs < intLim:=aH (j:=j) h (d3 (A7 ..) g);have f:(B:Int).natAbs < intLim:=aH (j:=2) (J7 hB (by decide)) (by decide);refine iX (ρ':= [b6 (.str t0),b6 (.int (B:Int)),b6 (.int (acc:Int)),b6 (.str [c]),o4]) rfl ?_;wp_walk using DE,d2,f9,AY,vL,vX,Fa (e c (D6 ..)),vg b f;rw [sS c (e c (D6 ..))];show _=Res.ok (y8 (match E2 c with
   | some d=>if d < B then j7 B (acc*B+d) r else b8
   | none=>b8)) st
  cases hdL:E2 c with
  | none=>exact (iP (by decide)).trans k
  | some v=>
   refine (iN (kr.mpr (V3 v))).trans ?_;by_cases a:v < B
   ·refine (iN (λc=>Nat.not_le.mpr a (fx.mp c))).trans ?_;rw [show (y8 (match b6 v with
   | some d=>if d < B then j7 B (acc*B+d) r else b8
   | none=>b8))=y8 (j7 B (acc*B+v) r) from cG y8 (iP a)]
    exact jd hB O k (acc:=acc*B+v) (by
     rw [Nat.pow_succ];have:=FB acc hB;omega) i (λy l=>e y (F1 _ l))
   ·refine (iP (fx.mpr (kt a))).trans (k.trans ?_);show _=Res.ok (y8 (if v < B then j7 B (acc*B+v) r else b8)) st;rw [iN a];rfl
theorem lj {B:Nat} (e:299≤N) (hB:B≤16) (a:1≤B) (i:t.length≤250) (b:∀c∈t,c < 128):c0 b7 (N+1) (d+1) 129 [.str t,.int (B:Int)] st= .ok (y8 (based B t)) st:=by
 rw [bz (f:=DE) (ρ:= [b6 (.str t),b6 (.int (B:Int)),b8,b8,b8]) rfl rfl rfl];wp_walk using DE;by_cases h:t= []
 ·rw [based,iP h,iP h];rfl
 ·rw [based,iN h,iN h,R0 (by rw [u7];omega)]
  refine jd hB (λn o3 o4=>?_) ?_ (acc:=0) (j:=0) (by decide) (by omega) b <;> rfl
theorem cw (b:299≤N) (i:t.length≤250) (e:∀c∈t,c < 128):c0 b7 (N+1) (d+2) 136 [.str t] st= .ok (y8 (num t)) st:=by
 rw [bz (f:=OM) (ρ:= [b6 (.str t),b8]) rfl rfl rfl];have a:∀st:St,c0 b7 (N+1) (d+1) 129 [.str t,.int 10] st= .ok (y8 (based 10 t)) st:=λst=>lj (B:=10) b (by decide) (by decide) i e;have k:∀st:St,c0 b7 (N+1) (d+1) 129 [.str (t.drop 2),.int 16] st= .ok (y8 (based 16 (t.drop 2))) st:=λst=>lj (B:=16) b (by decide) (by decide) (by rw [oD];omega) (λc hm=>e c (wW hm));wp_walk using OM,pk (by omega:t.length≤1000),rg (by omega:t.length≤1000),a,k;delta num;by_cases h:t.take 2= s!"0x"
 ·simp only [iP h]
  cases based 16 (t.drop 2) <;> rfl
 ·simp only [iN h]
  cases based 10 t <;> rfl
theorem eE {D:Nat}:∀{F:List V},(∀v∈F,v.data D=true)→V.datas D F=true
 | [],_=>by rw [V.datas]
 | v :: r,h=>by
  rw [V.datas,h v (D6 ..),eE (λu a=>h u (F1 _ a))];rfl
theorem r9 {D:Nat} (h:∀c∈s,c < 128):(V.str s).data D=true:=by
 cases D <;> (delta V.data;rw [aO];intro c a;have:=h c a;exact decide_eq_true (by omega))
theorem oj {i j:Nat} {F:List V} (hi:st[i]?=b6 (.list F)) (a:st[j]?=b6 (.list [])) (hF:V.datas 20 F=true):l7 st .ne (.ref i) (.ref j)=b6 (decide (F≠ [])):=by
 show (r6 st i b8 _).map (λb=> !b)=_;rw [i7 hi,i7 a];rw [hF];cases F with
 | nil=>rfl
 | cons v r=>rfl
def Q4 (B:Nat):List Nat:=if B=16 then s!"0123456789abcdefABCDEF" else s!"0123456789"
theorem HZ:∀c < 128,decide (c∈Q4 16)=(match E2 c with | some d=>decide (d < 16) | none=>false):=by decide
theorem Im:∀c < 128,decide (c∈Q4 10)=(match E2 c with | some d=>decide (d < 10) | none=>false):=by decide
theorem U9 {B:Nat} (hB:∀c < 128,decide (c∈Q4 B)=(match E2 c with | some d=>decide (d < B) | none=>false)) :
  ∀{t:List Nat} {acc:Nat},(∀c∈t,c < 128)→(j7 B acc t).isSome=decide (t.filter (λc=>decide (c∉Q4 B))= [])
 | [],acc,h=>by rw [j7];rfl
 | c :: r,acc,h=>by
  have a:=hB c (h c (D6 ..));rw [Nl,dU];cases hdL:E2 c with
  | none=>
   rw [hdL] at a;rw [decide_eq_false_iff_not] at a;simp [a]
  | some v=>
   rw [hdL] at a;dsimp only at a ⊢;by_cases hv:v < B
   ·rw [iP hv,U9 hB (λy b=>h y (F1 _ b))];rw [decide_eq_true hv,decide_eq_true_iff] at a;simp [a]
   ·rw [iN hv];rw [decide_eq_false hv,decide_eq_false_iff_not] at a;simp [a]
def JP (a:List Nat):V→Bool
 | .str [c]=>decide (c∉a)
 | _=>false
theorem dF {a:List Nat}:∀{t:List Nat},(t.map λc=>V.str [c]).filter (JP a)=(t.filter λc=>decide (c∉a)).map λc=>V.str [c]
 | []=>rfl
 | c :: r=>by
  rw [Q0,dU,dF,dU];show (if (decide (c∉a))=true then _ else _)=_
  split <;> rfl
theorem fO (h:∀c∈t,c < 128) {D:Nat}:V.datas D (t.map λc=>V.str [c])=true:=
 eE λv hv=>by
  obtain ⟨c,a,rfl⟩:=O1.mp hv;exact r9 λy b=>by
   rw [U5.mp b];exact h c a
theorem tZ {B:Nat} {t0:V} {o:Option V} (b:299≤N) (h:N≤1000) (i:t.length≤250) (hB:B=16∨B=10) :
  V2 b7.tabs (N+1) Φ (.loc 4) (.cmp1 .notin (.loc 4) (.slice (.cst (.str s!"0123456789abcdefABCDEF")) (.cst .none) (.ite (.cmp1 .eq (.loc 2) (.cst (.int 16))) (.bin .add (.loc 2) (.cst (.int 6))) (.cst (.int 10))) (.cst .none)))
   [b6 t0,b6 (.str t),b6 (.int (B:Int)),o] (.str t) st= .ok (.ref st.length) (st++ [.list ((t.filter λc=>decide (c∉Q4 B)).map λc=>V.str [c])]):=by
 rw [eT (p:=JP (Q4 B)) (l:=t.map λc=>V.str [c]) rfl (by rw [u7];omega) (bn (by omega)),dF]
 ·intro v hv;obtain ⟨c,a,rfl⟩:=O1.mp hv;rfl
 ·intro v hv acc;obtain ⟨c,a,rfl⟩:=O1.mp hv;rw [iZ];rcases hB with rfl | rfl
  ·wp_walk using C5,H1;rw [iP (by decide)];wp_walk using show ((16:Nat):Int)+6=((22:Nat):Int) from rfl,aV (s:= s!"0123456789abcdefABCDEF") (by decide)
   rfl
  ·wp_walk using C5,H1;rw [iN (by decide)];wp_walk using show (10:Int)=((10:Nat):Int) from rfl,aV (s:= s!"0123456789abcdefABCDEF") (by decide)
   rfl
 ·intro v hv acc;rw [iZ];wp_walk using C5,H1
theorem AX {B:Nat} (hB:B=16∨B=10) (i:t.length≤250) (d:t≠ []):A1 .int [.str t,.int (B:Int)] st=(match j7 B 0 t with | some n=> .ok (.int n) st | none=> .stuck):=by
 have go:∀{B:Nat},jY B t st=(match j7 B 0 t with | some n=> .ok (.int n) st | none=> .stuck):=(iP ⟨by omega,d⟩).trans (by cases j7 _ 0 t <;> rfl);rcases hB with rfl | rfl
 ·show (if ((16:Nat):Int)=10 then jY 10 t st else if ((16:Nat):Int)=16 then jY 16 t st else .stuck)=_;rw [iN (by decide),iP (by decide)];exact go
 ·show (if ((10:Nat):Int)=10 then jY 10 t st else if ((10:Nat):Int)=16 then jY 16 t st else .stuck)=_;rw [iP (by decide)];exact go
theorem gU {B:Nat} {t0:V} {o:Option V} (f:299≤N) (d:N≤1000) (i:t.length≤250) (hB:B=16∨B=10) (e:∀c∈t,c < 128) :
  cSs b7.tabs (N+1) Φ b8 (g8 ms.body 1) [b6 t0,b6 (.str t),b6 (.int (B:Int)),o] [] (sP st)= .ok (y8 (based B t)) st:=by
 wp_walk using ms,d2,g8,tZ (t0:=t0) (o:=o) (Φ:=Φ) f d i hB;delta based;by_cases h:t= []
 ·rw [iP h,iP h];rfl
 ·rw [iN h,iN h];have a:(j7 B 0 t).isSome=decide (t.filter (λc=>decide (c∉Q4 B))= []):=by
   rcases hB with rfl | rfl
   ·exact U9 HZ e
   ·exact U9 Im e
  rw [oj (F:=(t.filter λc=>decide (c∉Q4 B)).map λc=>V.str [c]) rfl rfl (fO λc hm=>e c ((xB.mp hm).1))];wp_walk using AX hB i h;by_cases b:t.filter (λc=>decide (c∉Q4 B))= []
  ·rw [iN (λc=>c (by rw [b];rfl))];rw [b] at a;cases hv:j7 B 0 t with
   | none=>rw [hv] at a;cases a
   | some m=>rfl
  ·rw [iP (λc=>b (rU.mp c))];rw [decide_eq_false b] at a;cases hv:j7 B 0 t with
   | none=>rfl
   | some m=>rw [hv] at a;cases a
theorem W6 (b:299≤N) (a:N≤1000) (i:t.length≤250) (e:∀c∈t,c < 128):c0 b7 (N+1) (d+1) 795 [.str t] st= .ok (y8 (num t)) st:=by
 rw [bz (f:=ms) (ρ:= [b6 (.str t),b8,b8,b8]) rfl rfl rfl];rw [show ms.body= .cons (d2 ms.body 0) (g8 ms.body 1) from rfl];generalize hT:g8 ms.body 1=K;rw [i9];wp_walk using ms,d2,pk (by omega:t.length≤1000),rg (by omega:t.length≤1000);delta num;subst hT;by_cases h:t.take 2= s!"0x"
 ·rw [iP h,iP h];exact gU (B:=16) b a (by rw [oD];omega) (.inl rfl) (λc hm=>e c (wW hm))
 ·rw [iN h,iN h];exact gU (B:=10) b a i (.inr rfl) e
def bx (x:Bx) (t:List Nat) (a:Nat):PR Unit:=if K0 x a sSign t then .ok () (a+1) else .bad (p5 x a ([39]++t++ [39])) a
def Z5 (x:Bx) (t:List Nat) (a:Nat):PR Unit:=if K0 x a sWord t then .ok () (a+1) else .bad (p5 x a t) a
def u4 (x:Bx) (l:List (List Nat)) (why:List Nat) (a:Nat):PR (List Nat):=if (now x a).sort=sWord∧(now x a).text∈l then .ok (now x a).text (a+1) else .bad (J1 x a why) a
def fP (x:Bx) (a:Nat):PR (List Nat):=if (now x a).sort=sWord∨(now x a).sort=sStr then .ok (now x a).text (a+1) else .bad (p5 x a s!"string") a
def skip (x:Bx):Nat→Nat→PR Unit
 | 0,_=> .stuck
 | f+1,a=>if (now x a).sort=jZ then skip x f (a+1) else .ok () a
def V5 (x:Bx):Nat→Nat→PR Unit
 | 0,_=> .stuck
 | f+1,a=>if (now x a).sort=jZ∧(now x a).text= [10] then V5 x f (a+1) else .ok () a
theorem UZ {f:Nat}:V5 x (f+1) a=if (now x a).sort=jZ∧(now x a).text= [10] then V5 x f (a+1) else .ok () a:=rfl
def V1 (x:Bx) (f a:Nat):PR Unit:=if ((now x a).sort=jZ∨(now x a).sort=sEof)∨K0 x a sSign [125] then skip x f a else .bad (p5 x a s!"newline or semicolon") a
def lO (x:Bx) (f a:Nat):PR Unit:=(bx x [123] a).bind λz a=>skip x f a
def bw (x:Bx) (a:Nat) (t:List Nat) (top:Int):Exc:=J1 x a (s!"Value "++t++ s!" exceeds valid range 0-"++p6 top)
def T8 (x:Bx) (a:Nat):PR Nat:=if (now x a).sort=sWord then (match num (now x a).text with
 | some n=> .ok n (a+1)
 | none=> .bad (p5 x a s!"number") a) else .bad (p5 x a s!"number") a
def K2 (x:Bx) (top a:Nat):PR Nat:=if (now x a).sort=sWord then (match num (now x a).text with
 | some n=>if top < n then .bad (bw x a (now x a).text top) a else .ok n (a+1)
 | none=> .bad (p5 x a s!"number") a) else .bad (p5 x a s!"number") a
abbrev pS (x:Bx) (b:Nat) (ext:St):Nat→St:=λa'=>S x a' b ext
abbrev lS (x:Bx) (a:Nat) (ext:St):Nat→St:=λb'=>S x a b' ext
theorem Au {s:List Nat}:s∈ [s!"end",s!"eof"]↔s=jZ∨s=sEof:=by rw [x8,U5]
theorem RO {s:List Nat}:s∈ [s!"string",s!"word"]↔s=sWord∨s=sStr:=by rw [x8,U5,or_comm]
theorem S3 (hx:x.Ok) (i:t.length≤1000):c0 b7 (N+1) (d+5) 256 [rd x,.str t] (S x a b ext)=(bx x t a).res P4 (pS x b ext):=by
 rw [d6 Mz 1 rfl];wp_walk using Mz,M1 hx;refine s9 (λh=>?_) λh=>?_
 ·wp_walk using f0
 ·have h1:=e8 (a:= [39]) (m:=1) (by decide) i;wp_walk using e9 (a:= [39]) (m:=1) (by decide) i,e9 h1 (b:= [39]) (n:=1) (by decide),k6 hx (d3 (e8 h1 (b:= [39]) (n:=1) (by decide)) (by decide))
theorem E0 (hx:x.Ok) (i:t.length≤1000):c0 b7 (N+1) (d+5) 305 [rd x,.str t] (S x a b ext)=(Z5 x t a).res P4 (pS x b ext):=by
 rw [d6 Qq 1 rfl];wp_walk using Qq,R4 hx,k6 hx (w:=t) (d3 i (by decide)),s4 hx
 refine N3 (λh=>?_) λh=>?_ <;> rfl
theorem tU (hx:x.Ok):c0 b7 (N+1) (d+5) 263 [rd x] (S x a b ext)=if (now x a).sort=sWord then .ok (.str (now x a).text) (S x (a+1) b ext) else .bad (p5 x a s!"string") (S x a b ext):=by
 rw [d6 Qx 1 rfl];wp_walk using Qx,A0 hx,k6 hx (w:= s!"string") (by decide),s4 hx,ne_eq,ite_not
theorem Bj (hx:x.Ok):c0 b7 (N+1) (d+5) 326 [rd x] (S x a b ext)=(fP x a).res V.str (pS x b ext):=by
 rw [d6 Nw 1 rfl];wp_walk using Nw,A0 hx,k6 hx (w:= s!"string") (by decide),s4 hx,RO
 refine N3 (λh=>?_) λh=>?_ <;> rfl
section
variable {γ:Type} {K:Out→γ} {Q:PR Unit→γ}
theorem fV (hx:x.Ok) (O:∀a,K (.next [b6 (rd x)] (S x a b ext))=Q (.ok () a)) (hs:K .stuck=Q .stuck):∀f a,K (F6 b7.tabs (N+1) (c0 b7 (N+1) (d+3)) b8 (l8 (d2 zx.body 0)) (f9 (d2 zx.body 0)) f [b6 (rd x)] (S x a b ext))=Q (skip x f a)
 | 0,_=>hs
 | f+1,a=>by
  refine V8 ?_;wp_walk using zx,d2,l8,f9,A0 hx,s4 hx;exact s9 (λz=>fV hx O hs f (a+1)) λz=>O a
theorem cF (hx:x.Ok) (O:∀a,K (.next [b6 (rd x)] (S x a b ext))=Q (.ok () a)) (hs:K .stuck=Q .stuck):∀f a,K (F6 b7.tabs (N+1) (c0 b7 (N+1) (d+3)) b8 (l8 (d2 zu.body 0)) (f9 (d2 zu.body 0)) f [b6 (rd x)] (S x a b ext))=Q (V5 x f a)
 | 0,_=>hs
 | f+1,a=>by
  refine V8 ?_;wp_walk using zu,d2,l8,f9,A0 hx,s4 hx;exact Ol (λz=>cF hx O hs f (a+1)) λz=>O a
end
theorem sw (hx:x.Ok):c0 b7 (N+1) (d+4) 453 [rd x] (S x a b ext)=(skip x (N+1) a).res P4 (pS x b ext):=by
 rw [d6 zx 0 rfl];wp_walk using zx;exact fV hx (Q:=PR.res P4 (pS x b ext)) (λz=>cG (Res.ok _) T9) rfl ..
theorem mx (hx:x.Ok):c0 b7 (N+1) (d+4) 270 [rd x] (S x a b ext)=(V5 x (N+1) a).res P4 (pS x b ext):=by
 rw [d6 zu 0 rfl];wp_walk using zu;exact cF hx (Q:=PR.res P4 (pS x b ext)) (λz=>cG (Res.ok _) T9) rfl ..
theorem bg (hx:x.Ok):c0 b7 (N+1) (d+5) 460 [rd x] (S x a b ext)=(V1 x (N+1) a).res P4 (pS x b ext):=by
 rw [d6 Qv 2 rfl];wp_walk using Qv,A0 hx,dy hx,k6 hx (w:= s!"newline or semicolon") (by decide),sw hx,Au;rw [ite_not,ite_not,cX];exact s9 (λz=>by refine G9 λz z z=>?_;wp_walk using f0) λz=>rfl
theorem ui (hx:x.Ok):c0 b7 (N+1) (d+6) 467 [rd x] (S x a b ext)=(lO x (N+1) a).res P4 (pS x b ext):=by
 rw [d6 QB 1 rfl];wp_walk using QB,S3 hx (t:= [123]) (by decide);refine d5 λu a' c=>?_;wp_walk using sw hx;refine G9 λz z z=>?_;wp_walk using f0
theorem jw (hx:x.Ok) {vs:List V} {m:List (List Nat)} (hv:vs=m.map V.str):c0 b7 (N+1) (d+2) 474 [rd x,.tup vs] (S x a b ext)= .ok (.str (if (now x a).sort=sWord∧(now x a).text∈m then (now x a).text else [])) (S x a b ext):=by
 subst hv;rw [d6 Lp 1 rfl];wp_walk using Lp,A0 hx;rw [R6]
 split <;> rfl
theorem kI (hx:x.Ok) {vs:List V} {m:List (List Nat)} (hv:vs=m.map V.str) (hm:[]∉m):c0 b7 (N+1) (d+4) 481 [rd x,.tup vs,.str w] (S x a b ext)=(u4 x m w a).res V.str (pS x b ext):=by
 rw [d6 Ls 2 rfl];wp_walk using Ls,jw hx hv,T6 hx,s4 hx;by_cases h:(now x a).sort=sWord∧(now x a).text∈m
 ·rw [u4,iP h,iP h,iN (λc:(now x a).text= []=>hm (c▸h.2))];rfl
 ·rw [u4,iN h,iN h,iP rfl];rfl
theorem mC (hx:x.Ok) {i:Int} (c:t.length≤1000) (hi:i.natAbs < intLim) (h:(p6 i).length≤1000):c0 b7 (N+1) (d+4) 312 [rd x,.str t,.int i] (S x a b ext)= .mk (bw x a t i) (S x a b ext):=by
 rw [d6 Ot 0 rfl];have h1:∀st,uF (.str t) st= .ok (.str t) st:=λst=>iP (d3 c (by decide));have e:∀st,uF (.int i) st= .ok (.str (p6 i)) st:=λst=>iP hi;have o:∀st,kF (.ok [.str s!"Value ",.str t,.str s!" exceeds valid range 0-",.str (p6 i)] st)= .ok (.str (s!"Value "++t++ s!" exceeds valid range 0-"++p6 i)) st:=λst=>by
  refine (iP ?_).trans (cG (λs=>Res.ok (.str s) st) ?_)
  ·show 6+(t.length+(23+((p6 i).length+0)))≤sizeLim;exact d3 (X3 (dJ c (X3 h 23)) 6) (by decide)
  ·simp only [v8,e7,H1]
 wp_walk using Ot,h1,e,o,T6 hx;rfl
theorem v7 (hx:x.Ok):∀c∈(now x a).text,c < 128:=hx.asc _ (E7 hx)
theorem fE {a' b':Nat} {o:AObj}:(S x a b (ext++o :: l))[(S x a' b' ext).length]?=b6 o:=by
 rw [P2,Ki];exact ja (i:=0)
theorem kS {a' b':Nat} {es:List (List Nat×V)}:Q5 .get (.ref (S x a' b' ext).length) (S x a b (ext++ .dict es :: l))=true:=G4 fE
theorem eO {a' b':Nat} {es:List (List Nat×V)} {v:V}:o8 .get (.ref (S x a' b' ext).length) [.str t,v] (S x a b (ext++AObj.dict es :: l))= .ok ((look? es t).getD v) (S x a b (ext++AObj.dict es :: l)):=G4 fE
theorem qm (hx:x.Ok) (h:299≤N):c0 b7 (N+1) (d+4) 136 [.str (now x a).text] st= .ok (y8 (num (now x a).text)) st:=cw h (d3 (t4 hx) (by decide)) (v7 hx)
theorem yx (hx:x.Ok) (c:299≤N):c0 b7 (N+1) (d+5) 298 [rd x] (S x a b ext)=(T8 x a).res natV (pS x b ext):=by
 rw [d6 Mr 4 rfl];wp_walk using Mr,A0 hx,k6 hx (w:= s!"number") (by decide),s4 hx,qm hx c;refine s9 (λh=>?_) λh=>rfl;cases num (now x a).text with
 | none=>wp_walk using y8,k6 hx (w:= s!"number") (by decide)
 | some m=>wp_walk using y8,s4 hx
theorem aG (hx:x.Ok) (f:299≤N) {top:Nat} {i:Int} (hi:i=(top:Int)) (c:top < intLim) (e:(p6 top).length≤1000):c0 b7 (N+1) (d+6) 319 [rd x,.int i] (S x a b ext)=(K2 x top a).res natV (pS x b ext):=by
 subst hi;rw [d6 MS 5 rfl];have g:∀b ext,c0 b7 (N+1) (d+5) 298 [rd x] (S x a b ext)=(T8 x a).res natV (pS x b ext):=λz z=>yx hx f;delta T8 at g;wp_walk using MS,A0 hx,qm hx f;delta K2;by_cases h:(now x a).sort=sWord
 ·rw [iP h,iP h];simp only [iP h] at g;cases hm:num (now x a).text with
  | none=>rw [hm] at g;wp_walk using y8,g
  | some m=>
   rw [hm] at g;wp_walk using y8,g,mC hx (t:=(now x a).text) (i:=(top:Int)) (d3 (t4 hx) (by decide)) c e;wp_walk using gt_iff_lt,P1;exact s9 (λz=>rfl) λz=>rfl
 ·rw [iN h,iN h];simp only [iN h] at g;wp_walk using g
theorem CH {i j:Nat}:(if (j:Int) < (i:Int) then (j:Int) else (i:Int))=((min i j:Nat):Int):=by split <;> omega
theorem F4 (hx:x.Ok):c0 b7 (N+1) (d+1) 727 [bk x] (S x a b ext)= .ok (now x b).v (S x a b ext):=by
 rw [d6 ML 2 rfl];have hm:∀{i:Nat} st,A1 .min [.int (b:Int),.int (i:Int)] st= .ok (.int ((min b i:Nat):Int)) st:=λst=>cG (λi=>Res.ok (.int i) st) CH;wp_walk using ML,oI hx,lB hx.pos,hm,ol hx (i:=min b (x.T.length-1)) (J7 (wZ ..) (vD hx));rw [now,Nat.min_assoc,Nat.min_self];rfl
theorem M8 (hx:x.Ok):c0 b7 (N+1) (d+3) 734 [bk x,.str w] (S x a b ext)= .mk (J1 x b w) (S x a b ext):=by
 rw [d6 PG 2 rfl];wp_walk using PG,F4 hx;rfl
theorem ym {k:Tok}:(look? [(s!"eof",V.str s!"end of file"),(s!"end",V.str (if k.text= [10] then s!"newline" else [59]))] k.sort).getD (.str (([39]++k.text)++ [39]))= .str (ni k):=by
 show (if s!"eof"=k.sort then b6 (V.str s!"end of file") else if s!"end"=k.sort then b6 (V.str (if k.text= [10] then s!"newline" else [59])) else b8).getD _=_;delta ni;by_cases h1:k.sort= s!"eof"
 ·rw [iP h1.symm,iP h1];rfl
 ·rw [iN (λc=>h1 c.symm),iN h1];by_cases h:k.sort= s!"end"
  ·rw [iP h.symm,iP h];rfl
  ·rw [iN (λc=>h c.symm),iN h];rfl
theorem r8 (hx:x.Ok) (f:w.length≤10000):c0 b7 (N+1) (d+4) 741 [bk x,.str w] (S x a b ext)= .mk (p5 x b w) (S x a b ext):=by
 rw [d6 Ly 5 rfl];have e:=e8 (a:= [39]) (m:=1) (by decide) (t4 (a:=b) hx);have h1:=rt (a:=b) hx;have c:=e8 (a:= s!"syntax error, unexpected ") (m:=25) (by decide) h1;have o:=e8 c (b:= s!", expecting ") (n:=12) (by decide);have i:=ym (k:=now x b);wp_walk using Ly,F4 hx
 split
 all_goals
  rename_i h
  first | rw [iP h] at i | rw [iN h] at i
  wp_walk using show ∀v w st,E6 [.str s!"eof",v,.str s!"end",w] st= .ok (.ref st.length) (st++ [.dict [(s!"eof",v),(s!"end",w)]]) from λz z z=>rfl,kS,e9 (a:= [39]) (m:=1) (by decide) (t4 (a:=b) hx),e9 e (b:= [39]) (n:=1) (by decide),eO,i,e9 (a:= s!"syntax error, unexpected ") (m:=25) (by decide) h1,e9 c (b:= s!", expecting ") (n:=12) (by decide),e9 o f,M8 hx
  rfl
abbrev asc (t:List Nat):Prop:=∀c∈t,c < 128
theorem zI {u v:List Nat} (h1:asc s) (c:asc t) (o:asc u) (b:asc v):l7 st .eq (.tup [.str s,.str t]) (.tup [.str u,.str v])=b6 (decide (s=u∧t=v)):=by
 have hdL:∀{p q:List Nat},asc p→asc q→V.data 20 (.tup [.str p,.str q])=true:=λhp m=>by
  show ((V.str _).data 19&&((V.str _).data 19&&true))=true;rw [r9 hp,r9 m];rfl
 show (if (V.data 20 (.tup [.str s,.str t])&&V.data 20 (.tup [.str u,.str v]))=true then b6 (decide (s=u)&&(decide (t=v)&&true)) else b8)=_;rw [hdL h1 c,hdL o b];show b6 (decide (s=u)&&(decide (t=v)&&true))=_;rw [Bool.and_true,Bool.decide_and]
theorem Z9 (hx:x.Ok) (hs:asc s) (i:asc t):c0 b7 (N+1) (d+2) 748 [bk x,.str s,.str t] (S x a b ext)= .ok (.bool (decide (K0 x b s t))) (S x a b ext):=by
 rw [d6 MC 1 rfl];wp_walk using MC,F4 hx,zI (hx.srt _ (E7 hx)) (v7 hx) hs i
theorem Q6 (hx:x.Ok) (h:(now x b).sort≠sEof):c0 b7 (N+1) (d+1) 755 [bk x] (S x a b ext)= .ok (.str (now x b).text) (S x a (b+1) ext):=by
 rw [d6 Mj 0 rfl];wp_walk using Mj,show ((b+1:Nat):Int)-1=(b:Int) from Int.add_sub_cancel (b:Int) 1,ol hx (i:=b) (me (w6 hx h))
theorem G8:asc sSign:=by decide
theorem G5:asc sWord:=by decide
theorem dm (hx:x.Ok) (i:t.length≤1000) (c:asc t):c0 b7 (N+1) (d+5) 762 [bk x,.str sSign,.str t] (S x a b ext)=(bx x t b).res P4 (lS x a ext):=by
 rw [d6 Br 2 rfl];have h1:=e8 (a:= [39]) (m:=1) (by decide) i;wp_walk using Br,Z9 hx G8 c,if_true,e9 (a:= [39]) (m:=1) (by decide) i,e9 h1 (b:= [39]) (n:=1) (by decide),r8 hx (d3 (e8 h1 (b:= [39]) (n:=1) (by decide)) (by decide))
 refine N3 (λh=>?_) λh=>?_ <;> rfl
theorem N1 (hx:x.Ok) (i:t.length≤1000) (c:asc t):c0 b7 (N+1) (d+5) 762 [bk x,.str sWord,.str t] (S x a b ext)=(Z5 x t b).res P4 (lS x a ext):=by
 rw [d6 Br 2 rfl];wp_walk using Br,Z9 hx G5 c,iN (show ¬(sWord=sSign) by decide),r8 hx (w:=t) (d3 i (by decide))
 refine N3 (λh=>?_) λh=>?_ <;> rfl
theorem D9 (h:(now x b).sort=sWord):(now x b).sort≠sEof:=by rw [h];decide
theorem rK (hx:x.Ok) {vs:List V} {m:List (List Nat)} (hv:vs=m.map V.str):c0 b7 (N+1) (d+4) 769 [bk x,.tup vs,.str w] (S x a b ext)=(u4 x m w b).res V.str (lS x a ext):=by
 subst hv;rw [d6 Fv 3 rfl];wp_walk using Fv,F4 hx,M8 hx,cX,(J3).symm;refine N3 (λh=>?_) λh=>rfl;wp_walk using Q6 hx (D9 h.1)
theorem th {s:List Nat}:s∈ [s!"word",s!"string"]↔s=sWord∨s=sStr:=by rw [x8,U5]
theorem Av (hx:x.Ok):c0 b7 (N+1) (d+5) 776 [bk x] (S x a b ext)=(fP x b).res V.str (lS x a ext):=by
 rw [d6 Lk 3 rfl];wp_walk using Lk,F4 hx,r8 hx (w:= s!"string") (by decide),th;refine N3 (λh=>?_) λh=>rfl;wp_walk using Q6 hx (by rcases h with h | h <;> rw [h] <;> decide)
theorem pP (hx:x.Ok) (h:(now x b).sort=jZ):(now x b).text= [59]∨(now x b).text= [10]:=hx.ends _ (E7 hx) h
section
variable {γ:Type} {K:Out→γ} {Q:PR Unit→γ}
theorem fK (hx:x.Ok) (O:∀b,K (.next [b6 (bk x),b6 (.str [59,10]),b8] (S x a b ext))=Q (.ok () b)) (hs:K .stuck=Q .stuck):∀f b,K (F6 b7.tabs (N+1) (c0 b7 (N+1) (d+2)) b8 (l8 (d2 je.body 0)) (f9 (d2 je.body 0)) f [b6 (bk x),b6 (.str [59,10]),b8] (S x a b ext))=Q (skip x f b)
 | 0,_=>hs
 | f+1,b=>by
  refine V8 ?_;wp_walk using je,d2,l8,f9,F4 hx;refine s9 (λh=>?_) λz=>O b;rcases pP hx h with h2 | h2
  all_goals
   wp_walk using h2;exact (iP (by decide)).trans (fK hx O hs f (b+1))
theorem dw (hx:x.Ok) (O:∀b,K (.next [b6 (bk x),b6 (.str [10]),b8] (S x a b ext))=Q (.ok () b)) (hs:K .stuck=Q .stuck):∀f b,K (F6 b7.tabs (N+1) (c0 b7 (N+1) (d+2)) b8 (l8 (d2 je.body 0)) (f9 (d2 je.body 0)) f [b6 (bk x),b6 (.str [10]),b8] (S x a b ext))=Q (V5 x f b)
 | 0,_=>hs
 | f+1,b=>by
  refine V8 ?_;wp_walk using je,d2,l8,f9,F4 hx;rw [UZ];by_cases h:(now x b).sort=jZ
  ·rw [iP h];rcases pP hx h with h2 | h2
   ·wp_walk using h2;rw [iN (by decide),iN (λc=>absurd c.2 (by decide))];exact O b
   ·wp_walk using h2;rw [iP (by decide),iP ⟨h,trivial⟩];exact dw hx O hs f (b+1)
  ·rw [iN h,iN (λc=>h c.1)];exact O b
end
theorem sy (hx:x.Ok):c0 b7 (N+1) (d+3) 783 [bk x,.str [59,10]] (S x a b ext)=(skip x (N+1) b).res P4 (lS x a ext):=by
 rw [d6 je 1 rfl];wp_walk using je;exact fK hx (Q:=PR.res P4 (lS x a ext)) (λz=>cG (Res.ok _) T9) rfl ..
theorem mO (hx:x.Ok):c0 b7 (N+1) (d+3) 783 [bk x,.str [10]] (S x a b ext)=(V5 x (N+1) b).res P4 (lS x a ext):=by
 rw [d6 je 1 rfl];wp_walk using je;exact dw hx (Q:=PR.res P4 (lS x a ext)) (λz=>cG (Res.ok _) T9) rfl ..
theorem aX:asc [125]:=by decide
theorem dC (hx:x.Ok):c0 b7 (N+1) (d+5) 790 [bk x] (S x a b ext)=(V1 x (N+1) b).res P4 (lS x a ext):=by
 rw [d6 OG 4 rfl];wp_walk using OG,F4 hx,Z9 hx G8 aX,r8 hx (w:= s!"newline or semicolon") (by decide),sy hx,Au;rw [ite_not,ite_not,cX];exact s9 (λz=>by refine G9 λz z z=>?_;wp_walk using f0) λz=>rfl
theorem wI (hx:x.Ok) {v:V} {i:Int} (j:V.flats [bk x,v,.int i]=false) (hv:∀st,A1 .str [v] st= .ok (.str t) st) (c:t.length≤1000) (hi:i.natAbs < intLim) (h:(p6 i).length≤1000):c0 b7 (N+1) (d+4) 802 [bk x,v,.int i] (S x a b ext)= .mk (bw x b t i) (S x a b ext):=by
 rw [wa (f:=PJ) (ρ:= [b6 (bk x),b6 v,b6 (.int i),b8,b8]) rfl j rfl];have e:∀st,A1 .str [.int i] st= .ok (.str (p6 i)) st:=λst=>iP hi;have o:=e8 (a:= s!"Value ") (m:=6) (by decide) c;have g:=e8 o (b:= s!" exceeds valid range 0-") (n:=23) (by decide);wp_walk using PJ,hv,e,e9 (a:= s!"Value ") (m:=6) (by decide) c,e9 o (b:= s!" exceeds valid range 0-") (n:=23) (by decide),e9 g h,M8 hx;rfl
theorem uO (hx:x.Ok) {i:Int} (c:t.length≤1000) (hi:i.natAbs < intLim) (h:(p6 i).length≤1000):c0 b7 (N+1) (d+4) 802 [bk x,.str t,.int i] (S x a b ext)= .mk (bw x b t i) (S x a b ext):=wI hx rfl (λz=>rfl) c hi h
theorem iQ (hx:x.Ok) (a:299≤N) (h:N≤1000):c0 b7 (N+1) (d+5) 795 [.str (now x b).text] st= .ok (y8 (num (now x b).text)) st:=W6 a h (d3 (t4 hx) (by decide)) (v7 hx)
theorem dI (hx:x.Ok) (j:299≤N) (e:N≤1000) {top:Nat} {i:Int} (hi:i=(top:Int)) (g:0 < top) (c:top < intLim) (f:(p6 top).length≤1000):c0 b7 (N+1) (d+6) 809 [bk x,.int i] (S x a b ext)=(K2 x top b).res natV (lS x a ext):=by
 subst hi;rw [d6 Eb 5 rfl];wp_walk using Eb,F4 hx,iQ hx j e,r8 hx (w:= s!"number") (by decide);refine s9 (λh=>?_) λh=>rfl;cases num (now x b).text with
 | none=>wp_walk using y8,r8 hx (w:= s!"number") (by decide)
 | some m=>
  wp_walk using y8,F4 hx,uO hx (t:=(now x b).text) (i:=(top:Int)) (d3 (t4 hx) (by decide)) c f,iP (show (top:Int) > 0 from P1.mpr g),gt_iff_lt,P1;exact s9 (λz=>rfl) λz=>rfl
theorem yN (hx:x.Ok) (e:299≤N) (c:N≤1000):c0 b7 (N+1) (d+6) 809 [bk x,.int 0] (S x a b ext)=(T8 x b).res natV (lS x a ext):=by
 rw [d6 Eb 5 rfl];wp_walk using Eb,F4 hx,iQ hx e c,r8 hx (w:= s!"number") (by decide);refine s9 (λh=>?_) λh=>rfl;cases num (now x b).text with
 | none=>wp_walk using y8,r8 hx (w:= s!"number") (by decide)
 | some m=>wp_walk using y8,iN (show ¬(0:Int) > 0 by decide)
theorem nS (hx:x.Ok):c0 b7 (N+1) (d+6) 844 [bk x] (S x a b ext)=(lO x (N+1) b).res P4 (lS x a ext):=by
 rw [d6 ND 2 rfl];wp_walk using ND,dm hx (t:= [123]) (by decide) (by decide);refine d5 λu b' c=>?_;wp_walk using sy hx;refine G9 λz z z=>?_;wp_walk using f0
theorem Y2 {m j:Nat} (h:m < 10 ^ j) (a:0 < j):(p6 (m:Int)).length≤j:=by
 delta p6 iw;rw [iN (by omega),FE,u7];exact (Nat.length_toDigits_le_iff (by decide) a).mpr h
theorem M7:u6 .pow (.int 2) (.int 64) st= .ok (.int 18446744073709551616) st:=rfl
abbrev E3:Nat:=18446744073709551615
theorem K1:E3 < intLim:=aH (j:=16) (by decide) (by decide)
theorem M9:(p6 ((E3:Nat):Int)).length≤1000:=d3 (Y2 (j:=20) (by decide) (by decide)) (by decide)
theorem jq:4294967295 < intLim:=aH (j:=16) (by decide) (by decide)
theorem eA:(p6 ((4294967295:Nat):Int)).length≤1000:=d3 (Y2 (j:=20) (by decide) (by decide)) (by decide)
def I7 (lim:Bool) (t:List Nat):Nat:=if t= s!"bytes" then 1 else if t= s!"kbytes" then 1024 else if t= s!"mbytes" then 1048576 else if t= s!"gbytes" then (if lim then 0 else 1073741824) else 0
theorem oF {L:List V} {j:Nat} (h:st[j]?=b6 (.list L)):l7 st .isin (.str t) (.ref j)=M5 t L:=Qy (f:=λl=>M5 t l) (g:=λes=>b6 (look? es t).isSome) h
theorem qI {lim:Bool} {i:Int} (hi:i=if lim then 3 else 4):c0 b7 (N+1) (d+1) 375 [.str t,.int i] st= .ok (.int (I7 lim t:Int)) st:=by
 subst hi;by_cases h1:t= s!"bytes"
 ·subst h1;cases lim <;> rfl
 by_cases c:t= s!"kbytes"
 ·subst c;cases lim <;> rfl
 by_cases o:t= s!"mbytes"
 ·subst o;cases lim <;> rfl
 by_cases b:t= s!"gbytes"
 ·subst b;cases lim <;> rfl
 have r:I7 lim t=0:=by
  delta I7;rw [iN h1,iN c,iN o,iN b]
 rw [r];cases lim
 ·rw [bz (f:=BD) (ρ:= [b6 (.str t),b6 (.int 4),b8]) rfl rfl rfl];have hs:∀L:List V,I9 (.ref ([]:St).length) .none (.int 4) .none [.list [.str s!"bytes",.str s!"kbytes",.str s!"mbytes",.str s!"gbytes"]]= .ok (.ref 1) [.list [.str s!"bytes",.str s!"kbytes",.str s!"mbytes",.str s!"gbytes"],.list [.str s!"bytes",.str s!"kbytes",.str s!"mbytes",.str s!"gbytes"]]:=λz=>rfl;wp_walk using BD,H1,hs [];rw [oF (L:= [.str s!"bytes",.str s!"kbytes",.str s!"mbytes",.str s!"gbytes"]) rfl,show M5 t [.str s!"bytes",.str s!"kbytes",.str s!"mbytes",.str s!"gbytes"]=b6 (decide (t∈ [s!"bytes",s!"kbytes",s!"mbytes",s!"gbytes"])) from D1 (l:= [s!"bytes",s!"kbytes",s!"mbytes",s!"gbytes"])];wp_walk using f0;rw [iN (by simp only [x8,H2,or_false,not_or];exact ⟨h1,c,o,b⟩)];rfl
 ·rw [bz (f:=BD) (ρ:= [b6 (.str t),b6 (.int 3),b8]) rfl rfl rfl];have hs:∀L:List V,I9 (.ref ([]:St).length) .none (.int 3) .none [.list [.str s!"bytes",.str s!"kbytes",.str s!"mbytes",.str s!"gbytes"]]= .ok (.ref 1) [.list [.str s!"bytes",.str s!"kbytes",.str s!"mbytes",.str s!"gbytes"],.list [.str s!"bytes",.str s!"kbytes",.str s!"mbytes"]]:=λz=>rfl;wp_walk using BD,H1,hs [];rw [oF (L:= [.str s!"bytes",.str s!"kbytes",.str s!"mbytes"]) rfl,show M5 t [.str s!"bytes",.str s!"kbytes",.str s!"mbytes"]=b6 (decide (t∈ [s!"bytes",s!"kbytes",s!"mbytes"])) from D1 (l:= [s!"bytes",s!"kbytes",s!"mbytes"])];wp_walk using f0;rw [iN (by simp only [x8,H2,or_false,not_or];exact ⟨h1,c,o⟩)];rfl
theorem aY {lim:Bool}:I7 lim t≤1073741824:=by
 delta I7
 repeat' split
 all_goals decide
def bS (x:Bx) (m u a:Nat):PR Nat:=if 18446744073709551616≤m*u then .bad (bw x a (p6 ((m*u:Nat):Int)) (E3:Int)) a else .ok (m*u) a
def sW (lim:Bool):List Nat:=if lim then s!"bytes, kbytes or mbytes" else s!"bytes, kbytes, mbytes or gbytes"
def fB (x:Bx) (lim:Bool) (a:Nat):PR Nat:=(K2 x E3 a).bind λm a=>
 if (if (now x a).sort=sWord then I7 lim (now x a).text else 0)=0 then .bad (p5 x a (sW lim)) a
 else (bS x m (I7 lim (now x a).text) a).bind λv a=> .ok v (a+1)
theorem Ak {m u:Nat} (hm:m≤E3) (r:u≤1073741824):m*u < 10 ^ 40:=by
 have h1:m*u≤E3*1073741824:=Nat.mul_le_mul hm r;have c:E3*1073741824 < 10 ^ 40:=by decide
 omega
theorem Fo {m:Nat} (h:m < 10 ^ 40):m < intLim:=by
 have c:10 ^ 40 < 16 ^ 40:=by decide
 exact aH (j:=40) (Ga h c) (by decide)
theorem vR {i:Int} (h:i.natAbs < intLim):A1 .str [.int i] st= .ok (.str (p6 i)) st:=by
 show (if i.natAbs < intLim then Res.ok (.str (p6 i)) st else .stuck)=_;rw [iP h]
theorem kG {m u:Nat} (hm:m≤E3) (r:u≤1073741824):(∀st,u6 .mul (.int (m:Int)) (.int (u:Int)) st= .ok (.int ((m*u:Nat):Int)) st)∧m*u < intLim∧(p6 ((m*u:Nat):Int)).length≤40:=
 ⟨λst=>(vg (J7 hm K1) (J7 r (Fo (by decide)))).trans (cG (λi=>Res.ok (.int i) st) (Int.natCast_mul m u).symm),Fo (Ak hm r),Y2 (Ak hm r) (by decide)⟩
theorem DL {m u:Nat}:((18446744073709551616:Int)≤((m*u:Nat):Int))↔18446744073709551616≤m*u:=fx (m:=18446744073709551616)
theorem vK (hx:x.Ok) {m u:Nat} (hm:m≤E3) (r:u≤1073741824):c0 b7 (N+1) (d+5) 382 [rd x,.int (m:Int),.int (u:Int)] (S x a b ext)=(bS x m u a).res natV (pS x b ext):=by
 rw [d6 Oz 2 rfl];obtain ⟨h1,c,o⟩:=kG hm r;wp_walk using Oz,h1,M7,vR (i:=((m*u:Nat):Int)) c,show (18446744073709551616:Int)-1=((E3:Nat):Int) from rfl,mC hx (t:=p6 ((m*u:Nat):Int)) (i:=((E3:Nat):Int)) (d3 o (by decide)) K1 M9,ge_iff_le,DL
 exact s9 (λz=>rfl) λz=>rfl
theorem pA (hx:x.Ok) {m u:Nat} (hm:m≤E3) (r:u≤1073741824):c0 b7 (N+1) (d+5) 877 [bk x,.int (m:Int),.int (u:Int)] (S x a b ext)=(bS x m u b).res natV (lS x a ext):=by
 rw [d6 MZ 1 rfl];obtain ⟨h1,c,o⟩:=kG hm r;wp_walk using MZ,h1,M7,show (18446744073709551616:Int)-1=((E3:Nat):Int) from rfl,wI hx (v:= .int ((m*u:Nat):Int)) (t:=p6 ((m*u:Nat):Int)) (i:=((E3:Nat):Int)) rfl (λst=>vR c) (d3 o (by decide)) K1 M9,ge_iff_le,DL
 exact s9 (λz=>rfl) λz=>rfl
theorem lu {top v a':Nat} (h:K2 x top a= .ok v a'):v≤top:=by
 delta K2 at h
 split at h
 ·split at h
  ·split at h
   ·cases h
   ·cases h;exact kt ‹_›
  ·cases h
 ·cases h
theorem qo {n:Nat}:(n:Int)=0↔n=0:=Int.natCast_eq_zero
theorem AD (hx:x.Ok) (f:299≤N) {lim:Bool} {i:Int} (hi:i=if lim then 3 else 4):c0 b7 (N+1) (d+7) 390 [rd x,.int i] (S x a b ext)=(fB x lim a).res natV (pS x b ext):=by
 rw [d6 Ms 8 rfl];wp_walk using Ms,M7,show (18446744073709551616:Int)-1=((E3:Nat):Int) from rfl,aG (top:=E3) hx f rfl K1 M9
 refine d5 λm a' g=>?_
 have e:(if i=3 then Res.bad (p5 x a' s!"bytes, kbytes or mbytes") (S x a' b ext) else Res.bad (p5 x a' s!"bytes, kbytes, mbytes or gbytes") (S x a' b ext))=Res.bad (p5 x a' (sW lim)) (S x a' b ext):=by subst hi;cases lim <;> rfl
 wp_walk using A0 hx,qI hi,k6 hx (w:= s!"bytes, kbytes or mbytes") (by decide),k6 hx (w:= s!"bytes, kbytes, mbytes or gbytes") (by decide),natV,vK hx (lu g) aY,e,qo,eq_self,if_true;by_cases h:(now x a').sort=sWord
 ·rw [iP h,iP h];refine s9 (λz=>rfl) λ_=>?_;refine d5 λv c hv=>?_;wp_walk using s4 hx
 ·rw [iN h,iN h];rfl
theorem zR {lim:Bool} {i:Int} (hi:i=if lim then 0 else 1073741824) :
  (look? [(s!"bytes",V.int 1),(s!"kbytes",.int 1024),(s!"mbytes",.int 1048576),(s!"gbytes",.int i)] t).getD (.int 0)= .int ((I7 lim t:Nat):Int):=by
 subst hi;show (if s!"bytes"=t then b6 (V.int 1) else if s!"kbytes"=t then b6 (V.int 1024) else if s!"mbytes"=t then b6 (V.int 1048576) else if s!"gbytes"=t then b6 (V.int (if lim then 0 else 1073741824)) else b8).getD _=_;delta I7;simp only [eq_comm (b:=t)]
 repeat' split
 all_goals rfl
theorem ta:(look? [(s!"bytes",V.int 1),(s!"kbytes",.int 1024),(s!"mbytes",.int 1048576)] t).getD (.int 0)= .int ((I7 true t:Nat):Int):=by
 show (if s!"bytes"=t then b6 (V.int 1) else if s!"kbytes"=t then b6 (V.int 1024) else if s!"mbytes"=t then b6 (V.int 1048576) else b8).getD _=_;delta I7;simp only [eq_comm (b:=t)]
 repeat' split
 all_goals first | rfl | exact absurd trivial ‹_›
theorem se (hx:x.Ok) (i:299≤N) (f:N≤1000) {lim:Bool}:c0 b7 (N+1) (d+7) 884 [bk x,.bool lim] (S x a b ext)=(fB x lim b).res natV (lS x a ext):=by
 rw [d6 Nk 8 rfl];wp_walk using Nk,M7,show (18446744073709551616:Int)-1=((E3:Nat):Int) from rfl,dI (top:=E3) hx i f rfl (by decide) K1 M9
 refine d5 λm b' j=>?_;have g:= @zR (now x b').text lim _ rfl;have hz:=λe=>pA (N:=N) (d:=d+1) (a:=a) (b:=b') (ext:=e) (u:=I7 lim (now x b').text) hx (lu j) aY;cases lim
 all_goals
  simp only [bF,if_false,if_true] at g;wp_walk using show ∀w v u y st,E6 [.str s!"bytes",w,.str s!"kbytes",v,.str s!"mbytes",u,.str s!"gbytes",y] st= .ok (.ref st.length) (st++ [.dict [(s!"bytes",w),(s!"kbytes",v),(s!"mbytes",u),(s!"gbytes",y)]]) from λz z z z z=>rfl,F4 hx,kS,eO,g,r8 hx (w:= s!"bytes, kbytes or mbytes") (by decide),r8 hx (w:= s!"bytes, kbytes, mbytes or gbytes") (by decide),natV,qo,hz,eq_self,if_true
  by_cases h:(now x b').sort=sWord
  ·rw [iP h,iP h];refine s9 (λz=>rfl) λ_=>?_;refine d5 (λv c hv=>?_) (λz z=>by exact cG (Res.bad _) n9) (by rfl);wp_walk using f0
  ·rw [iN h,iN h];rfl
def oG (x:Bx) (a:Nat):PR Bool:=if K0 x a sWord s!"over" then .ok true (a+1) else if K0 x a sWord s!"until" then .ok false (a+1) else .ok false a
theorem Co (hx:x.Ok):c0 b7 (N+1) (d+3) 397 [rd x] (S x a b ext)=(oG x a).res V.bool (pS x b ext):=by
 rw [d6 Ou 1 rfl];wp_walk using Ou,R4 hx,s4 hx;refine s9 (λh=>?_) λh=>?_
 ·wp_walk using s4 hx,decide_eq_true h
 ·wp_walk using s4 hx,decide_eq_false h;exact s9 (λz=>rfl) λz=>rfl
theorem Dw:asc s!"over":=by decide
theorem zK:asc s!"until":=by decide
theorem EN (hx:x.Ok):c0 b7 (N+1) (d+3) 891 [bk x] (S x a b ext)=(oG x b).res V.bool (lS x a ext):=by
 rw [d6 NF 1 rfl];wp_walk using NF,Z9 hx G5 Dw,Z9 hx G5 zK,sr;exact s9 (λz=>rfl) λz=>s9 (λz=>rfl) λz=>rfl
abbrev uE:Nat×Nat→V:=λp=> .tup [.int (p.1:Int),.int (p.2:Int)]
def N6 (x:Bx) (a:Nat):PR (Nat×Nat):=if K0 x a sWord s!"packets" then
 (K2 x E3 (a+1)).bind λp a=>(Z5 x s!"bytes" a).bind λz a=>(K2 x E3 a).bind λq a=> .ok (p,q) a else .ok (0,0) a
theorem yj (hx:x.Ok) (c:299≤N):c0 b7 (N+1) (d+7) 404 [rd x] (S x a b ext)=(N6 x a).res uE (pS x b ext):=by
 rw [d6 Mw 3 rfl];wp_walk using Mw,R4 hx,s4 hx,M7,show (18446744073709551616:Int)-1=((E3:Nat):Int) from rfl,aG (top:=E3) hx c rfl K1 M9
 refine N3 (λh=>?_) λh=>rfl;refine d5 λm a' g=>?_;wp_walk using E0 hx (t:= s!"bytes") (by decide);refine d5 λu a' g=>?_;wp_walk using M7,show (18446744073709551616:Int)-1=((E3:Nat):Int) from rfl,aG (top:=E3) hx c rfl K1 M9
 refine d5 λm a' g=>?_;wp_walk using f0
theorem qQ:asc s!"packets":=by decide
theorem yp (hx:x.Ok) (e:299≤N) (c:N≤1000):c0 b7 (N+1) (d+7) 912 [bk x,.str s!"counter"] (S x a b ext)=(N6 x b).res uE (lS x a ext):=by
 rw [d6 uf 14 rfl];wp_walk using uf,if_true,Z9 hx G5 qQ,M7,show (18446744073709551616:Int)-1=((E3:Nat):Int) from rfl,dI (top:=E3) hx e c rfl (by decide) K1 M9
 refine N3 (λh=>?_) λh=>rfl;refine d5 λm a' g=>?_;wp_walk using N1 hx (t:= s!"bytes") (by decide) (by decide);refine d5 λu a' g=>?_;wp_walk using M7,show (18446744073709551616:Int)-1=((E3:Nat):Int) from rfl,dI (top:=E3) hx e c rfl (by decide) K1 M9
 refine d5 λm a' g=>?_;wp_walk using f0
abbrev tJ:Bool×Nat×Nat→V:=λp=> .tup [.bool p.1,.int (p.2.1:Int),.int (p.2.2:Int)]
def az (x:Bx) (a:Nat):PR (Bool×Nat×Nat):=(oG x a).bind λo a=>(fB x false a).bind λm a=>
 if K0 x a sWord s!"used" then (fB x false (a+1)).bind λu a=> .ok (o,m,u) a else .ok (o,m,0) a
theorem vf (hx:x.Ok) (h:299≤N):c0 b7 (N+1) (d+7) 390 [rd x] (S x a b ext)=(fB x false a).res natV (pS x b ext):=AD (lim:=false) (i:=4) hx h rfl
theorem Gs (hx:x.Ok) (c:299≤N):c0 b7 (N+1) (d+8) 411 [rd x] (S x a b ext)=(az x a).res tJ (pS x b ext):=by
 rw [d6 Mf 4 rfl];wp_walk using Mf,Co hx;refine d5 λo a' e=>?_;wp_walk using vf hx c;refine d5 λm a' hm=>?_;wp_walk using R4 hx,s4 hx;refine N3 (λh=>?_) λh=>rfl;wp_walk using vf hx c;refine d5 λu a' r=>?_;wp_walk using f0
theorem Am:asc s!"used":=by decide
theorem GJ (hx:x.Ok) (e:299≤N) (c:N≤1000):c0 b7 (N+1) (d+8) 912 [bk x,.str s!"quota"] (S x a b ext)=(az x b).res tJ (lS x a ext):=by
 rw [d6 uf 14 rfl];wp_walk using uf,iN (show ¬(s!"quota"= s!"counter") by decide),if_true,EN hx;refine d5 λo a' f=>?_;wp_walk using se hx e c;refine d5 λm a' hm=>?_;wp_walk using Z9 hx G5 Am;refine s9 (λh=>?_) λh=>rfl;wp_walk using se hx e c;refine d5 λu a' r=>?_;wp_walk using f0
def sM:Option (List Nat)→V
 | some s=> .str s
 | none=> .none
theorem nK:sM b8= .none:=rfl
theorem iW:sM (b6 s)= .str s:=rfl
def Z4 (t:List Nat):List Nat×Option (List Nat):=match A8 47 t with
 | none=>(t,b8)
 | some i=>(t.take i,b6 (t.drop (i+1)))
def H8 (x:Bx) (a:Nat):List Nat×Option (List Nat):=if (now x a).sort=sWord then Z4 (now x a).text else ([],b8)
theorem ax {c:Nat}:∀{s:List Nat},(j3 c s)[0]?=b6 (match A8 c s with | none=>s | some i=>s.take i)
 | []=>rfl
 | y :: r=>by
  have ih:= @ax c r;rw [jV,CW];by_cases h:y=c
  ·rw [iP h,iP h];rfl
  ·rw [iN h,iN h];cases hs:j3 c r with
   | nil=>rw [hs] at ih;cases ih
   | cons p q=>
    rw [hs] at ih;cases a:A8 c r with
    | none=>
     rw [a] at ih;simp only [La,Lc] at ih;simp [ih]
    | some i=>
     rw [a] at ih;simp only [La,Lc] at ih;simp [ih]
theorem kM {c:Nat}:∀{s:List Nat},(A8 c s).isSome=decide (c∈s)
 | []=>rfl
 | y :: r=>by
  rw [CW];by_cases h:y=c
  ·rw [iP h];simp [h]
  ·rw [iN h];have:= @kM c r;cases a:A8 c r with
   | none=>rw [a] at this;simp at this;simp [this];exact λe=>h e.symm
   | some i=>rw [a] at this;simp at this;simp [this]
theorem Ba {c i:Nat}:∀{s:List Nat},A8 c s=b6 i→i < s.length
 | [],h=>by cases h
 | y :: r,h=>by
  rw [CW] at h
  split at h
  ·cases h;simp
  ·cases a:A8 c r with
   | none=>rw [a] at h;cases h
   | some j=>
    rw [a] at h;cases h;have:=Ba a;simp only [G2];omega
theorem JW (hx:x.Ok):c0 b7 (N+1) (d+2) 418 [rd x] (S x a b ext)= .ok (.tup [.str (H8 x a).1,sM (H8 x a).2]) (S x a b ext):=by
 rw [d6 OI 2 rfl];wp_walk using OI,A0 hx,vL,vX;have f:(now x a).text.length≤1000:=d3 (t4 hx) (by decide);rw [H8];by_cases h:(now x a).sort=sWord
 ·rw [iN (λc=>c h),iP h,Z4];cases A8 47 (now x a).text with
  | none=>exact iP (by decide)
  | some i=>
   wp_walk using iN (show ¬(i:Int) < 0 from kr.mpr (V3 i)),show (i:Int)+1=((i+1:Nat):Int) from rfl,aV (s:=(now x a).text) f,aW (s:=(now x a).text) f
   rfl
 ·rw [iP h,iN h];rfl
theorem qG (hx:x.Ok):c0 b7 (N+1) (d+2) 898 [bk x] (S x a b ext)= .ok (.tup [.str (H8 x b).1,sM (H8 x b).2]) (S x a b ext):=by
 rw [d6 Oe 3 rfl];have k:=t4 (a:=b) hx;have j:∀st:St,o8 .split (.str (now x b).text) [.str [47]] st= .ok (.ref st.length) (st++ [.list ((j3 47 (now x b).text).map V.str)]):=λst=>iP (d3 k (by decide));have e:s8 (.ref (S x a b ext).length) (.int 0) (S x a b (ext++ [.list ((j3 47 (now x b).text).map V.str)]))= .ok (.str (Z4 (now x b).text).1) (S x a b (ext++ [.list ((j3 47 (now x b).text).map V.str)])):=by
  refine (AE fE).trans ?_;show jW ((j3 47 (now x b).text).map V.str)[0]? _=_;rw [br,ax,Z4]
  cases A8 47 (now x b).text <;> rfl
 have g:∀st,o8 .index (.str (now x b).text) [.str [47]] st=match A8 47 (now x b).text with | some i=> .ok (.int i) st | none=> .stuck:=λst=>(by show c8 (A8 47 (now x b).text) _ _=_;cases A8 47 (now x b).text <;> rfl)
 have hm:= @kM 47 (now x b).text;wp_walk using Oe,F4 hx,iD,j,e,Ft,g;rw [H8];by_cases h:(now x b).sort=sWord
 ·rw [iN (λc=>c h),iP h];cases f:A8 47 (now x b).text with
  | none=>
   rw [f] at hm;rw [iN (of_decide_eq_false hm.symm),show (Z4 (now x b).text).2=b8 by rw [Z4,f]];rfl
  | some i=>
   rw [f] at hm;rw [iP (of_decide_eq_true hm.symm)];wp_walk using show (i:Int)+1=((i+1:Nat):Int) from rfl,aW (s:=(now x b).text) (d3 k (by decide))
   rw [show (Z4 (now x b).text).2=b6 ((now x b).text.drop (i+1)) by rw [Z4,f]];rfl
 ·rw [iP h,iN h];rfl
structure Strokes (x:Bx):Prop where
 beg:∀k∈x.T,k.text.take 1≠ [47]
 tail:∀k∈x.T,(Z4 k.text).2≠b6 []
theorem cR (hx:x.Ok) (hs:Strokes x):c0 b7 (N+1) (d+1) 425 [(now x a).v] st= .ok (.bool false) st:=by
 rw [bz (f:=Mh) (ρ:= [b6 ((now x a).v)]) rfl rfl rfl];wp_walk using Mh,iA (s:=(now x a).text) (d3 (t4 hx) (by decide)),decide_eq_false (hs.beg _ (E7 (a:=a) hx))
 split <;> rfl
def wy:List (List Nat):= [s!"second",s!"minute",s!"hour",s!"day",s!"week"]
def wl:List Nat:= s!"second, minute, hour, day or week"
theorem MV {o:Option (List Nat)}:l7 st .is (sM o) .none=b6 o.isNone:=by cases o <;> rfl
theorem sG {o:Option (List Nat)} (h:o≠b6 []):l7 st .eq (sM o) (.str [])=b6 false:=by
 cases o with
 | none=>rfl
 | some s=>
  show b6 (decide (s= []))=_;rw [decide_eq_false (λc=>h (by rw [c]))]
theorem lb:l7 st .notin .none (.tup [.str s!"second",.str s!"minute",.str s!"hour",.str s!"day",.str s!"week"])=b6 true:=rfl
def wE (x:Bx) (o:Option (List Nat)) (a:Nat):PR (List Nat):=match o with
 | some u=>if u∈wy then .ok u (a+1) else .bad (p5 x a wl) a
 | none=> .bad (p5 x a wl) a
theorem BG (hx:x.Ok) (hs:Strokes x) {o:Option (List Nat)} (h:o≠b6 []):c0 b7 (N+1) (d+5) 432 [rd x,sM o] (S x a b ext)=(wE x o a).res V.str (pS x b ext):=by
 rw [d6 My 2 rfl];wp_walk using My,MV,gH hx,cR hx hs,sG h;cases o with
 | none=>
  wp_walk using FS,gH hx,cR hx hs,sG h,nK,show ∀st,l7 st .eq .none (.str [])=b6 false from λz=>rfl,lb,k6 hx (w:= s!"second, minute, hour, day or week") (by decide)
  rfl
 | some u=>
  wp_walk using FS,gH hx,cR hx hs,sG h,iW,iN (λc:u= []=>h (c▸rfl)),k6 hx (w:= s!"second, minute, hour, day or week") (by decide),s4 hx;exact N3 (λz=>rfl) λz=>rfl
abbrev vm:Nat×List Nat×Bool→V:=λp=> .tup [.int (p.1:Int),.str p.2.1,.bool p.2.2]
def hY (x:Bx) (a:Nat):PR (Nat×List Nat×Bool):=match num (H8 x a).1 with
 | none=> .bad (p5 x a s!"number") a
 | some r=>if E3 < r then .bad (bw x a (H8 x a).1 (E3:Int)) a else match (H8 x a).2 with
  | some u=>(wE x (b6 u) a).bind λu a=> .ok (r,u,false) a
  | none=>if I7 true (H8 x (a+1)).1=0 then .bad (p5 x (a+1) s!"'/'") (a+1)
   else (bS x r (I7 true (H8 x (a+1)).1) (a+1)).bind λr a=>(wE x (H8 x a).2 a).bind λu a=> .ok (r,u,true) a
theorem mJ (hx:x.Ok):asc (H8 x a).1:=by
 delta H8
 split
 ·delta Z4
  split
  ·exact v7 hx
  ·exact λc h=>v7 hx c (FP h)
 ·exact λc h=>absurd h (H2)
theorem gK (hx:x.Ok):(H8 x a).1.length≤100:=by
 have f:=t4 (a:=a) hx;delta H8
 split
 ·delta Z4
  split
  ·exact f
  ·rw [gj];omega
 ·simp
theorem pq (hs:Strokes x) (hx:x.Ok):(H8 x a).2≠b6 []:=by
 delta H8
 split
 ·exact hs.tail _ (E7 hx)
 ·intro h;cases h
theorem lr {m u a a' v:Nat} (h:bS x m u a= .ok v a'):a'=a:=by
 delta bS at h
 split at h
 ·cases h
 ·cases h;rfl
theorem Bc {r:Nat} (j:¬E3 < r):¬((r:Nat):Int)≥18446744073709551616:=λc=>j (fx (m:=18446744073709551616).mp c)
theorem Of (hx:x.Ok) (hs:Strokes x) (f:299≤N):c0 b7 (N+1) (d+6) 439 [rd x] (S x a b ext)=(hY x a).res vm (pS x b ext):=by
 rw [d6 PL 13 rfl];have h1:∀st,c0 b7 (N+1) (d+5) 136 [.str (H8 x a).1] st= .ok (y8 (num (H8 x a).1)) st:=λst=>cw f (d3 (gK hx) (by decide)) (mJ hx);wp_walk using PL,JW hx,h1;delta hY;cases num (H8 x a).1 with
 | none=>wp_walk using y8,k6 hx (w:= s!"number") (by decide)
 | some r=>
  wp_walk using y8,M7;by_cases j:E3 < r
  ·rw [iP j,iP (show ((r:Nat):Int)≥18446744073709551616 from fx (m:=18446744073709551616).mpr j)];wp_walk using mC hx (t:=(H8 x a).1) (i:=((E3:Nat):Int)) (d3 (gK hx) (by decide)) K1 M9,show (18446744073709551616:Int)-1=((E3:Nat):Int) from rfl
  ·rw [iN j,iN (Bc j)];cases g:(H8 x a).2 with
   | some u=>
    have h:=BG (N:=N) (d:=d) (a:=a) (b:=b) (ext:=ext) hx hs (o:=b6 u) (g▸pq hs hx);simp only [iW] at h;wp_walk using iW,h;refine d5 λw a' e=>?_;wp_walk using f0;rfl
   | none=>
    have c:=λst=> @qI N (d+4) st (H8 x (a+1)).1 true 3 rfl;wp_walk using nK,gH hx,cR hx hs,s4 hx,JW hx,c,k6 hx (w:= s!"'/'") (by decide),qo,vK (m:=r) hx (kt j) aY;refine s9 (λz=>rfl) λk=>?_;refine d5 λv a' hv=>?_;have:=lr hv;subst this;wp_walk using BG hx hs (pq (a:=a+1) hs hx);refine d5 λw a' e=>?_;wp_walk using show ∀n:Nat,((n:Int) > 0)↔0 < n from λz=>Int.natCast_pos,decide_eq_true (bD k)
theorem NC (hx:x.Ok) (g:299≤N) (h:N≤1000):c0 b7 (N+1) (d+6) 905 [bk x] (S x a b ext)=(hY x b).res vm (lS x a ext):=by
 rw [d6 LD 9 rfl];have h1:∀st,c0 b7 (N+1) (d+5) 795 [.str (H8 x b).1] st= .ok (y8 (num (H8 x b).1)) st:=λst=>W6 g h (d3 (gK hx) (by decide)) (mJ hx);have c:=λb e=>r8 (N:=N) (d:=d+1) (a:=a) (b:=b) (ext:=e) hx (w:= s!"second, minute, hour, day or week") (by decide);wp_walk using LD,qG hx,h1;delta hY;cases num (H8 x b).1 with
 | none=>wp_walk using y8,r8 hx (w:= s!"number") (by decide)
 | some r=>
  wp_walk using y8,M7;by_cases j:E3 < r
  ·rw [iP j,iP (show ((r:Nat):Int)≥18446744073709551616 from fx (m:=18446744073709551616).mpr j)];wp_walk using uO hx (t:=(H8 x b).1) (i:=((E3:Nat):Int)) (d3 (gK hx) (by decide)) K1 M9,show (18446744073709551616:Int)-1=((E3:Nat):Int) from rfl
  ·rw [iN j,iN (Bc j)];cases l:(H8 x b).2 with
   | some u=>
    wp_walk using iW,c;show _=PR.res vm (lS x a ext) ((if u∈wy then PR.ok u (b+1) else PR.bad (p5 x b wl) b).bind λu a=> .ok (r,u,false) a);rw [apply_ite (λp=>PR.bind p λu a=>PR.ok (r,u,false) a)];exact N3 (λz=>rfl) λz=>rfl
   | none=>
    wp_walk using nK,qG hx,show ∀w v u st,E6 [.str s!"bytes",w,.str s!"kbytes",v,.str s!"mbytes",u] st= .ok (.ref st.length) (st++ [.dict [(s!"bytes",w),(s!"kbytes",v),(s!"mbytes",u)]]) from λz z z z=>rfl,kS,eO,ta,r8 hx (w:= s!"'/'") (by decide),qo,pA (m:=r) hx (kt j) aY
    refine s9 (λz=>rfl) λk=>?_;refine d5 (λv a' hv=>?_) (λz z=>by exact cG (Res.bad _) n9) (by rfl);have:=lr hv;subst this;have f:=bD k;cases (H8 x (b+1)).2 with
    | none=>
     wp_walk using nK,lb,c;rfl
    | some u=>
     wp_walk using iW,c,show ∀n:Nat,((n:Int) > 0)↔0 < n from λz=>Int.natCast_pos,decide_eq_true f
     show _=PR.res vm (lS x a ext) ((if u∈wy then PR.ok u (b+1+1) else PR.bad (p5 x (b+1) wl) (b+1)).bind λu a=> .ok (v,u,true) a);rw [apply_ite (λp=>PR.bind p λu a=>PR.ok (v,u,true) a)];exact N3 (λz=>rfl) λz=>rfl
abbrev uU:Bool×Nat×List Nat×Nat×Bool→V:=λp=> .tup [.bool p.1,.int (p.2.1:Int),.str p.2.2.1,.int (p.2.2.2.1:Int),.bool p.2.2.2.2]
def ao (x:Bx) (a:Nat):PR (Bool×Nat×List Nat×Nat×Bool):=(Z5 x s!"rate" a).bind λz a=>(oG x a).bind λo a=>(hY x a).bind λq a=>
 if K0 x a sWord s!"burst" then
  (if q.2.2=true then (fB x true (a+1)).bind λs a=> .ok (o,q.1,q.2.1,s,true) a
   else (K2 x 4294967295 (a+1)).bind λs a=>(Z5 x s!"packets" a).bind λz a=> .ok (o,q.1,q.2.1,s,false) a)
 else .ok (o,q.1,q.2.1,if q.2.2 then 0 else 5,q.2.2) a
theorem wL:u6 .pow (.int 2) (.int 32) st= .ok (.int 4294967296) st:=rfl
theorem Ij (hx:x.Ok) (h:299≤N):c0 b7 (N+1) (d+7) 319 [rd x,.int ((4294967296:Int)-1)] (S x a b ext)=(K2 x 4294967295 a).res natV (pS x b ext):=aG hx h rfl jq eA
theorem Jl (hx:x.Ok) (c:299≤N) (h:N≤1000):c0 b7 (N+1) (d+7) 809 [bk x,.int ((4294967296:Int)-1)] (S x a b ext)=(K2 x 4294967295 b).res natV (lS x a ext):=dI hx c h rfl (by decide) jq eA
theorem IJ (hx:x.Ok) (hs:Strokes x) (e:299≤N):c0 b7 (N+1) (d+8) 446 [rd x] (S x a b ext)=(ao x a).res uU (pS x b ext):=by
 rw [d6 Ma 10 rfl];wp_walk using Ma,E0 hx (t:= s!"rate") (by decide);refine d5 λc a' f=>?_;wp_walk using Co hx;refine d5 λo a' c=>?_;wp_walk using Of hx hs e;refine d5 λq a' c=>?_;obtain ⟨r,u,y⟩:=q;wp_walk using R4 hx,s4 hx;refine N3 (λh=>?_) λh=>?_
 ·cases y
  ·wp_walk using s4 hx,wL,Ij hx e;refine d5 λm a' c=>?_;wp_walk using E0 hx (t:= s!"packets") (by decide);refine d5 λc a' f=>?_;wp_walk using f0
  ·wp_walk using s4 hx,AD (lim:=true) (i:=3) hx e rfl;refine d5 λm a' c=>?_;wp_walk using f0
 ·cases y <;> rfl
theorem lx:asc s!"burst":=by decide
theorem IZ (hx:x.Ok) (f:299≤N) (e:N≤1000):c0 b7 (N+1) (d+8) 912 [bk x,.str s!"limit"] (S x a b ext)=(ao x b).res uU (lS x a ext):=by
 rw [d6 uf 14 rfl];wp_walk using uf,iN (show ¬(s!"limit"= s!"counter") by decide),iN (show ¬(s!"limit"= s!"quota") by decide),N1 hx (t:= s!"rate") (by decide) (by decide);refine d5 λc a' g=>?_;wp_walk using EN hx;refine d5 λo a' c=>?_;wp_walk using NC hx f e;refine d5 λq a' c=>?_;obtain ⟨r,u,y⟩:=q;cases y
 ·wp_walk using Z9 hx G5 lx,wL,Jl hx f e;refine s9 (λh=>?_) λh=>rfl;refine d5 λm a' c=>?_;wp_walk using N1 hx (t:= s!"packets") (by decide) (by decide);refine d5 λc a' g=>?_;wp_walk using f0
 ·wp_walk using Z9 hx G5 lx,se hx f e;refine s9 (λh=>?_) λh=>rfl;refine d5 λm a' c=>?_;wp_walk using f0
def O4 (x:Bx) (f:Nat) (body:Nat→PR α) (a:Nat):PR α:=if K0 x a sSign [123] then
  (lO x f a).bind λz a=>(body a).bind λv a=>(skip x f a).bind λz a=>(bx x [125] a).bind λz a=> .ok v a
 else body a
theorem tX {γ:Type} {Φ:d7} {kind:List Nat} {fn:Nat} {r:V} {o:Option V} {st:St} {K:Out→γ} (O:(kind= s!"counter"∧fn=404)∨(kind= s!"quota"∧fn=411)∨(kind= s!"limit"∧fn=446)) :
  cS b7.tabs (N+1) Φ b8 (d2 jX.body 2) [b6 r,b6 (.str kind),o,b8,b8,b8,b8,b8,b8] st K=i8 (Bk (.name 3) [b6 r,b6 (.str kind),o,b8,b8,b8,b8,b8,b8] K) [b6 r,b6 (.str kind),o,b8,b8,b8,b8,b8,b8] K (Φ fn [r] st):=by
 rcases O with ⟨rfl,rfl⟩ | ⟨rfl,rfl⟩ | ⟨rfl,rfl⟩
 all_goals rfl
theorem mT (hx:x.Ok) {g:α→V} (hg:∀v,(g v).flat=true) {body:Nat→PR α} {kind:List Nat} {fn:Nat}
  (O:(kind= s!"counter"∧fn=404)∨(kind= s!"quota"∧fn=411)∨(kind= s!"limit"∧fn=446))
  (c:∀a,c0 b7 (N+1) (d+8) fn [rd x] (S x a b ext)=(body a).res g (pS x b ext)) :
  c0 b7 (N+1) (d+9) 507 [rd x,.str kind] (S x a b ext)=(O4 x (N+1) body a).res g (pS x b ext):=by
 rw [d6 jX 7 rfl];have hp:=λ{K:Out→Res} {o st}=>tX (N:=N) (Φ:=c0 b7 (N+1) (d+8)) (r:=rd x) (o:=o) (st:=st) (K:=K) O;rw [show jX.body= .cons (d2 jX.body 0) (.cons (d2 jX.body 1) (.cons (d2 jX.body 2) (g8 jX.body 3))) from rfl];generalize d2 jX.body 2=s at hp ⊢;wp_walk using jX,d2,g8,i9,dy hx,ui hx;refine s9 (λh=>?_) λh=>?_
 ·refine d5 λu a' e=>?_;wp_walk using hp,c;refine d5 λv a' u=>?_;wp_walk using decide_eq_true h,sw hx;refine d5 λu a' e=>?_;wp_walk using S3 hx (t:= [125]) (by decide);refine d5 λu a' e=>?_;wp_walk using hg
 ·wp_walk using hp,c;refine G9 λz z z=>?_;wp_walk using decide_eq_false h,hg
theorem Ck:asc [123]:=by decide
theorem mQ (hx:x.Ok) {g:α→V} (hg:∀v,(g v).flat=true) {body:Nat→PR α} {kind:List Nat}
  (c:∀b,c0 b7 (N+1) (d+8) 912 [bk x,.str kind] (S x a b ext)=(body b).res g (lS x a ext)) :
  c0 b7 (N+1) (d+9) 919 [bk x,.str kind] (S x a b ext)=(O4 x (N+1) body b).res g (lS x a ext):=by
 rw [d6 Qh 7 rfl];wp_walk using Qh,Z9 hx G8 Ck,nS hx;refine s9 (λh=>?_) λh=>?_
 ·refine d5 λu a' e=>?_;wp_walk using c;refine d5 λv a' u=>?_;wp_walk using decide_eq_true h,sy hx;refine d5 λu a' e=>?_;wp_walk using dm hx (t:= [125]) (by decide) (by decide);refine d5 λu a' e=>?_;wp_walk using hg
 ·wp_walk using c;refine G9 λz z z=>?_;wp_walk using decide_eq_false h,hg
theorem Fe:(S x a b (ext++l)).length=(S x 0 0 ext).length+l.length:=by
 rw [P2,P2,u3];exact (A2 ..).symm
theorem gb {a' b' i:Nat}:(S x a b (ext++l))[(S x a' b' ext).length+i]?=l[i]?:=by
 rw [P2,A2,Ki];exact ja
theorem C1 {a' b':Nat}:(S x a b (ext++l))[(S x a' b' ext).length]?=l[0]?:=gb (i:=0)
theorem aD {j:Nat}:Q5 .get (.ref j) st=(match st[j]? with | some (.dict _)=>true | _=>false):=by
 show O7 st j _ _=_;delta O7;cases st[j]? with
 | none=>rfl
 | some o=>cases o <;> rfl
theorem ql {j:Nat}:Q5 .append (.ref j) st=(match st[j]? with | some (.list _)=>true | _=>false):=by
 show r6 st j _ _=_;delta r6;cases st[j]? with
 | none=>rfl
 | some o=>cases o <;> rfl
theorem gP {j:Nat} {v:V}:o8 .get (.ref j) [.str t,v] st=(match st[j]? with | some (.dict es)=> .ok ((look? es t).getD v) st | _=> .stuck):=by
 show O7 st j _ _=_;delta O7;cases st[j]? with
 | none=>rfl
 | some o=>cases o <;> rfl
theorem bj {j:Nat}:l7 st .isin (.str t) (.ref j)=(match st[j]? with
  | some (.list l)=>M5 t l
  | some (.dict es)=>b6 (look? es t).isSome
  | _=>b8):=by
 show onLD st j _ _ _=_;delta onLD;cases st[j]? with
 | none=>rfl
 | some o=>cases o <;> rfl
theorem S1 {j:Nat}:l7 st .notin (.str t) (.ref j)=(match st[j]? with
  | some (.list l)=>(M5 t l).map (λb=> !b)
  | some (.dict es)=>b6 (!(look? es t).isSome)
  | _=>b8):=by
 show (nP st (.str t) (.ref j)).map _=_;have:nP st (.str t) (.ref j)=_:=bj;rw [this];cases st[j]? with
 | none=>rfl
 | some o=>cases o <;> rfl
theorem sd {o:Option V}:c8 o Res.stuck (λv=> .ok v st)=(match o with | some v=> .ok v st | none=> .stuck):=by cases o <;> rfl
theorem vI {o:Option (List (List Nat))} {f:List (List Nat)→Res}:c8 o Res.stuck f=(match o with | some ss=>f ss | none=> .stuck):=by cases o <;> rfl
theorem M4 {j:Nat} {i:Int}:s8 (.ref j) (.int i) st=(match st[j]? with
  | some (.list l)=>if S7 i then (match l[i.toNat]? with | some v=> .ok v st | none=> .stuck) else .stuck
  | some (.idict es)=>(match look? es i with | some v=> .ok v st | none=> .stuck)
  | _=> .stuck):=by
 show onLI st j _ _ _=_;delta onLI;cases st[j]? with
 | none=>rfl
 | some o=>cases o with
  | list l=>exact cG (λr=>if S7 i then r else Res.stuck) sd
  | idict es=>exact sd
  | _=>rfl
theorem MK {i j:Nat}:u6 .add (.ref i) (.ref j) st=(match st[i]?,st[j]? with
  | some (.list p),b6 (.list q)=>if p.length+q.length≤sizeLim then .ok (.ref st.length) (st++ [.list (p++q)]) else .stuck
  | _,_=> .stuck):=by
 show r6 st i _ (λp=>r6 st j _ _)=_;delta r6;cases st[i]? with
 | none=>rfl
 | some o=>cases o with
  | list p=>cases st[j]? with
   | none=>rfl
   | some q=>cases q <;> rfl
  | _=>rfl
theorem K6 {j:Nat}:s8 (.ref j) (.str t) st=(match st[j]? with
  | some (.dict es)=>(match look? es t with | some v=> .ok v st | none=> .stuck)
  | _=> .stuck):=by
 show O7 st j _ _=_;delta O7;cases st[j]? with
 | none=>rfl
 | some o=>cases o with
  | dict es=>exact sd
  | _=>rfl
theorem vO {j:Nat}:o8 .join (.str s) [.ref j] st=(match st[j]? with
  | some (.list l)=>(match strs? l with
   | some ss=>if l0 ss+s.length*ss.length≤sizeLim then .ok (.str (v8 s ss)) st else .stuck
   | none=> .stuck)
  | _=> .stuck):=by
 show r6 st j _ _=_;delta r6;cases st[j]? with
 | none=>rfl
 | some o=>cases o with
  | list l=>exact vI
  | _=>rfl
theorem Aj {l:List V}:o8 .join (.str s) [.tup l] st=(match strs? l with
   | some ss=>if l0 ss+s.length*ss.length≤sizeLim then .ok (.str (v8 s ss)) st else .stuck
   | none=> .stuck):=by
 exact vI
theorem dB:∀{l:List (List Nat)},strs? (l.map V.str)=b6 l
 | []=>rfl
 | a :: r=>by rw [Q0,strs?,dB];rfl
theorem mA:c0 b7 (N+1) (d+1) 638 [] st= .ok (.ref st.length) (st++ [.list [.str s!"ip",.str s!"inet",.str s!"ip6",.str s!"bridge",.str s!"arp",.str s!"netdev"]]):=rfl
theorem kY:c0 b7 (N+1) (d+1) 645 [] st= .ok (.ref st.length) (st++ [.list [.str s!"prerouting",.str s!"input",.str s!"forward",.str s!"output",.str s!"postrouting",.str s!"ingress"]]):=rfl
def uh:List (List Nat):= [s!"chain",s!"set",s!"map",s!"counter",s!"quota",s!"limit",s!"ct expectation",s!"flowtable"]
def w4 (verb:List Nat):List (List Nat):=
 if verb= s!"block" then uh else if verb= s!"insert" then [s!"rule"] else if verb= s!"replace" then [s!"rule"]
 else if verb= s!"flush" then [s!"ruleset",s!"table",s!"chain",s!"set",s!"map"] else if verb= s!"rename" then [s!"chain"] else if verb= s!"reset" then [s!"counter",s!"quota"]
 else [s!"table",s!"rule",s!"element"]++uh
def J4:List (List Nat):= [s!"add",s!"block",s!"insert",s!"flush",s!"rename",s!"reset",s!"delete",s!"replace",s!"create"]
theorem zX {verb:List Nat} (hv:verb∈J4):c0 b7 (N+1) (d+1) 540 [.str verb] st= .ok (.tup ((w4 verb).map V.str)) st:=by
 delta J4 at hv;simp only [x8,H2,or_false] at hv
 rcases hv with rfl | rfl | rfl | rfl | rfl | rfl | rfl | rfl | rfl <;> rfl
theorem qS:∀verb∈J4,[]∉w4 verb∧l0 (w4 verb)+4*(w4 verb).length≤1000∧(v8 s!" or " (w4 verb)).length≤1000:=by decide
def famsP:List (List Nat):= [s!"ip",s!"ip6",s!"inet",s!"arp",s!"bridge",s!"netdev"]
def s7:List (List Nat):= [s!"ip",s!"inet",s!"ip6",s!"bridge",s!"arp",s!"netdev"]
def vN (x:Bx) (verb:List Nat) (a:Nat):PR (List Nat):=
 if s!"ct expectation"∈w4 verb∧K0 x a sWord s!"ct" then (Z5 x s!"expectation" (a+1)).bind λz a=> .ok s!"expectation" a
 else if (now x a).sort=sWord∧(now x a).text∈w4 verb then .ok (if (now x a).text= s!"map"∧verb= s!"flush" then s!"set" else (now x a).text) (a+1)
 else .bad (p5 x a (v8 s!" or " (w4 verb))) a
def tj (x:Bx) (a:Nat):PR (List Nat):=if (now x a).sort=sWord∧(now x a).text∈famsP then .ok (now x a).text (a+1) else .ok s!"ip" a
def sE (t:List Nat):Bool:=(match t with | c :: _=>decide (c∉ s!"0123456789-/") | []=>false)&&t.all λc=>decide (c∉ s!":*+")
def ie (x:Bx) (a:Nat):PR (List Nat):=if (now x a).sort=sWord∧sE (now x a).text=true then .ok (now x a).text (a+1) else .bad (p5 x a s!"string") a
def fL (x:Bx) (verb:List Nat) (a:Nat):PR (List Nat×List Nat×List Nat):=(vN x verb a).bind λk a=>
 if k= s!"ruleset" then .ok (k,[],[]) a else (tj x a).bind λf a=>(ie x a).bind λn a=> .ok (k,f,n) a
theorem PS (hx:x.Ok) {verb:List Nat} (hv:verb∈J4):c0 b7 (N+1) (d+6) 547 [rd x,.str verb] (S x a b ext)=(vN x verb a).res V.str (pS x b ext):=by
 rw [d6 Ln 6 rfl];obtain ⟨k1,k2,k3⟩:=qS verb hv;have O:=λst=> @zX N (d+4) st verb hv;have f:∀st,o8 .join (.str s!" or ") [.tup ((w4 verb).map V.str)] st= .ok (.str (v8 s!" or " (w4 verb))) st:=λst=>by
  rw [Aj,dB];exact iP (d3 k2 (by decide))
 wp_walk using Ln,O,R4 hx;refine Ol (λh=>?_) λh=>?_
 ·wp_walk using s4 hx,E0 hx (t:= s!"expectation") (by decide);refine d5 λu a' g=>?_;wp_walk using f0
 ·wp_walk using jw hx rfl;by_cases e:(now x a).sort=sWord∧(now x a).text∈w4 verb
  ·rw [iP e,iP e,iN (λc:(now x a).text= []=>k1 (c▸e.2))];wp_walk using s4 hx;rw [R6]
   split <;> rfl
  ·rw [iN e,iN e,iP rfl];wp_walk using gN,f,k6 hx (w:=v8 s!" or " (w4 verb)) (d3 k3 (by decide))
theorem QZ (hx:x.Ok):c0 b7 (N+1) (d+3) 533 [rd x] (S x a b ext)=(tj x a).res V.str (pS x b ext):=by
 rw [d6 PK 2 rfl];wp_walk using PK,jw hx (m:=famsP) (vs:= [.str s!"ip",.str s!"ip6",.str s!"inet",.str s!"arp",.str s!"bridge",.str s!"netdev"]) rfl,s4 hx;by_cases h:(now x a).sort=sWord∧(now x a).text∈famsP
 ·rw [iP h,tj,iP h,iN (λc:(now x a).text= []=>absurd h.2 (by rw [c];decide))];rfl
 ·rw [iN h,tj,iN h];rfl
theorem N2 {c:Nat} {r:List Nat}:s8 (.str (c :: r)) (.int 0) st= .ok (.str [c]) st:=cG (λo=>c8 o Res.stuck λk=>c8 (c :: r)[k]? .stuck λc=> .ok (.str [c]) st) (vE (n:=r.length+1) (uZ _))
theorem lD (hx:x.Ok) {K:Out→Res} {A B:Res} (O:∀o,K (.next [b6 (rd x),b6 (now x a).v,o,b8] (S x a b ext))=A) (f:∀ρ,K (.bad (p5 x a s!"string") ρ (S x a b ext))=B) :
  ∀(t:List Nat) (o:Option V),K (Fl b7.tabs (N+1) (c0 b7 (N+1) (d+4)) b8 (.name 2) (f9 (d2 BY.body 2)) (t.map λc=>V.str [c]) [b6 (rd x),b6 (now x a).v,o,b8] (S x a b ext))
  =if (t.all λc=>decide (c∉ s!":*+"))=true then A else B
 | [],o=>O o
 | c :: r,o=>by
  refine iX (ρ':= [b6 (rd x),b6 (now x a).v,b6 (.str [c]),b8]) rfl ?_;wp_walk using BY,d2,f9,k6 hx (w:= s!"string") (by decide);rw [List.all_cons];by_cases h:c∈ s!":*+"
  ·rw [iP h,decide_eq_false (λe=>e h)];exact f _
  ·rw [iN h,decide_eq_true h,FJ];exact lD hx O f r _
theorem Qc (hx:x.Ok) (j:299≤N):c0 b7 (N+1) (d+5) 526 [rd x] (S x a b ext)=(ie x a).res V.str (pS x b ext):=by
 rw [d6 BY 3 rfl];wp_walk using BY,A0 hx,k6 hx (w:= s!"string") (by decide);rw [ie];by_cases h:(now x a).sort=sWord
 ·rw [iN (λe=>e h)];have g:=t4 (a:=a) hx;generalize i:(now x a).text=t at g;cases t with
  | nil=>exact absurd i (hx.wne _ (E7 hx) h)
  | cons c r=>
   wp_walk using N2,k6 hx (w:= s!"string") (by decide);have e:sE (c :: r)=(decide (c∉ s!"0123456789-/")&&(c :: r).all λc=>decide (c∉ s!":*+")):=rfl;by_cases h1:c∈ s!"0123456789-/"
   ·rw [iP h1,e,decide_eq_false (λe=>e h1),iN (λc=>O0 c.2)];rfl
   ·rw [iN h1,e,decide_eq_true h1,FJ,R0 (by rw [i,u7];omega),i];refine (lD hx (A:= .ok (.str (c :: r)) (S x (a+1) b ext)) (B:= .bad (p5 x a s!"string") (S x a b ext)) (λo=>?_) (λz=>cG (Res.bad _) T9) _ b8).trans ?_
    ·wp_walk using s4 hx,i
    ·by_cases f:((c :: r).all λc=>decide (c∉ s!":*+"))=true
     ·rw [iP f,iP ⟨h,f⟩];rfl
     ·rw [iN f,iN (λc=>f c.2)];rfl
 ·rw [iP h,iN (λe=>h e.1)];rfl
theorem oQ:t∈s7↔t∈famsP:=⟨λh=>(by decide:∀t∈s7,t∈famsP) t h,λh=>(by decide:∀t∈famsP,t∈s7) t h⟩
def Kc (a:List Nat):V→Bool
 | .str [c]=>decide (c∈a)
 | _=>false
theorem fQ {a:List Nat}:∀{t:List Nat},(t.map λc=>V.str [c]).filter (Kc a)=(t.filter λc=>decide (c∈a)).map λc=>V.str [c]
 | []=>rfl
 | c :: r=>by
  rw [Q0,dU,fQ,dU];show (if (decide (c∈a))=true then _ else _)=_
  split <;> rfl
theorem yG (b:299≤N) (h:N≤1000) (i:t.length≤250) {ρ:Loc} (T:ρ.length=15) :
  V2 b7.tabs (N+1) Φ (.loc 15) (.cmp1 .isin (.loc 15) (.cst (.str s!":*+"))) ρ (.str t) st= .ok (.ref st.length) (st++ [.list ((t.filter λc=>decide (c∈ s!":*+")).map λc=>V.str [c])]):=by
 rw [eT (p:=Kc s!":*+") (l:=t.map λc=>V.str [c]) rfl (by rw [u7];omega) (bn (by omega)),fQ]
 ·intro v hv;obtain ⟨c,a,rfl⟩:=O1.mp hv;rfl
 ·intro v hv acc;obtain ⟨c,a,rfl⟩:=O1.mp hv;have e:(ρ++ [b6 (V.str [c])])[15]?=b6 (b6 (.str [c])):=by rw [← T,I2 (i0 _),I3];rfl
  rw [iZ];wp_walk using U4 e;rfl
 ·intro v hv acc;have e:(ρ++ [b6 v])[15]?=b6 (b6 v):=by rw [← T,I2 (i0 _),I3];rfl
  rw [iZ];wp_walk using U4 e
theorem Yw {F:List V} {a1 b1 c h:Nat} (hF:V.datas 20 F=true):l7 (S x a b (ext++ [.list F]++ [.list []])) .ne (.ref (S x a1 b1 ext).length) (.ref (S x c h (ext++ [.list F])).length)=b6 (decide (F≠ [])):=by
 refine oj (F:=F) ?_ ?_ hF
 ·rw [e7];exact C1
 ·exact C1
abbrev uc:List Nat×List Nat×List Nat→V:=λp=> .tup [.str p.1,.str p.2.1,.str p.2.2]
theorem qy {y:Nat} {r:List Nat}:sE (y :: r)=(decide (y∉ s!"0123456789-/")&&decide ((y :: r).filter (λc=>decide (c∈ s!":*+"))= [])):=by
 show (_&&_)=_;refine cG _ ?_;rw [Bool.eq_iff_iff,decide_eq_true_iff,aO,KS];exact forall_congr' λc=>imp_congr_right λz=>by rw [decide_eq_true_iff,decide_eq_true_iff]
theorem pZ (hx:x.Ok) (p:299≤N) (m:N≤1000) {verb kd f:List Nat} {v2 v3 v4:V} {o9 o10 o11 o12 o13 o14:Option V} {b':Nat} :
  cSs b7.tabs (N+1) (c0 b7 (N+1) (d+5)) b8 (g8 N4.body 8) [b6 (bk x),b6 (.str verb),b6 v2,b6 v3,b6 v4,b6 (.str kd),b6 (.str f),b8,b8,o9,o10,o11,o12,o13,o14] (S x a b (ext++l)) (cc (S x a b' ext).length)=((ie x b).bind λn a=>PR.ok (kd,f,n) a).res uc (lS x a ext):=by
 have he:=λb e=>r8 (N:=N) (d:=d+1) (a:=a) (b:=b) (ext:=e) hx (w:= s!"string") (by decide);wp_walk using N4,g8,F4 hx,he;rw [ie];by_cases h:(now x b).sort=sWord
 ·rw [iN (λc=>c h)];have o:=t4 (a:=b) hx;have g:=v7 (a:=b) hx;have j:=λe=>Q6 (N:=N) (d:=d+4) (a:=a) (b:=b) (ext:=e) hx (D9 h);have i:=hx.wne _ (E7 hx) h;generalize (now x b).text=t at o g j i;cases t with
  | nil=>exact absurd rfl i
  | cons y r=>
   rw [qy];wp_walk using N2,he;by_cases h1:y∈ s!"0123456789-/"
   ·rw [iP h1,iN (λc=>by rw [decide_eq_false (λe=>e h1)] at c;exact O0 c.2)];rfl
   ·rw [iN h1,yG (t:=y :: r) p m (d3 o (by decide)) rfl];wp_walk using Yw (fO (t:=(y :: r).filter λc=>decide (c∈ s!":*+")) λc hm=>g c (xB.mp hm).1);rw [decide_eq_true h1,FJ];by_cases k:(y :: r).filter (λc=>decide (c∈ s!":*+"))= []
    ·rw [iN (λc=>c (by rw [k];rfl)),iP ⟨h,decide_eq_true k⟩];wp_walk using j,e7
    ·rw [iP (λc=>k (rU.mp c)),iN (λc=>k (of_decide_eq_true c.2))];wp_walk using he,e7
 ·rw [iP h,iN (λc=>h c.1)];rfl
theorem qx (hx:x.Ok) (o:299≤N) (m:N≤1000) {verb kd:List Nat} {v2 v3 v4:V} {o9 o10 o11 o12 o13 o14:Option V} {b':Nat} :
  cSs b7.tabs (N+1) (c0 b7 (N+1) (d+5)) b8 (g8 N4.body 5) [b6 (bk x),b6 (.str verb),b6 v2,b6 v3,b6 v4,b6 (.str kd),b8,b8,b8,o9,o10,o11,o12,o13,o14] (S x a b (ext++l)) (cc (S x a b' ext).length)=(if kd= s!"ruleset" then PR.ok (kd,([]:List Nat),([]:List Nat)) b else (tj x b).bind λf a=>(ie x a).bind λn a=> .ok (kd,f,n) a).res uc (lS x a ext):=by
 have j:∀{a1 b1},l7 (S x a b (ext++l++ [.list [.str s!"ip",.str s!"inet",.str s!"ip6",.str s!"bridge",.str s!"arp",.str s!"netdev"]])) .isin (.str (now x b).text) (.ref (S x a1 b1 (ext++l)).length)=b6 (decide ((now x b).text∈s7)):=by
  intro a1 b1;rw [bj,C1];exact D1 (l:=s7)
 have g:=λc f e=>pZ (x:=x) (a:=a) (b:=c) (b':=b') (N:=N) (d:=d) (ext:=ext) (l:=e) hx o m (verb:=verb) (kd:=kd) (f:=f) (v2:=v2) (v3:=v3) (v4:=v4) (o9:=o9) (o10:=o10) (o11:=o11) (o12:=o12) (o13:=o13) (o14:=o14);rw [show g8 N4.body 5= .cons (d2 N4.body 5) (.cons (d2 N4.body 6) (.cons (d2 N4.body 7) (g8 N4.body 8))) from rfl];generalize g8 N4.body 8=K at g;have i:=λc f=>g c f (l++ [.list [.str s!"ip",.str s!"inet",.str s!"ip6",.str s!"bridge",.str s!"arp",.str s!"netdev"]]);simp only [← e7] at i;wp_walk using N4,d2,i9,F4 hx,mA,j,g,i;refine s9 (λz=>rfl) λ_=>?_;rw [tj];by_cases h:(now x b).sort=sWord
 ·rw [iP h];by_cases k:(now x b).text∈s7
  ·rw [iP k,iP ⟨h,oQ.mp k⟩];wp_walk using Q6 hx (D9 h),i
  ·rw [iN k,iN (λe=>k (oQ.mpr e.2))];wp_walk using f0
 ·rw [iN h,iN (λe=>h e.1)];wp_walk using f0
theorem uu (hx:x.Ok) (k:299≤N) (g:N≤1000) {verb:List Nat} (hv:verb∈J4) {v3 v4:V} {b':Nat} (hi:l[0]?=b6 (.list (uh.map V.str)))
  (f:∃i,v4= .ref ((S x 0 0 ext).length+i)∧l[i]?=b6 (.list ((w4 verb).map V.str))) :
  cSs b7.tabs (N+1) (c0 b7 (N+1) (d+5)) b8 (g8 N4.body 3) [b6 (bk x),b6 (.str verb),b6 (.ref ((S x 0 0 ext).length+0)),b6 v3,b6 v4,b8,b8,b8,b8,b8,b8,b8,b8,b8,b8] (S x a b (ext++l)) (cc (S x a b' ext).length)=(fL x verb b).res uc (lS x a ext):=by
 obtain ⟨i,rfl,f⟩:=f;obtain ⟨k1,k2,k3⟩:=qS verb hv;have e:∀b,s8 (.ref ((S x 0 0 ext).length+0)) (.int 6) (S x a b (ext++l))= .ok (.str s!"ct expectation") (S x a b (ext++l)):=λb=>by
  rw [M4,gb,hi];rfl
 have j:∀b t,l7 (S x a b (ext++l)) .isin (.str t) (.ref ((S x 0 0 ext).length+i))=b6 (decide (t∈w4 verb)):=λb t=>by
  rw [bj,gb,f];exact D1
 have m:∀b,o8 .join (.str s!" or ") [.ref ((S x 0 0 ext).length+i)] (S x a b (ext++l))= .ok (.str (v8 s!" or " (w4 verb))) (S x a b (ext++l)):=λb=>by
  rw [vO,gb,f];show (match strs? ((w4 verb).map V.str) with
   | some ss=>if l0 ss+4*ss.length≤sizeLim then Res.ok (.str (v8 s!" or " ss)) (S x a b (ext++l)) else .stuck
   | none=> .stuck)=_
  rw [dB];exact iP (d3 k2 (by decide))
 have c:=λb kd=>qx (x:=x) (a:=a) (b':=b') (b:=b) (N:=N) (d:=d) (ext:=ext) (l:=l) hx k g (verb:=verb) (kd:=kd) (v2:= .ref ((S x 0 0 ext).length+0)) (v3:=v3) (v4:= .ref ((S x 0 0 ext).length+i)) (o9:=b8) (o10:=b8) (o11:=b8) (o12:=b8) (o13:=b8) (o14:=b8);rw [show g8 N4.body 3= .cons (d2 N4.body 3) (.cons (d2 N4.body 4) (g8 N4.body 5)) from rfl];generalize g8 N4.body 5=K at c;wp_walk using N4,d2,i9,Z9 hx G5 (show asc s!"ct" by decide),e,j,c,N1 hx (t:= s!"expectation") (by decide) (by decide),F4 hx,gN,m,r8 hx (w:=v8 s!" or " (w4 verb)) (d3 k3 (by decide));rw [fL,vN,lm];refine ((R6 (p:=K0 x b sWord s!"ct")).trans (t7 And.comm)).trans (s9 (λh=>?_) λh=>?_)
 ·rw [jf];refine d5 (λu q n=>?_) (λz z=>by exact cG (Res.bad _) n9) (by rfl);wp_walk using iN (show ¬(s!"expectation"= s!"map") by decide),c,i9
 ·rw [lm];refine Ol (λe=>?_) λe=>rfl;wp_walk using Q6 hx (D9 e.1),i9,c;rw [R6];by_cases o:(now x b).text= s!"map"∧verb= s!"flush"
  ·rw [iP o,iP o]
  ·rw [iN o,iN o]
theorem Po (hx:x.Ok) (k:299≤N) (f:N≤1000) {verb:List Nat} (hv:verb∈J4):c0 b7 (N+1) (d+6) 924 [bk x,.str verb] (S x a b ext)=(fL x verb b).res uc (lS x a ext):=by
 rw [d6 N4 13 rfl];have h:=λl v3 v4=>uu (x:=x) (a:=a) (b':=b) (b:=b) (N:=N) (d:=d) (ext:=ext) (l:=l) hx k f hv (v3:=v3) (v4:=v4);rw [show N4.body= .cons (d2 N4.body 0) (.cons (d2 N4.body 1) (.cons (d2 N4.body 2) (g8 N4.body 3))) from rfl];generalize g8 N4.body 3=K at h;have hdL:∀(v v1 v2 v3 v4 g:V) (st:St),E6 [.str s!"block",v,.str s!"insert",v1,.str s!"replace",v2,.str s!"flush",v3,.str s!"rename",v4,.str s!"reset",g] st= .ok (.ref st.length) (st++ [.dict [(s!"block",v),(s!"insert",v1),(s!"replace",v2),(s!"flush",v3),(s!"rename",v4),(s!"reset",g)]]):=λz z z z z z z=>rfl;have c:∀(i j:Nat) (st:St),u6 .add (.ref i) (.ref j) st=(match st[i]?,st[j]? with
  | some (.list p),b6 (.list q)=>if p.length+q.length≤sizeLim then .ok (.ref st.length) (st++ [.list (p++q)]) else .stuck
  | _,_=> .stuck):=λz z z=>MK
 have e:(S x a b ext).length=(S x 0 0 ext).length+0:=by rw [P2,P2];rfl
 wp_walk using N4,d2,i9,hdL,c,Fe,e,e7,C5,H1,aD,gP,gb,G2,O2,Nat.reduceAdd,show (11≤sizeLim)=True from eq_true (by decide),if_true
 simp only [e] at h;refine h _ _ _ rfl ?_;rw [J4] at hv;simp only [x8,H2,or_false] at hv;rcases hv with rfl | rfl | rfl | rfl | rfl | rfl | rfl | rfl | rfl
 ·exact ⟨8,rfl,rfl⟩
 ·exact ⟨0,rfl,rfl⟩
 ·exact ⟨1,rfl,rfl⟩
 ·exact ⟨3,rfl,rfl⟩
 ·exact ⟨4,rfl,rfl⟩
 ·exact ⟨5,rfl,rfl⟩
 ·exact ⟨8,rfl,rfl⟩
 ·exact ⟨2,rfl,rfl⟩
 ·exact ⟨8,rfl,rfl⟩
theorem aC {a1 b1:Nat} {L:List V} {v:V} (hL:L.length≤10000) (hv:v.flat=true) :
  o8 .append (.ref (S x a1 b1 ext).length) [v] (S x a b (ext++AObj.list L :: l))= .ok .none (S x a b (ext++AObj.list (L++ [v]) :: l)):=by
 refine (i7 fE).trans ?_;show (if _ then Res.ok .none ((S x a b (ext++AObj.list L :: l)).set (S x a1 b1 ext).length (.list (L++ [v]))) else .stuck)=_;rw [iP ⟨J7 hL (by decide),hv⟩,P2,lP];exact cG (λe=>Res.ok V.none (S x a b e)) (aq (i:=0))
theorem S0 {a1 b1:Nat} {L:List V}:Q5 .append (.ref (S x a1 b1 ext).length) (S x a b (ext++AObj.list L :: l))=true:=by
 rw [ql,C1];rfl
theorem vT {a1 b1:Nat} {es:List (List Nat×V)} {v:V} (hL:es.length≤900) (hv:v.flat=true) :
  Internal.setSub (.ref (S x a1 b1 ext).length) (.str t) v (S x a b (ext++AObj.dict es :: l))=b6 (S x a b (ext++AObj.dict (A4 es t v) :: l)):=by
 refine (G4 fE).trans ?_;show (if _ then b6 ((S x a b (ext++AObj.dict es :: l)).set (S x a1 b1 ext).length (.dict (A4 es t v))) else b8)=_;rw [iP ⟨J7 hL (by decide),hv⟩,P2,lP];exact cG (λe=>b6 (S x a b e)) (aq (i:=0))
theorem T7 {a1 b1:Nat} {L:List V} (hL:L.length≤10000):A1 .tuple [.ref (S x a1 b1 ext).length] (S x a b (ext++AObj.list L :: l))= .ok (.tup L) (S x a b (ext++AObj.list L :: l)):=by
 refine (i7 fE).trans ?_;exact iP (d3 hL (by decide))
theorem X8 {p:List Nat×V} {r:List (List Nat×V)} {j:List Nat}:look? (p :: r) j=if p.1=j then b6 p.2 else look? r j:=rfl
theorem qP {p:List Nat×V} {r:List (List Nat×V)} {v:V}:A4 (p :: r) t v=if p.1=t then (t,v) :: r else p :: A4 r t v:=rfl
theorem te {v:V} {j:List Nat}:∀{es:List (List Nat×V)},(look? (A4 es t v) j)=if t=j then b6 v else look? es j
 | []=>rfl
 | p :: r=>by
  rw [qP,X8];by_cases h:p.1=t
  ·rw [iP h,X8];by_cases a:t=j
   ·rw [iP a,iP a]
   ·rw [iN a,iN a,iN (λc=>a (h▸c))]
  ·rw [iN h,X8,te];by_cases a:p.1=j
   ·rw [iP a,iP a,iN (λc=>h (a.trans c.symm))]
   ·rw [iN a,iN a]
theorem iY {v:V}:∀{es:List (List Nat×V)},(A4 es t v).length≤es.length+1
 | []=>i0 _
 | p :: r=>by
  rw [qP]
  split
  ·exact w7 _
  ·exact Z1 iY
def aw:List (List Nat):= [s!"ipv4_addr",s!"inet_service",s!"inet_proto",s!"integer"]
def T5 (x:Bx) (a:Nat):PR (List Nat):=if (now x a).sort=sWord then
  (if (now x a).text∈aw then (if (now x a).text= s!"integer" then .bad (J1 x a s!"unqualified type 'integer' specified in set definition") a else .ok (now x a).text (a+1))
   else .bad (J1 x a (s!" unknown datatype '".drop 1++(now x a).text++ [39])) a)
 else .bad (p5 x a s!"string") a
structure Types (x:Bx):Prop where
 dict:∃p1 p2 p3 p4,x.types= [(s!"inet_proto",.tup [.int 8,.str s!"big",.str s!"number",.ref p1]),(s!"inet_service",.tup [.int 16,.str s!"big",.str s!"number",.ref p2]),
   (s!"ipv4_addr",.tup [.int 32,.str s!"big",.str s!"ip4",.ref p3]),(s!"integer",.tup [.int 0,.str s!"big",.str s!"number",.ref p4])]
   ∧x.pre[p1]?=b6 (.dict [(s!"tcp",.int 6),(s!"udp",.int 17)])∧x.pre[p2]?=b6 (.dict [(s!"ftp",.int 21),(s!"ssh",.int 22)])
theorem dE (hx:x.Ok):getAttr b7.tabs s!"types" (.inst 599 x.tg) (S x a b ext)= .ok (.ref x.ty) (S x a b ext):=by
 show (if (599,s!"types")∈b7.tabs.attrs then nU (S x a b ext) x.tg Res.stuck _ else .stuck)=_;rw [iP (by decide),be (kP hx.tongue)];rfl
theorem ll (hx:x.Ok):(S x a b ext)[x.ty]?=b6 (.dict x.types):=kP hx.types
theorem Cf {v:V} {r:List V}:s8 (.tup (v :: r)) (.int 0) st= .ok v st:=rfl
theorem rZ (hT:Types x):(t∈aw→∃n r,look? x.types t=b6 (.tup (.int n :: r))∧(n=0↔t= s!"integer"))∧(t∉aw→look? x.types t=b8):=by
 obtain ⟨p1,p2,p3,p,i,_,_⟩:=hT.dict;rw [i];constructor
 ·intro h;simp only [aw,x8,H2,or_false] at h
  rcases h with rfl | rfl | rfl | rfl <;> exact ⟨_,_,rfl,by decide⟩
 ·intro h;simp only [aw,x8,H2,or_false,not_or] at h;rw [X8,iN (λe=>h.2.2.1 e.symm),X8,iN (λe=>h.2.1 e.symm),X8,iN (λe=>h.1 e.symm),X8,iN (λe=>h.2.2.2 e.symm)];rfl
theorem CN (hx:x.Ok) (hT:Types x):c0 b7 (N+1) (d+5) 488 [rd x] (S x a b ext)=(T5 x a).res V.str (pS x b ext):=by
 rw [d6 PW 2 rfl];have f:(now x a).text.length≤100:=t4 hx;have h1:=e8 (a:= s!"unknown datatype '") (m:=18) (by decide) f;have c:=e8 (a:= s!"unqualified type '") (m:=18) (by decide) f;obtain ⟨j,hB⟩:= @rZ x (now x a).text hT;wp_walk using PW,A0 hx,dE hx,k6 hx (w:= s!"string") (by decide);refine N3 (λh=>?_) λh=>rfl;by_cases hm:(now x a).text∈aw
 ·obtain ⟨n,r,e,g⟩:=j hm;rw [iP hm];wp_walk using S1,K6,ll hx,e,Li,xg,dE hx,Cf,A0 hx,s4 hx,t7 g,T6 hx,e9 (a:= s!"unqualified type '") (m:=18) (by decide) f,e9 c (b:= s!"' specified in set definition") (n:=29) (by decide);by_cases hi:(now x a).text= s!"integer"
  ·rw [iP hi,iP hi,hi];rfl
  ·rw [iN hi,iN hi];rfl
 ·rw [iN hm];wp_walk using S1,ll hx,hB hm,KN,Bool.not_false,T6 hx,e9 (a:= s!"unknown datatype '") (m:=18) (by decide) f,e9 h1 (b:= [39]) (n:=1) (by decide);rfl
def H5 (x:Bx):Nat→List (List Nat)→Nat→PR (List (List Nat))
 | 0,_,_=> .stuck
 | f+1,acc,a=>if K0 x a sSign [46] then (T5 x (a+1)).bind λt a=>H5 x f (acc++ [t]) a else .ok acc a
theorem Ht {f:Nat} {acc:List (List Nat)}:H5 x (f+1) acc a=if K0 x a sSign [46] then (T5 x (a+1)).bind λt a=>H5 x f (acc++ [t]) a else .ok acc a:=rfl
def tv (x:Bx) (f:Nat) (a:Nat):PR (List (List Nat)):=(T5 x a).bind λt a=>H5 x f [t] a
theorem qq (hx:x.Ok) (h:x.T.length≤a+1):¬K0 x a sSign t:=λc=>by
 have:=vV hx h;rw [c.1] at this;exact absurd this (by decide)
theorem qU {t:List Nat} {a':Nat} (h:T5 x a= .ok t a'):a'=a+1:=by
 delta T5 at h
 split at h
 ·split at h
  ·split at h
   ·cases h
   ·cases h;rfl
  ·cases h
 ·cases h
theorem rH (hx:x.Ok):∀(f:Nat) (acc:List (List Nat)) (a:Nat),1≤f→x.T.length < a+f→H5 x (f+1) acc a=H5 x f acc a:=by
 intro f
 induction f with
 | zero=>intro acc a h _;omega
 | succ f ih=>
  intro acc a _ h;rw [Ht]
  conv=>rhs;rw [Ht]
  by_cases h1:K0 x a sSign [46]
  ·rw [iP h1,iP h1];have c:a+1 < x.T.length:=by
    by_cases b:x.T.length≤a+1
    ·exact absurd h1 (qq hx b)
    ·omega
   cases i:T5 x (a+1) with
   | bad e a'=>rfl
   | stuck=>rfl
   | ok t a'=>
    have:=qU i;exact ih _ _ (by omega) (by omega)
  ·rw [iN h1,iN h1]
abbrev J2:List (List Nat)→V:=λl=> .tup (l.map V.str)
section
variable {γ:Type} {K:Out→γ} {Q:PR (List (List Nat))→γ}
theorem cM (hx:x.Ok) (hT:Types x) {a1:Nat} (O:∀(acc:List (List Nat)) a,acc.length≤5000→K (.next [b6 (rd x),b6 (.ref (S x a1 b ext).length),b8,b8] (S x a b (ext++ [.list (acc.map V.str)])))=Q (.ok acc a)) (g:∀e a ρ (acc:List (List Nat)),K (.bad e ρ (S x a b (ext++ [.list (acc.map V.str)])))=Q (.bad e a)) (hs:K .stuck=Q .stuck) :
  ∀f acc a,acc.length+f≤5000→K (F6 b7.tabs (N+1) (c0 b7 (N+1) (d+5)) b8 (l8 (d2 zH.body 1)) (f9 (d2 zH.body 1)) f [b6 (rd x),b6 (.ref (S x a1 b ext).length),b8,b8] (S x a b (ext++ [.list (acc.map V.str)])))=Q (H5 x f acc a)
 | 0,_,_,_=>hs
 | f+1,acc,a,i=>by
  have c:acc.length+1+f≤5000:=by omega
  refine V8 ?_;wp_walk using zH,d2,l8,f9,M1 hx,S0,CN hx hT;refine s9 (λh=>?_) λz=>O _ _ (d3 (A7 ..) i);refine d5 (λt a' _=>?_) (λz z=>g _ _ _ _) hs;wp_walk using aC (x:=x) (a1:=a1) (b1:=b) (ext:=ext) (l:= []) (L:=acc.map V.str) (v:= .str t) (by rw [u7];omega) rfl;have:=cM hx hT O g hs f (acc++ [t]) a' (by rw [u3];exact c);rw [aP] at this;exact this
end
theorem tL:∀{f acc a v a'},H5 x f acc a= .ok v a'→v.length≤acc.length+f
 | 0,_,_,_,_,h=>by cases h
 | f+1,acc,a,v,a',h=>by
  rw [Ht] at h
  split at h
  ·cases i:T5 x (a+1) with
   | bad e a'=>rw [i] at h;cases h
   | stuck=>rw [i] at h;cases h
   | ok t a'=>
    rw [i] at h;have:=tL h;rw [u3,A2,G3 _ f] at this;exact this
  ·cases h;exact A7 ..
theorem Jh (hx:x.Ok) (hT:Types x) (g:299≤N) (f:N≤1000):c0 b7 (N+1) (d+6) 495 [rd x] (S x a b ext)=(tv x N a).res J2 (pS x b ext):=by
 rw [d6 zH 3 rfl];wp_walk using zH,CN hx hT;refine d5 λt a' u=>?_;wp_walk using f0;rw [← rH hx N [t] a' (by omega) (by have:=hx.small;omega)];refine cM hx hT (Q:=PR.res J2 (pS x b ext)) (λacc c h=>?_) (λe c ρ acc=>cG (Res.bad _) n9) rfl (N+1) [t] a' (by rw [lW];omega);wp_walk using T7 (x:=x) (L:=acc.map V.str) (l:= []) (by rw [u7];exact d3 h (by decide))
def H6:List (List Nat):= [s!"constant",s!"dynamic",s!"interval",s!"timeout"]
def O8 (x:Bx):Nat→List (List Nat)→Nat→PR (List (List Nat))
 | 0,_,_=> .stuck
 | f+1,acc,a=>(u4 x H6 s!"unknown set flag" a).bind λt a=>if K0 x a sSign [44] then O8 x f (acc++ [t]) (a+1) else if f=0 then .stuck else .ok (acc++ [t]) a
theorem Th {f:Nat} {acc:List (List Nat)}:O8 x (f+1) acc a=(u4 x H6 s!"unknown set flag" a).bind λt a=>if K0 x a sSign [44] then O8 x f (acc++ [t]) (a+1) else if f=0 then .stuck else .ok (acc++ [t]) a:=rfl
def zc (acc:List (List Nat)):List (List Nat):=H6.filter λf=>decide (f∈acc)
def nj (x:Bx) (f:Nat) (a:Nat):PR (List (List Nat)):=(O8 x f [] a).bind λv a=> .ok (zc v) a
def bU (acc:List (List Nat)):List (List Nat×V):=acc.foldl (λes k=>A4 es k (.bool true)) []
theorem yB {acc:List (List Nat)}:bU (acc++ [t])=A4 (bU acc) t (.bool true):=by delta bU;rw [List.foldl_append];rfl
theorem lv:∀{acc:List (List Nat)} {es:List (List Nat×V)},(acc.foldl (λes k=>A4 es k (.bool true)) es).length≤es.length+acc.length
 | [],_=>i0 _
 | p :: r,es=>d3 (lv (acc:=r)) (by rw [G2,G3 r.length,← A2];exact T1 iY _)
theorem CK {acc:List (List Nat)}:(bU acc).length≤acc.length:=by
 simpa [bU] using lv (acc:=acc) (es:= [])
theorem uC {es:List (List Nat×V)}:∀{acc:List (List Nat)},(look? (acc.foldl (λes k=>A4 es k (.bool true)) es) t).isSome=(decide (t∈acc)||(look? es t).isSome):=by
 intro acc
 induction acc generalizing es with
 | nil=>simp
 | cons p r ih=>
  rw [Gb,ih,te];by_cases h:p=t
  ·simp [h]
  ·have h':¬t=p:=λe=>h e.symm;simp [h,h']
theorem xX {acc:List (List Nat)}:(look? (bU acc) t).isSome=decide (t∈acc):=by
 delta bU;rw [uC];simp [show look? ([]:List (List Nat×V)) t=b8 from rfl]
def Kp (acc:List (List Nat)):V→Bool
 | .str s=>decide (s∈acc)
 | _=>false
theorem jh {acc:List (List Nat)}:∀{m:List (List Nat)},(m.map V.str).filter (Kp acc)=(m.filter λf=>decide (f∈acc)).map V.str
 | []=>rfl
 | p :: r=>by
  rw [Q0,dU,jh,dU];show (if (decide (p∈acc))=true then _ else _)=_
  split <;> rfl
theorem lq {acc:List (List Nat)} {i j:Nat} {ρ:Loc} {v:V} (d:299≤N) (h:N≤1000) (T:ρ.length=i) (hv:(ρ[j]?)=b6 (b6 v)) (f:j < i)
  (hm:∀(t:List Nat) (l:List V),l7 (st++ [.list l]) .isin (.str t) v=b6 (decide (t∈acc))) :
  V2 b7.tabs (N+1) Φ (.loc i) (.cmp1 .isin (.loc i) (.loc j)) ρ (.tup (H6.map V.str)) st= .ok (.ref st.length) (st++ [.list ((zc acc).map V.str)]):=by
 rw [eT (p:=Kp acc) (l:=H6.map V.str) rfl (by show 4 < N+1;omega) (bn (by omega)),jh]
 ·rfl
 ·intro v hv;obtain ⟨c,b,rfl⟩:=O1.mp hv;rfl
 ·intro u r l;obtain ⟨c,b,rfl⟩:=O1.mp r;have e:(ρ++ [b6 (V.str c)])[i]?=b6 (b6 (.str c)):=by rw [← T,I2 (i0 _),I3];rfl
  have a:(ρ++ [b6 (V.str c)])[j]?=b6 (b6 v):=by rw [cg (by omega),hv]
  rw [iZ];wp_walk using U4 e,U4 a,hm;rfl
 ·intro u r l;have e:(ρ++ [b6 u])[i]?=b6 (b6 u):=by rw [← T,I2 (i0 _),I3];rfl
  rw [iZ];wp_walk using U4 e
theorem zN (hx:x.Ok):c0 b7 (N+1) (d+4) 481 [rd x,(.tup [.str s!"constant",.str s!"dynamic",.str s!"interval",.str s!"timeout"]),.str s!"unknown set flag"] (S x a b ext)=(u4 x H6 s!"unknown set flag" a).res V.str (pS x b ext):=
 kI hx (m:=H6) rfl (by decide)
theorem zG (hx:x.Ok):c0 b7 (N+1) (d+4) 769 [bk x,(.tup [.str s!"constant",.str s!"dynamic",.str s!"interval",.str s!"timeout"]),.str s!"unknown set flag"] (S x a b ext)=(u4 x H6 s!"unknown set flag" b).res V.str (lS x a ext):=
 rK hx (m:=H6) rfl
theorem dD (hx:x.Ok) {a1:Nat} {γ:Type} {K:Out→γ} {Q:PR (List (List Nat))→γ}
  (O:∀v a,K (.next [b6 (rd x),b6 (.tup [.str s!"constant",.str s!"dynamic",.str s!"interval",.str s!"timeout"]),b6 (.ref (S x a1 b ext).length),b6 (.bool false),b8,b8] (S x a b (ext++ [.dict (bU v)])))=Q (.ok v a))
  (i:∀e a ρ v,K (.bad e ρ (S x a b (ext++ [.dict (bU v)])))=Q (.bad e a)) (hs:K .stuck=Q .stuck):∀f acc a,acc.length+f≤800→
   K (F6 b7.tabs (N+1) (c0 b7 (N+1) (d+4)) b8 (l8 (d2 yF.body 3)) (f9 (d2 yF.body 3)) f [b6 (rd x),b6 (.tup [.str s!"constant",.str s!"dynamic",.str s!"interval",.str s!"timeout"]),b6 (.ref (S x a1 b ext).length),b6 (.bool true),b8,b8] (S x a b (ext++ [.dict (bU acc)])))=Q (O8 x f acc a)
 | 0,_,_,_=>hs
 | f+1,acc,a,j=>by
  have g:acc.length+1+f≤800:=by omega
  refine V8 ?_;wp_walk using yF,d2,l8,f9,zN hx;refine d5 (λt a' _=>?_) (λz z=>i _ _ _ _) hs;have c:=λρ (K:Out→γ)=>kE (ρ:=ρ) (KO:=K) (vT (x:=x) (a:=a') (b:=b) (a1:=a1) (b1:=b) (ext:=ext) (l:= []) (t:=t) (es:=bU acc) (v:= .bool true) (d3 CK (by omega)) rfl);rw [← yB] at c;wp_walk using c,M1 hx;refine s9 (λh=>?_) λh=>?_
  ·exact dD hx O i hs f (acc++ [t]) _ (by rw [u3];exact g)
  ·cases f with
   | zero=>exact hs
   | succ f=>
    refine V8 ?_;wp_walk using f0;exact O ..
theorem Hh (hx:x.Ok) (f:299≤N) (g:N≤700):c0 b7 (N+1) (d+5) 500 [rd x] (S x a b ext)=(nj x (N+1) a).res J2 (pS x b ext):=by
 rw [d6 yF 5 rfl];wp_walk using yF,show ∀st:St,E6 [] st= .ok (.ref st.length) (st++ [.dict (bU [])]) from λz=>rfl
 refine dD hx (Q:=λr=>PR.res J2 (pS x b ext) (r.bind λv a=> .ok (zc v) a)) (λv c=>?_) (λe c ρ v=>cG (Res.bad _) n9) rfl (N+1) [] a (by rw [O2];omega);have h:= @lq N (S x c b (ext++ [.dict (bU v)])) (c0 b7 (N+1) (d+4)) v 6 2 [b6 (rd x),b6 (.tup [.str s!"constant",.str s!"dynamic",.str s!"interval",.str s!"timeout"]),b6 (.ref (S x a b ext).length),b6 (.bool false),b8,b8] (.ref (S x a b ext).length) f (by omega) rfl rfl (by decide) (λt l=>by
   rw [cP,e7,bj,C5,C1];show b6 (look? (bU v) t).isSome=_;rw [xX])
 simp only [H6,Q0,wY] at h;wp_walk using h,T7 (x:=x) (ext:=ext++ [.dict (bU v)]) (L:=(zc v).map V.str) (l:= []) (by rw [u7];exact d3 (FY _ _) (by decide))
theorem VP {F:List V} {c d:Nat} {r:Nat} (hF:V.datas 20 F=true) (h:(S x a b (ext++ [.list []]))[r]?=b6 (.list F)):l7 (S x a b (ext++ [.list []])) .eq (.ref r) (.ref (S x c d ext).length)=b6 (decide (F= [])):=by
 refine (i7 h).trans ((i7 fE).trans ?_);rw [hF];cases F with
 | nil=>rfl
 | cons v r=>rfl
theorem Vu {F:List V} {c d:Nat} {r:Nat} (hF:V.datas 20 F=true) (h:(S x a b (ext++ [.list []]))[r]?=b6 (.list F)):l7 (S x a b (ext++ [.list []])) .ne (.ref r) (.ref (S x c d ext).length)=b6 (decide (F≠ [])):=
 oj h C1 hF
theorem ti {a' b':Nat} {o:AObj}:(S x a b (ext++o :: l++l'))[(S x a' b' ext).length]?=b6 o:=by
 rw [e7];exact C1
theorem R7 {D:Nat} {acc:List (List Nat)} (h:∀t∈acc,asc t):V.datas D (acc.map V.str)=true:=eE λv hv=>by
 obtain ⟨c,a,rfl⟩:=O1.mp hv;exact r9 (h c a)
theorem sI:∀t∈aw,asc t:=by decide
theorem IU:asc [46]:=by decide
theorem kN:asc [44]:=by decide
abbrev kL (x:Bx) (N P:V) (o3 o4:Option V):Loc:= [b6 (bk x),b6 N,b6 P,o3,o4,b8,b8,b8,b8,b8,b8,b8,b8]
theorem qV (hx:x.Ok) {acc:List (List Nat)} {P:V} {o3 o4:Option V} {a1 b1 c:Nat} (g:acc.length≤5000) {γ:Type} {K:Out→γ} {Q:PR (List Nat)→γ}
  (O:∀t f o3 o4,t∈aw→K (.next (kL x (.ref (S x a1 b1 ext).length) P o3 o4) (S x a f (ext++ .list ((acc++ [t]).map V.str) :: l)))=Q (.ok t f)) (i:∀e f ρ,K (.bad e ρ (S x a f (ext++ .list (acc.map V.str) :: l)))=Q (.bad e f)) :
  cSs b7.tabs (N+1) (c0 b7 (N+1) (d+5)) b8 (g8 (f9 (d2 x6.body 1)) 1) (kL x (.ref (S x a1 b1 ext).length) P o3 o4) (S x a c (ext++ .list (acc.map V.str) :: l)) K=Q (T5 x c):=by
 have k:=t4 (a:=c) hx;have h1:=e8 (a:= s!"unknown datatype '") (m:=18) (by decide) k;wp_walk using x6,d2,f9,g8,F4 hx,r8 hx (w:= s!"string") (by decide),S0;refine N3 (λh=>?_) λh=>i ..;refine N3 (λj=>?_) λj=>?_
 ·wp_walk using f0;refine s9 (λo=>?_) λo=>?_
  ·wp_walk using M8 hx;exact i ..
  ·wp_walk using Q6 hx (D9 h),aC (x:=x) (a1:=a1) (b1:=b1) (ext:=ext) (l:=l) (L:=acc.map V.str) (v:= .str (now x c).text) (by rw [u7];exact d3 g (by decide)) rfl;have:=O (now x c).text (c+1) (b6 (.str (now x c).sort)) (b6 (.str (now x c).text)) j;rw [aP] at this;exact this
 ·wp_walk using e9 (a:= s!"unknown datatype '") (m:=18) (by decide) k,e9 h1 (b:= [39]) (n:=1) (by decide),M8 hx;exact i ..
def nI (x:Bx):Nat→List (List Nat)→Nat→PR (List (List Nat))
 | 0,_,_=> .stuck
 | f+1,acc,b=>if acc= [] then (T5 x b).bind λt a=>H5 x f [t] a else H5 x (f+1) acc b
theorem RR {f:Nat} {acc:List (List Nat)}:nI x (f+1) acc b=if acc= [] then (T5 x b).bind λt a=>H5 x f [t] a else H5 x (f+1) acc b:=rfl
theorem zO:∀{f:Nat} {acc:List (List Nat)} {b:Nat},acc≠ []→nI x f acc b=H5 x f acc b
 | 0,_,_,_=>rfl
 | f+1,_,_,h=>iN h
theorem Ko {F:List (List Nat)} {l:St} {a1 b1 c h:Nat} (hF:∀t∈F,asc t):l7 (S x a b (ext++ .list (F.map V.str) :: l++ [.list []])) .eq (.ref (S x a1 b1 ext).length) (.ref (S x c h (ext++ .list (F.map V.str) :: l)).length)=b6 (decide (F.map V.str= [])):=VP (R7 hF) ti
theorem wB {F:List (List Nat)} {l:St} {a1 b1 c h:Nat} (hF:∀t∈F,asc t):l7 (S x a b (ext++ .list (F.map V.str) :: l++ [.list []]++ [.list []])) .ne (.ref (S x a1 b1 ext).length) (.ref (S x c h (ext++ .list (F.map V.str) :: l++ [.list []])).length)=b6 (decide (F.map V.str≠ [])):=Vu (R7 hF) (by rw [e7];exact ti)
theorem mn {F:List (List Nat)} (h:F≠ []):F.map V.str≠ []:=λc=>h (rU.mp c)
theorem mP {α:Type} {l:List α} {a:α}:l++ [a]≠ []:=λh=>by cases l <;> cases h
theorem oR {acc:List (List Nat)} (h:∀u∈acc,asc u) (i:asc t):∀u∈acc++ [t],asc u:=λu r=>(dP.mp r).elim (h u) λe=>U5.mp e▸i
section
variable {γ:Type} {K:Out→γ} {Q:PR (List (List Nat))→γ}
theorem cu (hx:x.Ok) {P:V} {a1 b1:Nat} (i:St)
  (O:∀(acc:List (List Nat)) j o3 o4 b,acc.length≤5000→K (.next (kL x (.ref (S x a1 b1 ext).length) P o3 o4) (S x a b (ext++ .list (acc.map V.str) :: (i++j))))=Q (.ok acc b)) (n:∀e b ρ o j,K (.bad e ρ (S x a b (ext++o :: j)))=Q (.bad e b)) (hs:K .stuck=Q .stuck) :
  ∀(f:Nat) (acc:List (List Nat)) (j:St) (o3 o4:Option V) (b:Nat),acc.length+f≤5000→(∀t∈acc,asc t)→
  K (F6 b7.tabs (N+1) (c0 b7 (N+1) (d+5)) b8 (l8 (d2 x6.body 1)) (f9 (d2 x6.body 1)) f (kL x (.ref (S x a1 b1 ext).length) P o3 o4) (S x a b (ext++ .list (acc.map V.str) :: (i++j))))=Q (nI x f acc b)
 | 0,_,_,_,_,_,_,_=>hs
 | f+1,acc,j,o3,o4,b,q,hF=>by
  have v:acc.length+1+f≤5000:=by omega
  have y:acc.length≤5000:=d3 (A7 ..) q;refine V8 ?_;have g:∀c l,cSs b7.tabs (N+1) (c0 b7 (N+1) (d+5)) b8 (g8 (f9 (d2 x6.body 1)) 1) (kL x (.ref (S x a1 b1 ext).length) P o3 o4) (S x a c (ext++ .list (acc.map V.str) :: (i++l))) (Ow b7.tabs (N+1) (c0 b7 (N+1) (d+5)) b8 (l8 (d2 x6.body 1)) (f9 (d2 x6.body 1)) f K)=Q ((T5 x c).bind λt a=>H5 x f (acc++ [t]) a):=λc l=>by
   exact qV hx y (Q:=λr=>Q (r.bind λt a=>H5 x f (acc++ [t]) a)) (λt k o3 o4 m=>(cu hx i O n hs f (acc++ [t]) l o3 o4 k (by rw [u3];exact v) (oR hF (sI t m))).trans (cG Q (zO (mP)))) λe k ρ=>n ..
  rw [show f9 (d2 x6.body 1)= .cons (d2 (f9 (d2 x6.body 1)) 0) (g8 (f9 (d2 x6.body 1)) 1) from rfl] at g ⊢;generalize g8 (f9 (d2 x6.body 1)) 1=T0 at g ⊢;simp only [x6,d2,l8,f9,g8] at g;wp_walk using x6,d2,f9,l8,i9,Ko hF,Z9 hx G8 IU;rw [RR];by_cases h:acc= []
  ·rw [iP h,iP (by rw [h];rfl)];wp_walk using wB hF,iN (show ¬acc.map V.str≠ [] by rw [h];exact λc=>c rfl),sr;simp only [e7,C5];refine (g ..).trans ?_;rw [h];rfl
  ·rw [iN h,iN (mn h),Ht];refine s9 (λp=>?_) λp=>?_
   ·wp_walk using wB hF,iP (mn h);simp only [e7,C5];exact g ..
   ·simp only [e7,C5];exact O _ _ _ _ _ y
theorem la:∀t∈H6,asc t:=by decide
theorem W4 {m:List (List Nat)} {t:List Nat} {a':Nat} (h:u4 x m w a= .ok t a'):t∈m:=by
 delta u4 at h
 split at h
 ·rename_i c;cases h;exact c.2
 ·cases h
def nE (x:Bx):Nat→List (List Nat)→Nat→PR (List (List Nat))
 | 0,_,_=> .stuck
 | f+1,acc,a=>if acc= []∨K0 x a sSign [44] then O8 x (f+1) acc (if acc= [] then a else a+1) else .ok acc a
theorem Os {f:Nat} {acc:List (List Nat)}:nE x (f+1) acc a=if acc= []∨K0 x a sSign [44] then O8 x (f+1) acc (if acc= [] then a else a+1) else .ok acc a:=rfl
theorem BF {f:Nat} {acc:List (List Nat)} {a:Nat}:O8 x (f+1) acc a=(u4 x H6 s!"unknown set flag" a).bind λt a=>nE x f (acc++ [t]) a:=by
 rw [Th];cases u4 x H6 s!"unknown set flag" a with
 | ok t a'=>
  rw [fY,fY];cases f with
  | zero=>rw [iP rfl,O8];split <;> rfl
  | succ f=>rw [iN (Nat.succ_ne_zero f),Os,t7 (show (acc++ [t]= []∨K0 x a' sSign [44])↔_ from or_iff_right mP),iN mP]
 | _=>rfl
theorem cj (hx:x.Ok) {r:V} {a1 b1:Nat} {γ:Type} {K:Out→γ} {Q:PR (List (List Nat))→γ}
  (O:∀(acc:List (List Nat)) j o3 o4 b,K (.next (kL x r (.ref (S x a1 b1 ext).length) o3 o4) (S x a b (ext++ .list (acc.map V.str) :: j)))=Q (.ok acc b)) (k:∀e b ρ o j,K (.bad e ρ (S x a b (ext++o :: j)))=Q (.bad e b)) (hs:K .stuck=Q .stuck) :
  ∀(f:Nat) (acc:List (List Nat)) (j:St) (o3 o4:Option V) (b:Nat),acc.length+f≤5000→(∀t∈acc,asc t)→
  K (F6 b7.tabs (N+1) (c0 b7 (N+1) (d+5)) b8 (l8 (d2 x6.body 3)) (f9 (d2 x6.body 3)) f (kL x r (.ref (S x a1 b1 ext).length) o3 o4) (S x a b (ext++ .list (acc.map V.str) :: j)))=Q (nE x f acc b)
 | 0,_,_,_,_,_,_,_=>hs
 | f+1,acc,j,o3,o4,b,q,hF=>by
  have i:acc.length+1+f≤5000:=by omega
  refine V8 ?_;have g:∀c l,cSs b7.tabs (N+1) (c0 b7 (N+1) (d+5)) b8 (g8 (f9 (d2 x6.body 3)) 1) (kL x r (.ref (S x a1 b1 ext).length) o3 o4) (S x a c (ext++ .list (acc.map V.str) :: l)) (Ow b7.tabs (N+1) (c0 b7 (N+1) (d+5)) b8 (l8 (d2 x6.body 3)) (f9 (d2 x6.body 3)) f K)=Q (O8 x (f+1) acc c):=λc l=>by
   wp_walk using x6,d2,f9,g8,S0,zG hx;rw [BF];refine d5 (λt m p=>?_) (λz z=>k _ _ _ _ _) hs;wp_walk using aC (x:=x) (a1:=a1) (b1:=b1) (ext:=ext) (l:=l) (L:=acc.map V.str) (v:= .str t) (by rw [u7];omega) rfl;have:=cj hx O k hs f (acc++ [t]) l o3 o4 m (by rw [u3];exact i) (oR hF (la t (W4 p)));rw [aP] at this;exact this
  rw [show f9 (d2 x6.body 3)= .cons (d2 (f9 (d2 x6.body 3)) 0) (g8 (f9 (d2 x6.body 3)) 1) from rfl] at g ⊢;generalize g8 (f9 (d2 x6.body 3)) 1=T0 at g ⊢;simp only [x6,d2,l8,f9,g8] at g;wp_walk using x6,d2,f9,l8,i9,Ko hF,Z9 hx G8 kN;rw [Os];by_cases h:acc= []
  ·rw [iP (Or.inl h),iP h,iP (by rw [h];rfl)];wp_walk using wB hF,iN (show ¬acc.map V.str≠ [] by rw [h];exact λc=>c rfl),sr;simp only [e7,C5];exact g ..
  ·rw [iN (mn h),iN h,t7 (or_iff_right h)];refine s9 (λn=>?_) λn=>?_
   ·wp_walk using wB hF,iP (mn h);simp only [e7,C5];exact g ..
   ·simp only [e7,C5];exact O ..
end
abbrev fk:List (List Nat)×List (List Nat)→V:=λp=> .tup [.tup (p.1.map V.str),.tup (p.2.map V.str)]
def bP (x:Bx) (f a:Nat):PR (List (List Nat)×List (List Nat)):=(tv x f a).bind λt a=>(V1 x (f+1) a).bind λz a=>(nj x (f+1) a).bind λfl a=> .ok (t,fl) a
theorem Gr (hx:x.Ok) (q:299≤N) (s:N≤700):c0 b7 (N+1) (d+6) 929 [bk x] (S x a b ext)=(bP x N b).res fk (lS x a ext):=by
 rw [d6 x6 12 rfl];have n:nI x (N+1) [] b=tv x N b:=by rw [RR,iP rfl];rfl
 rw [show x6.body= .cons (d2 x6.body 0) (.cons (.whl (l8 (d2 x6.body 1)) (f9 (d2 x6.body 1))) (.cons (d2 x6.body 2) (.cons (.whl (l8 (d2 x6.body 3)) (f9 (d2 x6.body 3))) (g8 x6.body 4)))) from rfl,bP,← n];have e:=λP=> @cu x a N d ext Res (cQ b7.tabs (N+1) (c0 b7 (N+1) (d+5)) b8 (.cons (d2 x6.body 2) (.cons (.whl (l8 (d2 x6.body 3)) (f9 (d2 x6.body 3))) (g8 x6.body 4))) (cc (S x a b ext).length)) (λr=>PR.res fk (lS x a ext) (r.bind λf a=>(V1 x (N+1) a).bind λz a=>(nj x (N+1) a).bind λfl a=> .ok (f,fl) a)) hx P a b [.list []];have y:=λf u a1 b1=> @cj x a N d (ext++ [.list (f.map V.str)]) hx u a1 b1 Res (cQ b7.tabs (N+1) (c0 b7 (N+1) (d+5)) b8 (g8 x6.body 4) (cc (S x a b ext).length)) (λr=>PR.res fk (lS x a ext) ((r.bind λv a=> .ok (zc v) a).bind λfl a=> .ok (f,fl) a));generalize l8 (d2 x6.body 1)=C at e ⊢;generalize f9 (d2 x6.body 1)=b1 at e ⊢;generalize l8 (d2 x6.body 3)=D at e y ⊢;generalize f9 (d2 x6.body 3)=B at e y ⊢;wp_walk using x6,d2,g8;simp only [x6,d2,g8] at e y;simp only [e7,C5,H1];refine e _ (λf j1 o3 o4 b' k=>?_) (λz z z z z=>cG (Res.bad _) n9) rfl (N+1) [] [] b8 b8 b (by rw [O2];omega) (λz h=>absurd h (H2));wp_walk using dC hx;refine d5 (λw c A=>?_) (λz z=>by exact cG (Res.bad _) n9) (by rfl);wp_walk using f0;have p:ext++AObj.list (f.map V.str) :: ([AObj.list []]++j1)=ext++ [AObj.list (f.map V.str)]++AObj.list [] :: j1:=by rw [e7];rfl
 have o:(S x a b (ext++ [.list []])).length=(S x a b (ext++ [.list (f.map V.str)])).length:=by
   rw [P2,P2,u3,u3];rfl
 rw [lS,p,o,nj,show O8 x (N+1) [] c=nE x (N+1) [] c by rw [Os,iP (Or.inl rfl),iP rfl]];refine y f _ _ _ (λv j o3 o4 g=>?_) (λz z z z z=>cG (Res.bad _) U2) rfl (N+1) [] j1 o3 o4 c (by rw [O2];omega) (λz h=>absurd h (H2));have hm:∀(t:List Nat) (l:List V),l7 (S x a g (ext++ [AObj.list (f.map V.str)]++AObj.list (v.map V.str) :: j)++ [AObj.list l]) .isin (.str t) (.ref (S x a b (ext++ [AObj.list (f.map V.str)])).length)=b6 (decide (t∈v)):=λt l=>by
  rw [cP,bj,ti];exact D1
 have m:= @lq N (S x a g (ext++ [AObj.list (f.map V.str)]++AObj.list (v.map V.str) :: j)) (c0 b7 (N+1) (d+5)) v 13 2 (kL x (.ref (S x a b ext).length) (.ref (S x a b (ext++ [AObj.list (f.map V.str)])).length) o3 o4) (.ref (S x a b (ext++ [AObj.list (f.map V.str)])).length) q (by omega) rfl rfl (by decide) hm;simp only [H6,Q0,wY] at m;have i:A1 .tuple [.ref (S x a b ext).length] (S x a g (ext++ [AObj.list (f.map V.str)]++AObj.list (v.map V.str) :: j))= .ok (.tup (f.map V.str)) (S x a g (ext++ [AObj.list (f.map V.str)]++AObj.list (v.map V.str) :: j)):=by
  rw [e7];exact T7 (by rw [u7];exact d3 k (by decide))
 wp_walk using i,m,T7 (x:=x) (ext:=ext++ [AObj.list (f.map V.str)]++AObj.list (v.map V.str) :: j) (L:=(zc v).map V.str) (l:= []) (by rw [u7];exact d3 (FY _ _) (by decide))
def qa (dp:Bool) (t:List Nat):Option Nat:=if dp then (if t= s!"ftp" then b6 21 else if t= s!"ssh" then b6 22 else b8) else (if t= s!"tcp" then b6 6 else if t= s!"udp" then b6 17 else b8)
def kn (dp:Bool):List Nat:=if dp then s!"inet_service" else s!"inet_proto"
def lim (dp:Bool):Nat:=if dp then 65536 else 256
def uP (dp:Bool):List (List Nat×V):=if dp then [(s!"ftp",.int 21),(s!"ssh",.int 22)] else [(s!"tcp",.int 6),(s!"udp",.int 17)]
theorem jJ {dp:Bool}:look? (uP dp) t=(qa dp t).map natV:=by
 cases dp
 ·show (if s!"tcp"=t then b6 (natV 6) else if s!"udp"=t then b6 (natV 17) else b8)=(if t= s!"tcp" then b6 6 else if t= s!"udp" then b6 17 else b8).map natV;simp only [eq_comm (b:=t),apply_ite (dK natV)];rfl
 ·show (if s!"ftp"=t then b6 (natV 21) else if s!"ssh"=t then b6 (natV 22) else b8)=(if t= s!"ftp" then b6 21 else if t= s!"ssh" then b6 22 else b8).map natV;simp only [eq_comm (b:=t),apply_ite (dK natV)];rfl
def nd (dp:Bool) (t:List Nat):Option Nat:=match qa dp t with
 | some n=>b6 n
 | none=>num t
def rh (dp:Bool) (t:List Nat):List Nat:= s!"Could not resolve '"++t++ s!"' as "++kn dp
def bR (x:Bx) (dp:Bool) (a:Nat):PR Nat:=if (now x a).sort=sWord∨(now x a).sort=sStr then (match nd dp (now x a).text with
  | some n=>if lim dp≤n then .bad (bw x a (now x a).text ((lim dp-1:Nat):Int)) a else .ok n (a+1)
  | none=> .bad (J1 x a (rh dp (now x a).text)) a)
 else .bad (p5 x a s!"value") a
theorem mu {m:Nat} {j:Nat} (a:j≤64):u6 .shr (.int (m:Int)) (.int (j:Int)) st= .ok (.int ((m / 2 ^ j:Nat):Int)) st:=by
 refine (iP (decide_eq_true ⟨V3 _,fx.mpr a⟩)).trans ?_;show Res.ok (.int (rO (m:Int) (2 ^ (j:Int).toNat))) st=_;rw [jR];exact cG (λi=>Res.ok (.int i) st) (by rw [Int.fdiv_eq_ediv_of_nonneg _ (JJ (Int.pow_pos (by decide))),Int.natCast_ediv,Int.natCast_pow];rfl)
theorem VH {m:Nat}:u6 .shr (.int (m:Int)) (.int 8) st= .ok (.int ((m / 256:Nat):Int)) st:=mu (j:=8) (by decide)
theorem SR {m:Nat}:u6 .shr (.int (m:Int)) (.int 16) st= .ok (.int ((m / 65536:Nat):Int)) st:=mu (j:=16) (by decide)
theorem TQ {v1 v2 v3 v:V}:s8 (.tup [v1,v2,v3,v]) (.int 3) st= .ok v st:=rfl
theorem UP {v1 v2 v3 v:V}:s8 (.tup [v1,v2,v3,v]) (.int 2) st= .ok v3 st:=rfl
theorem KA {v1 v:V}:s8 (.tup [v1,v]) (.int 1) st= .ok v st:=rfl
def Cb (dp:Bool):Option Nat→V
 | some m=>if lim dp≤m then .int (-1) else .int (m:Int)
 | none=> .none
theorem BR {m n:Nat} (g:0 < n):((m / n:Nat):Int)≠0↔n≤m:=by
 rw [ne_eq,qo,Nat.div_eq_zero_iff,← ae];exact not_congr (or_iff_right (Nat.pos_iff_ne_zero.mp g))
theorem yw (hx:x.Ok) (i:299≤N) {dp:Bool} {p:Nat} (hp:x.pre[p]?=b6 (.dict (uP dp))) (k:t.length≤100) (j:asc t) :
  c0 b7 (N+1) (d+3) 185 [.tup [.int (if dp then 16 else 8),.str s!"big",.str s!"number",.ref p],.int (if dp then 16 else 8),.str t] (S x a b ext)= .ok (Cb dp (nd dp t)) (S x a b ext):=by
 rw [d6 On 9 rfl];have g:l7 (S x a b ext) .isin (.str t) (.ref p)=b6 (qa dp t).isSome:=by
  rw [bj,kP hp];show b6 (look? (uP dp) t).isSome=_;rw [jJ,KU]
 have h1:∀st,c0 b7 (N+1) (d+2) 136 [.str t] st= .ok (y8 (num t)) st:=λst=>cw i (by omega) j;have e:∀m:Nat,u6 .shr (.int (m:Int)) (.int (if dp then 16 else 8)) (S x a b ext)= .ok (.int ((m / lim dp:Nat):Int)) (S x a b ext):=λm=>by
  cases dp
  ·exact VH
  ·exact SR
 have c:0 < lim dp:=by cases dp <;> decide
 have h:∀m:Nat,(if lim dp≤m then Res.ok (.int (-1)) (S x a b ext) else .ok (.int (m:Int)) (S x a b ext))= .ok (Cb dp (b6 m)) (S x a b ext):=λm=>by
  show _=Res.ok (if lim dp≤m then .int (-1) else .int (m:Int)) _
  split <;> rfl
 wp_walk using On,UP,TQ,g;delta nd;cases hs:qa dp t with
 | some m=>
  have f:s8 (.ref p) (.str t) (S x a b ext)= .ok (.int (m:Int)) (S x a b ext):=by
   rw [K6,kP hp];show (match look? (uP dp) t with | some v=>Res.ok v (S x a b ext) | none=> .stuck)=_;rw [jJ,hs];rfl
  wp_walk using rP,f,e,t7 (BR c),h
 | none=>
  wp_walk using rP,iN (show ¬(s!"number"= s!"ip4") by decide),iN (show ¬(s!"number"= s!"ip6") by decide),iN (show ¬(s!"number"= s!"mac") by decide),iN (show ¬(s!"number"= s!"name") by decide),iN (show ¬(s!"number"= s!"time") by decide),iN (show ¬(s!"number"= s!"mask") by decide),h1;cases num t with
  | none=>wp_walk using y8;rfl
  | some m=>wp_walk using y8,e,t7 (BR c),h
theorem wP (h:s.length≤1000):uF (.str s) st= .ok (.str s) st:=by
 show (if s.length≤sizeLim then Res.ok (.str s) st else .stuck)=_;rw [iP (bn (by omega))]
theorem vu {dp:Bool}:(p6 ((lim dp-1:Nat):Int)).length≤1000:=d3 (Y2 (j:=20) (by cases dp <;> decide) (by decide)) (by decide)
theorem wz {dp:Bool}:lim dp-1 < intLim:=aH (j:=16) (by cases dp <;> decide) (by decide)
theorem uI {dp:Bool}:(kn dp).length≤20:=by cases dp <;> decide
theorem uM (hx:x.Ok) {dp:Bool} (f:(now x a).text.length≤100):∀o:Option Nat,
  c0 b7 (N+1) (d+5) 347 [rd x,.tup [.str (kn dp),.int (if dp then 16 else 8)],.str (now x a).text,Cb dp o] (S x a b ext)
   =(match o with
  | some n=>if lim dp≤n then PR.bad (bw x a (now x a).text ((lim dp-1:Nat):Int)) a else .ok n a
  | none=> .bad (J1 x a (rh dp (now x a).text)) a).res natV (pS x b ext)
 | none=>by
  show c0 _ _ _ _ [_,_,_,V.none] _=_;have e:∀st,kF (.ok [.str s!"Could not resolve '",.str (now x a).text,.str s!"' as ",.str (kn dp)] st)= .ok (.str (rh dp (now x a).text)) st:=λst=>by
   refine (iP ?_).trans (cG (λs=>Res.ok (.str s) st) ?_)
   ·show 19+((now x a).text.length+(5+((kn dp).length+0)))≤sizeLim;exact d3 (X3 (dJ f (X3 uI 5)) 19) (by decide)
   ·simp only [v8,e7,H1,rh]
  rw [d6 uz 1 rfl];wp_walk using uz,Cf,wP (s:=(now x a).text) (d3 f (by decide)),wP (s:=kn dp) (d3 uI (by decide)),e,T6 hx
 | some m=>by
  by_cases hm:lim dp≤m
  ·rw [show Cb dp (b6 m)= .int (-1) from iP hm];show _=PR.res natV _ (if lim dp≤m then _ else _);rw [iP hm];have h:=mC (N:=N) (d:=d) (a:=a) (b:=b) (ext:=ext) hx (t:=(now x a).text) (i:=((lim dp-1:Nat):Int)) (d3 f (by decide)) wz vu
   have c:u6 .pow (.int 2) (.int (if dp then 16 else 8)) (S x a b ext)= .ok (.int ((lim dp-1:Nat)+1:Int)) (S x a b ext):=by cases dp <;> rfl
   rw [d6 uz 1 rfl];wp_walk using uz,if_true,KA,c,Int.add_sub_cancel,h
  ·rw [show Cb dp (b6 m)= .int (m:Int) from iN hm];show _=PR.res natV _ (if lim dp≤m then _ else _);rw [iN hm];rw [d6 uz 1 rfl];wp_walk using uz,iN (show ¬((m:Int)= -1) by omega)
theorem tw (hx:x.Ok) (hT:Types x) {dp:Bool}:∃p,x.pre[p]?=b6 (.dict (uP dp))∧∀N d a b ext,c0 b7 (N+1) (d+1) 340 [rd x,.str (kn dp)] (S x a b ext)= .ok (.tup [.int (if dp then 16 else 8),.str s!"big",.str s!"number",.ref p]) (S x a b ext):=by
 obtain ⟨p1,p2,p3,e,i,h,c⟩:=hT.dict;cases dp
 ·refine ⟨p1,h,λN d a b ext=>?_⟩;rw [d6 EB 1 rfl];have g:l7 (S x a b ext) .notin (.str (kn false)) (.ref x.ty)=b6 false:=by
   rw [S1,ll hx,i];rfl
  have hs:s8 (.ref x.ty) (.str (kn false)) (S x a b ext)= .ok (.tup [.int 8,.str s!"big",.str s!"number",.ref p1]) (S x a b ext):=by
   rw [K6,ll hx,i];rfl
  wp_walk using EB,dE hx,g,hs;rfl
 ·refine ⟨p2,c,λN d a b ext=>?_⟩;rw [d6 EB 1 rfl];have g:l7 (S x a b ext) .notin (.str (kn true)) (.ref x.ty)=b6 false:=by
   rw [S1,ll hx,i];rfl
  have hs:s8 (.ref x.ty) (.str (kn true)) (S x a b ext)= .ok (.tup [.int 16,.str s!"big",.str s!"number",.ref p2]) (S x a b ext):=by
   rw [K6,ll hx,i];rfl
  wp_walk using EB,dE hx,g,hs;rfl
theorem vz (hx:x.Ok) (hT:Types x) (g:299≤N) {dp:Bool}:c0 b7 (N+1) (d+8) 368 [rd x,.tup [.str (kn dp),.int (if dp then 16 else 8)]] (S x a b ext)=(bR x dp a).res natV (pS x b ext):=by
 obtain ⟨p,hp,c⟩:=tw hx hT (dp:=dp);have f:=t4 (a:=a) hx;have e:c0 b7 (N+1) (d+6) 354 [rd x,.tup [.str (kn dp),.int (if dp then 16 else 8)],.str (now x a).text] (S x a b ext)=(match nd dp (now x a).text with
  | some n=>if lim dp≤n then PR.bad (bw x a (now x a).text ((lim dp-1:Nat):Int)) a else .ok n a
  | none=> .bad (J1 x a (rh dp (now x a).text)) a).res natV (pS x b ext):=by
  rw [d6 MM 3 rfl];wp_walk using MM,Cf,KA,c,yw hx g hp f (v7 hx),uM hx f;refine G9 λz z z=>?_;wp_walk using f0
 rw [d6 NW 1 rfl];wp_walk using NW;refine (cG (kc _ _) (show c0 b7 (N+1) (d+7) 361 [rd x,.tup [.str (kn dp),.int (if dp then 16 else 8)],.int 0] (S x a b ext)=(bR x dp a).res natV (pS x b ext) from ?_)).trans ?_
 ·rw [d6 Ph 4 rfl];wp_walk using Ph,A0 hx,k6 hx (w:= s!"value") (by decide),e,th;refine N3 (λh=>?_) λh=>rfl;cases nd dp (now x a).text with
  | none=>wp_walk using f0
  | some m=>
   show i8 _ _ _ (PR.res natV _ (if lim dp≤m then _ else _))=_;by_cases hm:lim dp≤m
   ·rw [iP hm];wp_walk using iP hm
   ·rw [iN hm];wp_walk using iN (show ¬((m:Nat):Int) < 0 from kr.mpr (V3 m)),s4 hx,iN hm
 ·refine G9 λz z z=>?_;wp_walk using f0
theorem Y9 {m:Nat}:y8 (b6 m)= .int (m:Int):=rfl
theorem O6:y8 b8= .none:=rfl
theorem nk (hx:x.Ok) (s:299≤N) (e:N≤1000) {dp:Bool} {r:Nat} {b':Nat} (p:∀b,(S x a b (ext++l))[r]?=b6 (.dict (uP dp))) :
  cSs b7.tabs (N+1) (c0 b7 (N+1) (d+4)) b8 (g8 mN.body 1) [b6 (bk x),b6 (.str (kn dp)),b6 (.int (if dp then 16 else 8)),b6 (.ref r),b8,b8,b8,b8,b8,b8,b8,b8] (S x a b (ext++l)) (cc (S x a b' ext).length)=(bR x dp b).res natV (lS x a ext):=by
 have f:=t4 (a:=b) hx;have h1:∀st,c0 b7 (N+1) (d+4) 795 [.str (now x b).text] st= .ok (y8 (num (now x b).text)) st:=λst=>W6 s e (d3 f (by decide)) (v7 hx);have g:Q5 .get (.ref r) (S x a b (ext++l))=true:=by rw [aD,p]
 have c:o8 .get (.ref r) [.str (now x b).text,y8 (num (now x b).text)] (S x a b (ext++l))= .ok (y8 (nd dp (now x b).text)) (S x a b (ext++l)):=by
  rw [gP,p,nd];show Res.ok ((look? (uP dp) (now x b).text).getD _) _=_;rw [jJ]
  cases qa dp _ <;> rfl
 have j:u6 .pow (.int 2) (.int (if dp then 16 else 8)) (S x a b (ext++l))= .ok (.int ((lim dp:Nat):Int)) (S x a b (ext++l)):=by cases dp <;> rfl
 have k:((lim dp:Nat):Int)-1=((lim dp-1:Nat):Int):=by cases dp <;> rfl
 have o:=e8 (a:= s!"Could not resolve '") (m:=19) (by decide) f;have q:=e8 o (b:= s!"' as ") (n:=5) (by decide);wp_walk using mN,g8,F4 hx,r8 hx (w:= s!"value") (by decide),g,h1,c,th;refine N3 (λh=>?_) λh=>rfl;cases nd dp (now x b).text with
 | none=>
  wp_walk using O6,e9 (a:= s!"Could not resolve '") (m:=19) (by decide) f,e9 o (b:= s!"' as ") (n:=5) (by decide),e9 q uI,M8 hx;rfl
 | some m=>
  wp_walk using Y9,j,k,uO hx (t:=(now x b).text) (i:=((lim dp-1:Nat):Int)) (d3 f (by decide)) wz vu,ge_iff_le,fx;exact s9 (λz=>rfl) λz=>rfl
theorem wj (hx:x.Ok) (f:299≤N) (h:N≤1000) {dp:Bool}:c0 b7 (N+1) (d+5) 858 [bk x,.str (kn dp)] (S x a b ext)=(bR x dp b).res natV (lS x a ext):=by
 rw [d6 mN 10 rfl];have c:=λl r=>nk (x:=x) (a:=a) (b:=b) (N:=N) (d:=d) (ext:=ext) (l:=l) hx f h (dp:=dp) (r:=r) (b':=b);rw [show mN.body= .cons (d2 mN.body 0) (g8 mN.body 1) from rfl];generalize g8 mN.body 1=K at c;have e:(S x a b ext).length=(S x 0 0 ext).length+0:=by rw [P2,P2];rfl
 simp only [e] at c;cases dp
 all_goals
  wp_walk using mN,d2,i9,show ∀(v1 v2:V) (st:St),E6 [.str s!"tcp",v1,.str s!"udp",v2] st= .ok (.ref st.length) (st++ [.dict [(s!"tcp",v1),(s!"udp",v2)]]) from λz z z=>rfl,show ∀(v1 v2:V) (st:St),E6 [.str s!"ftp",v1,.str s!"ssh",v2] st= .ok (.ref st.length) (st++ [.dict [(s!"ftp",v1),(s!"ssh",v2)]]) from λz z z=>rfl,show ∀(v1 v2:V) (st:St),E6 [.str s!"inet_proto",v1,.str s!"inet_service",v2] st= .ok (.ref st.length) (st++ [.dict [(s!"inet_proto",v1),(s!"inet_service",v2)]]) from λz z z=>rfl,e,Fe,e7,C5,H1,K6,gb,show ∀v1 v2:V,look? [(s!"inet_proto",v1),(s!"inet_service",v2)] (kn false)=b6 v1 from λz z=>rfl,show ∀v1 v2:V,look? [(s!"inet_proto",v1),(s!"inet_service",v2)] (kn true)=b6 v2 from λz z=>rfl,G2,O2,Nat.reduceAdd
  exact c _ _ (λb=>gb)
def vocE:List (List Nat):= [[123],[125],[59],[10],[61],[44],[46],s!"type",s!"hook",s!"priority",s!"ingress",s!"devices",s!"ip",s!"inet",[53],s!"70000",s!"tcp",s!"over",s!"bytes",s!"kbytes",s!"used",s!"+3",s!"ct",s!"ssh",s!"dport",s!"protocol",s!"17",s!"300",s!"nope",s!"ftp",s!"0x15",s!"timeout",s!"2s",s!"90",s!"1m30s",[120],s!"size",s!"0x10",s!"-1",s!"l3proto",s!"ip6",s!"arp",[115],[]]
def vG:List Nat:= s!"0123456789"
def wS (t:List Nat):Option Nat:=if t= s!"2s" then b6 2000 else if t= s!"1m30s" then b6 90000 else b8
def fN (t:List Nat):Option Nat:=match wS t with
 | some n=>b6 n
 | none=>if t≠ []∧Y5 vG t= [] then (j7 10 0 t).map (1000* ·) else b8
set_option maxHeartbeats 2000000 in
theorem EH {M:Nat} (i:t∈vocE):c0 b7 (M+50) (d+3) 157 [.str t] st= .ok (y8 (fN t)) st:=
 Fy.mp (show vocE.map (λt=>c0 b7 (M+50) (d+3) 157 [.str t] st)=vocE.map λt=> .ok (y8 (fN t)) st from rfl) t i
theorem jD:∀t∈vocE,(fN t).all (· < 18446744073709551616)=true∧(t≠ []→Y5 vG t= []→(j7 10 0 t).isSome=true)∧(num t).all (·≤4294967295)=true∧(j7 10 0 t).all (· < 100000000)=true:=by decide
def nL (x:Bx):Prop:=∀k∈x.T,k.text∈vocE
theorem nH (hx:x.Ok) (h:nL x):(now x a).text∈vocE:=h _ (E7 hx)
def qW (x:Bx) (a:Nat):PR Nat:=if (now x a).sort=sWord then (match fN (now x a).text with
  | some n=> .ok n (a+1)
  | none=> .bad (p5 x a s!"time") a)
 else .bad (p5 x a s!"time") a
theorem Vq {m:Nat} (h:m < 18446744073709551616):u6 .shr (.int (m:Int)) (.int 64) st= .ok (.int 0) st:=(mu (j:=64) (by decide)).trans (by rw [Nat.div_eq_of_lt h];rfl)
theorem OC (hx:x.Ok) (f:nL x) (g:299≤N):c0 b7 (N+1) (d+5) 333 [rd x] (S x a b ext)=(qW x a).res natV (pS x b ext):=by
 rw [d6 NS 5 rfl];have hm:=nH (a:=a) hx f;have e:=(jD _ hm).1;have i:∀st,c0 b7 (N+1) (d+4) 157 [.str (now x a).text] st= .ok (y8 (fN (now x a).text)) st:=λst=>by
  obtain ⟨M,rfl⟩:∃M,N=M+49:=⟨N-49,by omega⟩
  exact EH hm
 wp_walk using NS,A0 hx,i,k6 hx (w:= s!"time") (by decide);refine s9 (λh=>?_) λh=>rfl;generalize fN (now x a).text=o at e;cases o with
 | none=>wp_walk using O6,k6 hx (w:= s!"time") (by decide)
 | some m=>wp_walk using Y9,Vq (of_decide_eq_true e),iN (show ¬((0:Int)≠0) from λc=>c rfl),s4 hx
theorem xH:(look? [(s!"2s",V.int 2000),(s!"1m30s",.int 90000)] t).getD .none=y8 (wS t):=by
 show (if s!"2s"=t then b6 (V.int 2000) else if s!"1m30s"=t then b6 (V.int 90000) else b8).getD .none=_;delta wS;simp only [eq_comm (b:=t)]
 repeat' split
 all_goals rfl
theorem OY (hx:x.Ok) (q:nL x):c0 b7 (N+1) (d+5) 865 [bk x] (S x a b ext)=(qW x b).res natV (lS x a ext):=by
 rw [d6 NG 6 rfl];have p:=t4 (a:=b) hx;obtain ⟨r,l,s,g⟩:=jD _ (nH (a:=b) hx q);have k:∀st,o8 .strip (.str (now x b).text) [.str s!"0123456789"] st= .ok (.str (Y5 vG (now x b).text)) st:=λst=>iP (d3 p (by decide));have he:=λe=>r8 (N:=N) (d:=d) (a:=a) (b:=b) (ext:=e) hx (w:= s!"time") (by decide);wp_walk using NG,F4 hx,show ∀(v1 v2:V) (st:St),E6 [.str s!"2s",v1,.str s!"1m30s",v2] st= .ok (.ref st.length) (st++ [.dict [(s!"2s",v1),(s!"1m30s",v2)]]) from λz z z=>rfl,kS,eO,xH
 rw [qW,fN];cases wS (now x b).text with
 | some n=>
  wp_walk using Y9,he;exact N3 (λz=>rfl) λz=>rfl
 | none=>
  wp_walk using O6,Cz,k,R6;by_cases o:(now x b).text≠ []∧Y5 vG (now x b).text= []
  ·rw [iP o,iP o];have f:=l o.1 o.2;have hint:∀n st,j7 10 0 (now x b).text=b6 n→A1 .int [.str (now x b).text] st= .ok (.int (n:Int)) st:=λn st h=>by
    refine (iP ⟨d3 p (by decide),o.1⟩).trans ?_;rw [h];rfl
   cases c:j7 10 0 (now x b).text with
   | none=>rw [c] at f;cases f
   | some m=>
    rw [c] at g;have i:((m:Nat):Int).natAbs < intLim:=aH (j:=16) (Ga (of_decide_eq_true g) (by decide)) (by decide);wp_walk using hint m _ c,vg (show (1000:Int).natAbs < intLim from aH (m:=1000) (j:=16) (by decide) (by decide)) i,show (1000:Int)*(m:Int)=((1000*m:Nat):Int) from rfl,he,xx
    exact N3 (λz=>rfl) λz=>rfl
  ·rw [iN o,iN o];wp_walk using he,ite_self
abbrev S2:=List (List Nat×Nat)
def s0 (lg:S2):List (List Nat×V):=lg.foldl (λes p=>A4 es p.1 (.int (p.2:Int))) []
def D0 (lg:S2) (w:List Nat):Option Nat:=lg.foldl (λo p=>if p.1=w then b6 p.2 else o) b8
theorem tp {lg:S2} {p:List Nat×Nat}:s0 (lg++ [p])=A4 (s0 lg) p.1 (.int (p.2:Int)):=by delta s0;rw [List.foldl_append];rfl
theorem zg {lg:S2}:(s0 lg).length≤lg.length:=by
 have:∀(lg:S2) (es:List (List Nat×V)),(lg.foldl (λes p=>A4 es p.1 (.int (p.2:Int))) es).length≤es.length+lg.length:=by
  intro lg
  induction lg with
  | nil=>exact λes=>i0 _
  | cons p r ih=>exact λes=>d3 (ih _) (by rw [G2,G3 r.length,← A2];exact T1 iY _)
 have h:=this lg []
 rwa [O2,gC] at h
theorem gR {lg:S2}:look? (s0 lg) w=(D0 lg w).map natV:=by
 have:∀(lg:S2) (es:List (List Nat×V)) (o:Option Nat),look? es w=o.map natV→look? (lg.foldl (λes p=>A4 es p.1 (.int (p.2:Int))) es) w=(lg.foldl (λo p=>if p.1=w then b6 p.2 else o) o).map natV:=by
  intro lg
  induction lg with
  | nil=>intro es o h;exact h
  | cons p r ih=>
   intro es o h;rw [Gb,Gb];apply ih;rw [te];by_cases c:p.1=w
   ·rw [iP c,iP c];rfl
   ·rw [iN c,iN c,h]
 exact this lg [] b8 rfl
def rowsE:List (List Nat):= [s!"protocol",s!"dport",s!"timeout",s!"size",s!"l3proto"]
def mX:List Nat:= s!"an expectation has protocol, dport, timeout, size, l3proto"
def Ja (x:Bx) (w:List Nat) (a:Nat):PR Nat:=
 if w= s!"protocol" then bR x false a else if w= s!"dport" then bR x true a else if w= s!"timeout" then qW x a else if w= s!"size" then T8 x a
 else (u4 x [s!"ip",s!"ip6"] s!"l3proto is ip or ip6" a).bind λt a=> .ok (if t= s!"ip" then 2 else 10) a
def sk (x:Bx) (F:Nat):Nat→S2→Nat→PR S2
 | 0,_,_=> .stuck
 | f+1,lg,a=>if K0 x a sSign [125] then .ok lg (a+1) else (u4 x rowsE mX a).bind λw a=>(Ja x w a).bind λn a=>(V1 x F a).bind λz a=>sk x F f (lg++ [(w,n)]) a
theorem ux (hx:x.Ok) (b:nL x):K2 x 4294967295 a=T8 x a:=by
 obtain ⟨_,_,hv,_⟩:=jD _ (nH (a:=a) hx b);delta K2 T8;by_cases h:(now x a).sort=sWord
 ·rw [iP h,iP h];cases g:num (now x a).text with
  | none=>rfl
  | some m=>
   rw [g] at hv;have:m≤4294967295:=by simpa using hv
   dsimp only;rw [iN (by omega)]
 ·rw [iN h,iN h]
theorem PX (hx:x.Ok):c0 b7 (N+1) (d+4) 481 [rd x,(.tup [.str s!"protocol",.str s!"dport",.str s!"timeout",.str s!"size",.str s!"l3proto"]),.str mX] (S x a b ext)=(u4 x rowsE mX a).res V.str (pS x b ext):=kI hx (m:=rowsE) rfl (by decide)
theorem LW (hx:x.Ok):c0 b7 (N+1) (d+4) 769 [bk x,(.tup [.str s!"protocol",.str s!"dport",.str s!"timeout",.str s!"size",.str s!"l3proto"]),.str mX] (S x a b ext)=(u4 x rowsE mX b).res V.str (lS x a ext):=rK hx (m:=rowsE) rfl
theorem Qr (hx:x.Ok):c0 b7 (N+1) (d+4) 481 [rd x,(.tup [.str s!"ip",.str s!"ip6"]),.str s!"l3proto is ip or ip6"] (S x a b ext)=(u4 x [s!"ip",s!"ip6"] s!"l3proto is ip or ip6" a).res V.str (pS x b ext):=kI hx (m:= [s!"ip",s!"ip6"]) rfl (by decide)
theorem Ng (hx:x.Ok):c0 b7 (N+1) (d+4) 769 [bk x,(.tup [.str s!"ip",.str s!"ip6"]),.str s!"l3proto is ip or ip6"] (S x a b ext)=(u4 x [s!"ip",s!"ip6"] s!"l3proto is ip or ip6" b).res V.str (lS x a ext):=rK hx (m:= [s!"ip",s!"ip6"]) rfl
abbrev F5:AObj:= .dict [(s!"ip",.int 2),(s!"ip6",.int 10)]
abbrev pL (x:Bx) (N w:Nat) (o4:Option V):Loc:= [b6 (rd x),b6 (.ref N),b6 (.tup [.str s!"protocol",.str s!"dport",.str s!"timeout",.str s!"size",.str s!"l3proto"]),b6 (.ref w),o4,b8,b8,b8,b8,b8,b8,b8]
section
variable {γ:Type} {KO:Out→γ}
theorem JR {a1 b1:Nat} {lg:S2} {n:Nat} (f:lg.length≤900):gz ρ KO (.int (n:Int)) (.ref (S x a1 b1 ext).length) (.str w) (S x a b (ext++AObj.dict (s0 lg) :: l))=KO (.next ρ (S x a b (ext++AObj.dict (s0 (lg++ [(w,n)])) :: l))):=by
 have:= @zg lg;rw [tp];exact kE (vT (by omega) rfl)
end
theorem HO {a1:Nat} {D:AObj}:∀(t:List Nat) c,t∈ [s!"ip",s!"ip6"]→s8 (.ref (S x a1 b ext).length) (.str t) (S x c b (ext++ [F5]++ [D]))= .ok (.int ((if t= s!"ip" then 2 else 10:Nat):Int)) (S x c b (ext++ [F5]++ [D])):=λt c hm=>by
     rw [e7];refine (G4 fE).trans ?_;simp only [x8,H2,or_false] at hm
     rcases hm with rfl | rfl <;> rfl
theorem sQ (hx:x.Ok) (hT:Types x) (u:nL x) (t:299≤N) {a1 m:Nat} {γ:Type} {K:Out→γ} {Q:PR S2→γ}
  (O:∀lg o4 a',K (.next (pL x (S x a1 b ext).length (S x m b (ext++ [F5])).length o4) (S x a' b (ext++ [F5]++ [.dict (s0 lg)])))=Q (.ok lg a'))
  (j:∀e ρ lg a',K (.bad e ρ (S x a' b (ext++ [F5]++ [.dict (s0 lg)])))=Q (.bad e a')) (hs:K .stuck=Q .stuck):∀(f:Nat) (lg:S2) (o4:Option V) (a:Nat),lg.length+f≤900→
  K (F6 b7.tabs (N+1) (c0 b7 (N+1) (d+8)) b8 (l8 (d2 Q7.body 4)) (f9 (d2 Q7.body 4)) f (pL x (S x a1 b ext).length (S x m b (ext++ [F5])).length o4) (S x a b (ext++ [F5]++ [.dict (s0 lg)])))
  =Q (sk x (N+1) f lg a):=by
 intro f
 induction f with
 | zero=>intro lg o4 a _;exact hs
 | succ f ih=>
  intro lg o4 a A;simp only [Q7,d2,l8,f9] at ih;have k:∀st,o8 .join (.str s!", ") [(.tup [.str s!"protocol",.str s!"dport",.str s!"timeout",.str s!"size",.str s!"l3proto"])] st= .ok (.str s!"protocol, dport, timeout, size, l3proto") st:=λz=>rfl;have s:∀st,u6 .add (.str s!"an expectation has ") (.str s!"protocol, dport, timeout, size, l3proto") st= .ok (.str mX) st:=λst=>Ve.trans (iP (by decide));refine V8 ?_;wp_walk using Q7,d2,l8,f9,M1 hx,RT;refine s9 (λh=>O ..) λh=>?_;wp_walk using gN,k,s,PX hx;refine d5 (λw a' B=>?_) (λz z=>j _ _ _ _) hs;have q:=vz (x:=x) (N:=N) (d:=d) (a:=a') (b:=b) (ext:=ext++ [F5]++ [.dict (s0 lg)]) hx hT t (dp:=false);have r:=vz (x:=x) (N:=N) (d:=d) (a:=a') (b:=b) (ext:=ext++ [F5]++ [.dict (s0 lg)]) hx hT t (dp:=true);simp only [kn,if_true,if_false,bF] at q r;have i:=aG (x:=x) (N:=N) (d:=d+2) (a:=a') (b:=b) (ext:=ext++ [F5]++ [.dict (s0 lg)]) (top:=4294967295) hx t rfl jq eA;rw [ux hx u] at i;have p:∀st,u6 .pow (.int 2) (.int 32) st= .ok (.int 4294967296) st:=λz=>rfl;have g:∀w n c,gz (pL x (S x a1 b ext).length (S x m b (ext++ [F5])).length (b6 (.str w))) (cQ b7.tabs (N+1) (c0 b7 (N+1) (d+8)) b8 (g8 (f9 (d2 Q7.body 4)) 2) (Ow b7.tabs (N+1) (c0 b7 (N+1) (d+8)) b8 (l8 (d2 Q7.body 4)) (f9 (d2 Q7.body 4)) f K)) (natV n) (.ref (S x m b (ext++ [F5])).length) (.str w) (S x c b (ext++ [F5]++ [.dict (s0 lg)]))=Q ((V1 x (N+1) c).bind λz a=>sk x (N+1) f (lg++ [(w,n)]) a):=λw n c=>by
   rw [JR (x:=x) (a:=c) (b:=b) (a1:=m) (b1:=b) (ext:=ext++ [F5]) (l:= []) (w:=w) (lg:=lg) (n:=n) (by omega)];wp_walk using Q7,d2,l8,f9,g8,bg hx;refine d5 (λ_ v y=>?_) (λz z=>j _ _ _ _) hs;wp_walk using nf;exact ih _ _ _ (by rw [u3,lW];omega)
  simp only [Q7,d2,l8,f9,g8] at g;delta Ja;wp_walk using lm;refine s9 (λh=>?_) λh=>?_
  ·wp_walk using q;refine d5 (λn c o=>?_) (λz z=>j _ _ _ _) hs;wp_walk using f0;exact g _ _ _
  refine s9 (λh=>?_) λh=>?_
  ·wp_walk using r;refine d5 (λn c o=>?_) (λz z=>j _ _ _ _) hs;wp_walk using f0;exact g _ _ _
  refine s9 (λh=>?_) λh=>?_
  ·wp_walk using OC hx u t;refine d5 (λn c o=>?_) (λz z=>j _ _ _ _) hs;wp_walk using f0;exact g _ _ _
  refine s9 (λh=>?_) λh=>?_
  ·wp_walk using p,show (4294967296:Int)-1=((4294967295:Nat):Int) from rfl,i
   refine d5 (λn c o=>?_) (λz z=>j _ _ _ _) hs;wp_walk using f0;exact g _ _ _
  ·wp_walk using Qr hx;rw [jf];refine d5 (λn c o=>?_) (λz z=>j _ _ _ _) hs;wp_walk using HO _ _ (W4 o);exact g _ _ _
theorem fD {α β:Type} {h:α→β}:∀{l:List α},l.flatMap (λx=> [h x])=l.map h
 | []=>rfl
 | _ :: r=>cG _ (fD (l:=r))
theorem qM {e:CE} {v:V} {l:List V} {h:V→V} (hs:P7 v st=b6 (.fix l)) (b:l.length < N) (a:N≤sizeLim)
  (d:∀x∈l,(h x).flat=true)
  (he:∀x∈l,∀acc,i4 b7.tabs N Φ e (ρ++ [b6 x]) (st++ [.list acc])= .ok (h x) (st++ [.list acc])) :
  S6 b7.tabs N Φ e ρ v st= .ok (.ref st.length) (st++ [.list (l.map h)]):=by
 delta S6;rw [hs];refine (gO (g:=λx=> [h x]) (λz z=>rfl) (λx hx acc c=>?_) (λz=>i0 _) l N 0 [] rfl b (i0 0)).trans ?_
 ·rw [he x hx,Hr,bK (M6 (Ga c b) a) (d x hx)]
 ·rw [H1,fD]
def SU (w:List Nat):List Nat:= s!"expectation definition does not specify "++w
theorem W7:∀{l:List Nat},V.flats (l.map natV)=true
 | []=>rfl
 | _ :: r=>W7 (l:=r)
def chk (x:Bx) (lg:S2):List (List Nat)→Nat→PR (List Nat)
 | [],a=> .ok (rowsE.map λw=>(D0 lg w).getD 0) a
 | w :: r,a=>if D0 lg w=b8 then .bad (J1 x a (SU w)) a else chk x lg r a
def Bv (f:List Nat):Nat:=if f= s!"ip" then 2 else if f= s!"ip6" then 10 else 0
def zY (x:Bx) (F a:Nat):PR (List Nat):=(lO x F a).bind λz a=>(sk x F F [(s!"l3proto",Bv x.fam)] a).bind λlg a=>chk x lg rowsE a
abbrev dk:List Nat→V:=λl=> .tup (l.map natV)
def Yr (lg:S2):V→V
 | .str w=> .int (((D0 lg w).getD 0:Nat):Int)
 | _=> .none
theorem qE {f:List Nat}:(look? [(s!"ip",V.int 2),(s!"ip6",.int 10)] f).getD (.int 0)= .int ((Bv f:Nat):Int):=by
 show (if s!"ip"=f then b6 (V.int 2) else if s!"ip6"=f then b6 (V.int 10) else b8).getD _=_;delta Bv;simp only [eq_comm (b:=f)]
 repeat' split
 all_goals rfl
theorem vW {a1 b1:Nat} {lg:S2}:l7 (S x a b (ext++ [.dict (s0 lg)])) .notin (.str w) (.ref (S x a1 b1 ext).length)=b6 (decide (D0 lg w=b8)):=by
 rw [S1,C1];show b6 (!(look? (s0 lg) w).isSome)=_;rw [gR]
 cases D0 lg w <;> rfl
theorem Up {a1 b1:Nat} {lg:S2} (h:¬D0 lg w=b8):s8 (.ref (S x a1 b1 ext).length) (.str w) (S x a b (ext++ [.dict (s0 lg)]++l))= .ok (.int (((D0 lg w).getD 0:Nat):Int)) (S x a b (ext++ [.dict (s0 lg)]++l)):=by
 rw [K6,e7,C1];show (match look? (s0 lg) w with | some v=>Res.ok v _ | none=> .stuck)=_;rw [gR];cases c:D0 lg w with
 | none=>exact absurd c h
 | some m=>rfl
theorem lF {ρ:Loc} {i j:Nat} {lg:S2} {a1 b1:Nat} (n:299≤N) (m:N≤700) (T:ρ.length=i) (o:j < i) (f:ρ[j]?=b6 (b6 (.ref (S x a1 b1 ext).length)))
  (d:∀w∈rowsE,¬D0 lg w=b8) :
  S6 b7.tabs (N+1) Φ (.sub (.loc j) (.loc i)) ρ (.tup [.str s!"protocol",.str s!"dport",.str s!"timeout",.str s!"size",.str s!"l3proto"]) (S x a b (ext++ [.dict (s0 lg)]))= .ok (.ref (S x a b (ext++ [.dict (s0 lg)])).length) (S x a b (ext++ [.dict (s0 lg)]++ [.list ((rowsE.map λw=>(D0 lg w).getD 0).map natV)])):=by
 rw [qM (h:=Yr lg) (l:=rowsE.map V.str) rfl (by show 5 < N+1;omega) (bn (by omega)),cP]
 ·rw [wV,wV];rfl
 ·intro v hv;obtain ⟨c,g,rfl⟩:=O1.mp hv;rfl
 ·intro v hv acc;obtain ⟨c,g,rfl⟩:=O1.mp hv;have e:(ρ++ [b6 (V.str c)])[i]?=b6 (b6 (.str c)):=by rw [← T,I2 (i0 _),I3];rfl
  have k:(ρ++ [b6 (V.str c)])[j]?=b6 (b6 (.ref (S x a1 b1 ext).length)):=by rw [cg (by omega),f]
  rw [cP];rw [iZ];wp_walk using U4 e,U4 k,Up (d c g);rfl
theorem qA:∀(v1 v2:V) (st:St),E6 [.str s!"ip",v1,.str s!"ip6",v2] st= .ok (.ref st.length) (st++ [.dict [(s!"ip",v1),(s!"ip6",v2)]]):=λz z z=>rfl
theorem vF:∀(n:Nat) (st:St),E6 [.str s!"l3proto",.int (n:Int)] st= .ok (.ref st.length) (st++ [.dict (s0 [(s!"l3proto",n)])]):=λz z=>rfl
theorem oP (hx:x.Ok) {lg:S2} {g a1 b1 c:Nat} {K:Out→Res} {Q:PR (List Nat)→Res} (O:∀o4,(∀w∈rowsE,¬D0 lg w=b8)→K (.next (pL x g (S x a1 b1 ext).length o4) (S x c b (ext++ [.dict (s0 lg)])))=Q (.ok (rowsE.map λw=>(D0 lg w).getD 0) c))
  (i:∀e ρ,K (.bad e ρ (S x c b (ext++ [.dict (s0 lg)])))=Q (.bad e c)):∀(l:List (List Nat)) (o4:Option V),(∀w∈l,w.length≤10)→(∀w∈rowsE,w∉l→¬D0 lg w=b8)→
  K (Fl b7.tabs (N+1) (c0 b7 (N+1) (d+8)) b8 (.name 4) (f9 (d2 Q7.body 5)) (l.map V.str) (pL x g (S x a1 b1 ext).length o4) (S x c b (ext++ [.dict (s0 lg)])))=Q (chk x lg l c)
 | [],o4,_,f=>O o4 λw k=>f w k H2
 | w :: l,o4,h1,f=>by
  refine iX (ρ':=pL x g (S x a1 b1 ext).length (b6 (.str w))) rfl ?_;wp_walk using Q7,d2,f9,vW,T6 hx,e9 (a:= s!"expectation definition does not specify ") (m:=40) (by decide) (h1 w (D6 ..));refine s9 (λz=>i ..) λh=>oP hx O i l _ (λu r=>h1 u (F1 _ r)) λu r j=>?_;by_cases e:u=w
  ·rw [e];exact h
  ·exact f u r λm=>(x8.mp m).elim e j
theorem Ud (hx:x.Ok) (hT:Types x) (m:nL x) (k:299≤N) (g:N≤700):c0 b7 (N+1) (d+9) 512 [rd x] (S x a b ext)=(zY x (N+1) a).res dk (pS x b ext):=by
 rw [d6 Q7 11 rfl];have e:=λK Q=> @sQ x b N d ext hx hT m k a a Res K Q;rw [show Q7.body= .cons (d2 Q7.body 0) (.cons (d2 Q7.body 1) (.cons (d2 Q7.body 2) (.cons (d2 Q7.body 3) (.cons (.whl (l8 (d2 Q7.body 4)) (f9 (d2 Q7.body 4))) (g8 Q7.body 5))))) from rfl];generalize l8 (d2 Q7.body 4)=t at e ⊢;generalize f9 (d2 Q7.body 4)=b1 at e ⊢;wp_walk using Q7,d2,g8,qA,kS,eO,qE,vF,ui hx;refine d5 (λ_ a' _=>?_) (λz z=>cG (Res.bad _) U2) rfl;wp_walk using f0;refine e _ (λr=>PR.res dk (pS x b ext) (r.bind λlg a=>chk x lg rowsE a)) (λlg o4 c=>?_) (λz z z z=>cG (Res.bad _) U2) rfl (N+1) [(s!"l3proto",Bv x.fam)] b8 a' (by simp only [lW];omega);wp_walk using f0;rw [R0 (by show 5 < N+1;omega)];refine oP hx (Q:=PR.res dk (pS x b ext)) (ext:=ext++ [F5]) (λo4 f=>?_) (λz z=>cG (Res.bad _) U2) rowsE o4 (by decide) (λw h h'=>absurd h h');have n:=lF (x:=x) (a:=c) (b:=b) (N:=N) (ext:=ext++ [F5]) (Φ:=c0 b7 (N+1) (d+8)) (ρ:=pL x (S x a b ext).length (S x a b (ext++ [F5])).length o4) (i:=12) (j:=3) (lg:=lg) (a1:=a) (b1:=b) k g rfl (by decide) rfl f;wp_walk using n,T7 (x:=x) (ext:=ext++ [F5]++ [.dict (s0 lg)]) (L:=(rowsE.map λw=>(D0 lg w).getD 0).map natV) (l:= []) (by rw [u7,u7];decide),W7
abbrev lL (x:Bx) (w:Nat) (o3:Option V):Loc:= [b6 (bk x),b6 (.tup [.str s!"protocol",.str s!"dport",.str s!"timeout",.str s!"size",.str s!"l3proto"]),b6 (.ref w),o3,b8,b8,b8,b8,b8,b8,b8,b8,b8]
theorem EK {γ:Type} {p q w:List Nat} {A B C:γ}:(if w∈ [p,q] then if w=p then A else B else C)=if w=p then A else if w=q then B else C:=by
 by_cases h:w=p
 ·rw [iP h,iP h,iP (by rw [h];exact D6 ..)]
 ·rw [iN h,iN h,t7 (show w∈ [p,q]↔w=q by rw [x8,U5];exact or_iff_right h)]
theorem ij (hx:x.Ok) (u:nL x) (p:299≤N) (t:N≤700) {j k:Nat} {γ:Type} {K:Out→γ} {Q:PR S2→γ}
  (O:∀lg o4 b,K (.next (lL x (S x j k (ext++ [F5])).length o4) (S x a b (ext++ [F5]++ [.dict (s0 lg)])))=Q (.ok lg (b+1)))
  (i:∀e ρ lg b,K (.bad e ρ (S x a b (ext++ [F5]++ [.dict (s0 lg)])))=Q (.bad e b)) (hs:K .stuck=Q .stuck):∀(f:Nat) (lg:S2) (o4:Option V) (b:Nat),lg.length+f≤900→
  K (F6 b7.tabs (N+1) (c0 b7 (N+1) (d+8)) b8 (l8 (d2 R9.body 3)) (f9 (d2 R9.body 3)) f (lL x (S x j k (ext++ [F5])).length o4) (S x a b (ext++ [F5]++ [.dict (s0 lg)])))
  =Q (sk x (N+1) f lg b)
 | 0,_,_,_,_=>hs
 | f+1,lg,o4,b,A=>by
  have ih:=ij hx u p t O i hs f;simp only [R9,d2,l8,f9] at ih;refine V8 ?_;have m:c0 b7 (N+1) (d+8) 769 [bk x,(.tup [.str s!"protocol",.str s!"dport",.str s!"timeout",.str s!"size",.str s!"l3proto"]),.str s!"an expectation has protocol, dport, timeout, size, l3proto"] (S x a b (ext++ [F5]++ [.dict (s0 lg)]))=(u4 x rowsE mX b).res V.str (lS x a (ext++ [F5]++ [.dict (s0 lg)])):=LW hx;wp_walk using R9,d2,l8,f9,Z9 hx G8 aX,m;refine N3 (λh=>O ..) λh=>?_;refine d5 (λw b' B=>?_) (λz z=>i _ _ _ _) hs;have q:=wj (x:=x) (N:=N) (d:=d+3) (a:=a) (b:=b') (ext:=ext++ [F5]++ [.dict (s0 lg)]) hx p (by omega) (dp:=false);have r:=wj (x:=x) (N:=N) (d:=d+3) (a:=a) (b:=b') (ext:=ext++ [F5]++ [.dict (s0 lg)]) hx p (by omega) (dp:=true);simp only [kn,if_true,if_false,bF] at q r;have g:∀w n c,gz (lL x (S x j k (ext++ [F5])).length (b6 (.str w))) (cQ b7.tabs (N+1) (c0 b7 (N+1) (d+8)) b8 (g8 (f9 (d2 R9.body 3)) 2) (Ow b7.tabs (N+1) (c0 b7 (N+1) (d+8)) b8 (l8 (d2 R9.body 3)) (f9 (d2 R9.body 3)) f K)) (natV n) (.ref (S x j k (ext++ [F5])).length) (.str w) (S x a c (ext++ [F5]++ [.dict (s0 lg)]))=Q ((V1 x (N+1) c).bind λz a=>sk x (N+1) f (lg++ [(w,n)]) a):=λw n c=>by
   rw [JR (x:=x) (a:=a) (b:=c) (a1:=j) (b1:=k) (ext:=ext++ [F5]) (l:= []) (w:=w) (lg:=lg) (n:=n) (by omega)];wp_walk using R9,d2,l8,f9,g8,dC hx;refine d5 (λ_ v y=>?_) (λz z=>i _ _ _ _) hs;wp_walk using nf;exact ih _ _ _ (by rw [u3,lW];omega)
  simp only [R9,d2,l8,f9,g8] at g;delta Ja;wp_walk using lm,EK,q,r,OY hx u,yN hx p (show N≤1000 by omega),Ng hx;refine s9 (λh=>?_) λh=>s9 (λh=>?_) λh=>s9 (λh=>?_) λh=>s9 (λh=>?_) λh=>?_
  ·refine d5 (λn c s=>?_) (λz z=>i _ _ _ _) hs;wp_walk using f0;exact g _ _ _
  ·refine d5 (λn c s=>?_) (λz z=>i _ _ _ _) hs;wp_walk using f0;exact g _ _ _
  ·refine d5 (λn c s=>?_) (λz z=>i _ _ _ _) hs;wp_walk using f0;exact g _ _ _
  ·refine d5 (λn c s=>?_) (λz z=>i _ _ _ _) hs;wp_walk using f0;exact g _ _ _
  ·rw [jf];refine d5 (λn c s=>?_) (λz z=>i _ _ _ _) hs;rw [fY];wp_walk using f0;by_cases o:n= s!"ip"
   ·rw [iP o,iP o];exact g w 2 c
   ·rw [iN o,iN o];exact g w 10 c
theorem lC (hx:x.Ok) {lg:S2} {a1 b1 c:Nat} {K:Out→Res} {Q:PR (List Nat)→Res} (O:∀o4,(∀w∈rowsE,¬D0 lg w=b8)→K (.next (lL x (S x a1 b1 ext).length o4) (S x a c (ext++ [.dict (s0 lg)])))=Q (.ok (rowsE.map λw=>(D0 lg w).getD 0) c))
  (f:∀e ρ,K (.bad e ρ (S x a c (ext++ [.dict (s0 lg)])))=Q (.bad e c)):∀(l:List (List Nat)) (o4:Option V),(∀w∈l,w.length≤10)→(∀w∈rowsE,w∉l→¬D0 lg w=b8)→
  K (Fl b7.tabs (N+1) (c0 b7 (N+1) (d+8)) b8 (.name 3) (f9 (d2 R9.body 5)) (l.map V.str) (lL x (S x a1 b1 ext).length o4) (S x a c (ext++ [.dict (s0 lg)])))=Q (chk x lg l c)
 | [],o4,_,b=>O o4 λw i=>b w i H2
 | w :: l,o4,h1,b=>by
  refine iX (ρ':=lL x (S x a1 b1 ext).length (b6 (.str w))) rfl ?_;wp_walk using R9,d2,f9,vW,M8 hx,e9 (a:= s!"expectation definition does not specify ") (m:=40) (by decide) (h1 w (D6 ..));refine s9 (λz=>f ..) λh=>lC hx O f l _ (λu r=>h1 u (F1 _ r)) λu r g=>?_;by_cases e:u=w
  ·rw [e];exact h
  ·exact b u r λm=>(x8.mp m).elim e g
theorem Sl (hx:x.Ok) (m:nL x) (k:299≤N) (f:N≤700):c0 b7 (N+1) (d+9) 870 [bk x] (S x a b ext)=(zY x (N+1) b).res dk (lS x a ext):=by
 rw [d6 R9 12 rfl];have e:=λK Q=> @ij x a N d ext hx m k f a b Res K Q;rw [show R9.body= .cons (d2 R9.body 0) (.cons (d2 R9.body 1) (.cons (d2 R9.body 2) (.cons (.whl (l8 (d2 R9.body 3)) (f9 (d2 R9.body 3))) (g8 R9.body 4)))) from rfl];generalize l8 (d2 R9.body 3)=t at e ⊢;generalize f9 (d2 R9.body 3)=b1 at e ⊢;wp_walk using R9,d2,g8,qA,kS,eO,qE,vF,nS hx;refine d5 (λ_ b' _=>?_) (λz z=>cG (Res.bad _) U2) rfl;wp_walk using f0;refine e _ (λr=>PR.res dk (lS x a ext) (r.bind λlg a=>chk x lg rowsE a)) (λlg o4 c=>?_) (λz z z z=>cG (Res.bad _) U2) rfl (N+1) [(s!"l3proto",Bv x.fam)] b8 b' (by simp only [lW];omega);wp_walk using f0;rw [R0 (by show 5 < N+1;omega)];refine lC hx (Q:=PR.res dk (lS x a ext)) (ext:=ext++ [F5]) (λo4 g=>?_) (λz z=>cG (Res.bad _) U2) rowsE o4 (by decide) (λw h h'=>absurd h h');have n:=lF (x:=x) (a:=a) (b:=c+1) (N:=N) (ext:=ext++ [F5]) (Φ:=c0 b7 (N+1) (d+8)) (ρ:=lL x (S x a b (ext++ [F5])).length o4) (i:=13) (j:=2) (lg:=lg) (a1:=a) (b1:=b) k f rfl (by decide) rfl g;wp_walk using n,T7 (x:=x) (ext:=ext++ [F5]++ [.dict (s0 lg)]) (L:=(rowsE.map λw=>(D0 lg w).getD 0).map natV) (l:= []) (by rw [u7,u7];decide),W7
def u0:List (List Nat):= [s!"prerouting",s!"input",s!"forward",s!"output",s!"postrouting",s!"ingress"]
def fM (fam hook:List Nat):List (List Nat×Int):=
 if fam= s!"bridge" then [(s!"filter",-200)]++(if hook= s!"prerouting" then [(s!"dstnat",-300)] else [])++(if hook= s!"output" then [(s!"out",100)] else [])++(if hook= s!"postrouting" then [(s!"srcnat",300)] else [])
 else [(s!"filter",0)]++(if fam∈ [s!"ip",s!"ip6",s!"inet"] then [(s!"raw",-300),(s!"mangle",-150),(s!"security",50)]++(if hook∈ [s!"prerouting",s!"output"] then [(s!"dstnat",-100)] else [])++(if hook∈ [s!"postrouting",s!"input"] then [(s!"srcnat",100)] else []) else [])
def H0:List (List Nat×Int)→List Nat→Option Int
 | [],_=>b8
 | p :: r,k=>if p.1=k then b6 p.2 else H0 r k
def cr (l:List (List Nat×Int)):List (List Nat×V):=l.map λp=>(p.1,V.int p.2)
theorem iz {p:List Nat×Int} {r:List (List Nat×Int)}:H0 (p :: r) t=if p.1=t then b6 p.2 else H0 r t:=rfl
theorem cL:∀{l:List (List Nat×Int)},look? (cr l) t=(H0 l t).map V.int
 | []=>rfl
 | p :: r=>by
  show (if p.1=t then b6 (V.int p.2) else look? (cr r) t)=_;rw [iz,cL]
  split <;> rfl
def G7 (fam hook:List Nat) (t:List Nat):Option Int:=H0 (fM fam hook) t
theorem Nq {α β γ:Type} {l:List α} {m:List β} {f g:α→β→γ} (h:(l.map λa=>m.map (f a))=l.map λa=>m.map (g a)) {a:α} {b:β} (c:a∈l) (d:b∈m):f a b=g a b:=
 Fy.mp (Fy.mp h a c) b d
theorem Df {fam hook:List Nat} (a:fam∈s7) (h:hook∈u0):c0 b7 (N+1) (d+1) 21 [.str fam,.str hook] st= .ok (.ref st.length) (st++ [.dict (cr (fM fam hook))]):=
 Nq (f:=λfam hook=>c0 b7 (N+1) (d+1) 21 [.str fam,.str hook] st) (g:=λfam hook=> .ok (.ref st.length) (st++ [.dict (cr (fM fam hook))])) rfl a h
def Ea (l m:List (List Nat×Int)):Bool:=l.all (λp=>decide (H0 m p.1=H0 l p.1))&&m.all (λp=>decide (H0 m p.1=H0 l p.1))
theorem bL:∀{l:List (List Nat×Int)},(∀p∈l,p.1≠t)→H0 l t=b8
 | [],_=>rfl
 | p :: r,h=>(iN (h p (D6 ..))).trans (bL λq m=>h q (F1 _ m))
theorem tK {l m:List (List Nat×Int)} (h:Ea l m=true):H0 m t=H0 l t:=by
 delta Ea at h;rw [Z6,aO,aO] at h;by_cases h1:∃p∈l,p.1=t
 ·obtain ⟨p,hp,rfl⟩:=h1;exact of_decide_eq_true (h.1 p hp)
 ·by_cases a:∃p∈m,p.1=t
  ·obtain ⟨p,hp,rfl⟩:=a;exact of_decide_eq_true (h.2 p hp)
  ·rw [bL λp hp c=>h1 ⟨p,hp,c⟩,bL λp hp c=>a ⟨p,hp,c⟩]
def W3 (fam hook:List Nat) (j:Nat):St:=match P6 b7 1 (λz z z=> .stuck) b8 Ut [.str fam,.str hook] [] with
 | .ok _ st'=>st'.map (AObj.shift j)
 | _=> []
def Oj (fam:List Nat):Nat:=if fam= s!"bridge" then 4 else 0
def OX (fam hook:List Nat):List (List Nat×Int):=
 if fam= s!"bridge" then [(s!"filter",-200)]++(if hook= s!"prerouting" then [(s!"dstnat",-300)] else if hook= s!"output" then [(s!"out",100)] else if hook= s!"postrouting" then [(s!"srcnat",300)] else [])
 else if fam∈ [s!"arp",s!"netdev"] then [(s!"filter",0)]
 else [(s!"raw",-300),(s!"mangle",-150),(s!"filter",0),(s!"security",50)]++(if hook∈ [s!"prerouting",s!"output"] then [(s!"dstnat",-100)] else if hook∈ [s!"postrouting",s!"input"] then [(s!"srcnat",100)] else [])
theorem yS {fam hook:List Nat} (a:fam∈s7) (h:hook∈u0):∃(i:Nat) (m:List (List Nat×Int)),
  (∀(N d:Nat) (st:St),c0 b7 (N+1) (d+1) 816 [.str fam,.str hook] st= .ok (.ref (st.length+i)) (st++W3 fam hook st.length))∧(∀j,(W3 fam hook j)[i]?=b6 (.dict (cr m)))∧∀t,H0 m t=G7 fam hook t:=
 ⟨Oj fam,OX fam hook,λN d st=>Nq (f:=λfam hook=>c0 b7 (N+1) (d+1) 816 [.str fam,.str hook] st) (g:=λfam hook=> .ok (.ref (st.length+Oj fam)) (st++W3 fam hook st.length)) rfl a h,
  λj=>Nq (f:=λfam hook=>(W3 fam hook j)[Oj fam]?) (g:=λfam hook=>b6 (.dict (cr (OX fam hook)))) rfl a h,
  λt=>tK ((by decide:∀fam∈s7,∀hook∈u0,Ea (fM fam hook) (OX fam hook)=true) fam a hook h)⟩
theorem ig {fam hook:List Nat} (a:fam∈s7) (h:hook∈u0):(∀p∈fM fam hook,p.1≠ []∧p.2.natAbs≤300):=by
 have:∀fam∈s7,∀hook∈u0,∀p∈fM fam hook,p.1≠ []∧p.2.natAbs≤300:=by decide
 exact this fam a hook h
theorem fq:∀{l:List (List Nat×Int)} {v:Int},H0 l t=b6 v→(t,v)∈l
 | [],v,h=>by cases h
 | p :: r,v,h=>by
  rw [iz] at h;by_cases c:p.1=t
  ·rw [iP c] at h;cases h;rw [← c];exact D6 ..
  ·rw [iN c] at h;exact F1 _ (fq h)
abbrev sg:List Nat:= s!"+-"
def rest (x:Bx) (a:Nat):Nat:=((x.T.drop a).map λk=>k.text.length).sum
theorem fj (hx:x.Ok) (h:a < x.T.length):rest x a=(now x a).text.length+rest x (a+1):=by
 have hg:=mY (a:=a) hx;rw [gi (Lg h),bt h] at hg;delta rest;rw [KH h,Q0,rS,k7 hg]
theorem Bz (hx:x.Ok):rest x 0≤250:=hx.total
theorem wo (hx:x.Ok):∀{a:Nat},rest x a≤rest x 0
 | 0=>i0 _
 | a+1=>by
  by_cases h:a < x.T.length
  ·exact d3 (fj hx h▸N7 ..) (wo hx (a:=a))
  ·delta rest;rw [Ge (fy (kt h))];exact T3 _
structure G (x:Bx) (t:List Nat) (a:Nat):Prop where
 ne:t≠ []
 asc:asc t
 len:t.length+rest x a≤250
theorem mI (hx:x.Ok) (h:(now x a).sort=sWord):G x (now x a).text (a+1):=
 ⟨hx.wne _ (E7 hx) h,v7 hx,by rw [← fj hx (me (w6 hx (D9 h)))];exact d3 (wo hx) (Bz hx)⟩
theorem mV (hx:x.Ok) (h:(now x a).sort=sWord) (g:G x t a):G x (t++(now x a).text) (a+1):=
 ⟨λc=>g.ne (FZ.mp c).1,λc b=>(dP.mp b).elim (g.asc c) (v7 hx c),by
  have:=g.len;rw [fj hx (me (w6 hx (D9 h)))] at this
  rwa [u3,A2]⟩
def cx (t:List Nat):Bool:=match t.getLast? with
 | some c=>decide (c∈sg)
 | none=>false
def iF:List Nat→Bool
 | c :: _=>decide (c∈sg)
 | []=>false
def I5 (x:Bx):Nat→List Nat→Nat→PR (List Nat)
 | 0,_,_=> .stuck
 | f+1,t,a=>if (now x a).sort=sWord∧(cx t=true∨iF (now x a).text=true) then I5 x f (t++(now x a).text) (a+1) else .ok t a
theorem Dp {f:Nat} {t:List Nat}:I5 x (f+1) t a=if (now x a).sort=sWord∧(cx t=true∨iF (now x a).text=true) then I5 x f (t++(now x a).text) (a+1) else .ok t a:=rfl
theorem gT (hx:x.Ok):∀{f:Nat} {t:List Nat} {a:Nat} {d:List Nat} {a':Nat},G x t a→I5 x f t a= .ok d a'→G x d a'
 | 0,_,_,_,_,_,h=>by cases h
 | f+1,t,a,d,a',g,h=>by
  rw [Dp] at h
  split at h
  ·rename_i c;exact gT hx (mV hx c.1 g) h
  ·cases h;exact g
theorem cf:∀{f:Nat} {t:List Nat} {a:Nat} {e:Exc} {a':Nat},I5 x f t a≠ .bad e a'
 | 0,_,_,_,_,h=>by cases h
 | f+1,t,a,e,a',h=>by
  rw [Dp] at h
  split at h
  ·exact cf h
  ·cases h
theorem Cr {r:List Nat} {c:Nat} (h:r.length≤1000):s8 (.str (r++ [c])) (.int (-1)) st= .ok (.str [c]) st:=by
 show c8 (X1 (r++ [c]).length (-1)) Res.stuck _=_;rw [u3,show X1 (r.length+ [c].length) (-1)=b6 r.length from ET];show c8 (r++ [c])[r.length]? Res.stuck _=_;rw [I2 (i0 _),I3];rfl
theorem pX (h:t≠ []) (f:t.length≤1000):∃c,(∀st,s8 (.str t) (.int (-1)) st= .ok (.str [c]) st)∧cx t=decide (c∈sg):=by
 obtain ⟨r,c,rfl⟩:∃r c,t=r++ [c]:=⟨t.dropLast,t.getLast h,(FV h).symm⟩
 refine ⟨c,λst=>Cr (by rw [u3] at f;omega),?_⟩;delta cx;rw [xn];rfl
section
variable {γ:Type} {K:Out→γ} {Q:PR (List Nat)→γ}
theorem DN {p q r:Prop} [Decidable p] [Decidable q] [Decidable r] {A B:γ}:(if p then (if q then A else if r then A else B) else B)=if p∧(q∨r) then A else B:=by rw [cX,R6]
theorem EI {c y:Nat} {p:Prop} {t r:List Nat} (a:cx t=decide (c∈sg)):(p∧(cx t=true∨iF (y :: r)=true))↔(p∧(c∈sg∨y∈sg)):=by
 rw [a,show iF (y :: r)=decide (y∈sg) from rfl,decide_eq_true_iff,decide_eq_true_iff]
theorem qJ (hx:x.Ok) {fam hook:V} {a0:Nat} (O:∀t a,G x t a→K (.next [b6 (rd x),b6 fam,b6 hook,b6 (.int (a0:Int)),b6 (.str t),b8,b8,b8] (S x a b ext))=Q (.ok t a)) (hs:K .stuck=Q .stuck):∀f t a,G x t a→K (F6 b7.tabs (N+1) (c0 b7 (N+1) (d+4)) b8 (l8 (d2 bQ.body 2)) (f9 (d2 bQ.body 2)) f [b6 (rd x),b6 fam,b6 hook,b6 (.int (a0:Int)),b6 (.str t),b8,b8,b8] (S x a b ext))=Q (I5 x f t a)
 | 0,_,_,_=>hs
 | f+1,t,a,g=>by
  refine V8 ?_;have i:t.length≤250:=d3 (A7 ..) g.len;obtain ⟨c,m,k⟩:=pX g.ne (d3 i (by decide));wp_walk using bQ,d2,l8,f9,A0 hx,s4 hx,m;rw [Dp];by_cases h:(now x a).sort=sWord
  ·have gn:=qJ hx O hs f (t++(now x a).text) (a+1) (mV hx h g);have l:=t4 (a:=a) hx;have j:=hx.wne _ (E7 hx) h;simp only [bQ,d2,l8,f9] at gn;generalize n:(now x a).text=u at gn l j;cases u with
   | nil=>exact absurd rfl j
   | cons y r=>
    wp_walk using n,A0 hx,s4 hx,N2,Hy i l,gn;rw [DN,t7 (EI k).symm];exact s9 (λz=>rfl) λz=>O _ _ g
  ·rw [iN h,iN (λe=>h e.1)];exact O _ _ g
theorem pR (hx:x.Ok) {hook:V} {b0:Nat} (O:∀t b,G x t b→K (.next [b6 (bk x),b6 hook,b6 (.int (b0:Int)),b6 (.str t),b8,b8,b8,b8,b8,b8,b8,b8,b8,b8,b8,b8] (S x a b ext))=Q (.ok t b)) (hs:K .stuck=Q .stuck):∀f t b,G x t b→K (F6 b7.tabs (N+1) (c0 b7 (N+1) (d+4)) b8 (l8 (d2 M3.body 3)) (f9 (d2 M3.body 3)) f [b6 (bk x),b6 hook,b6 (.int (b0:Int)),b6 (.str t),b8,b8,b8,b8,b8,b8,b8,b8,b8,b8,b8,b8] (S x a b ext))=Q (I5 x f t b)
 | 0,_,_,_=>hs
 | f+1,t,b,g=>by
  refine V8 ?_;have i:t.length≤250:=d3 (A7 ..) g.len;obtain ⟨c,n,l⟩:=pX g.ne (d3 i (by decide));wp_walk using M3,d2,l8,f9,F4 hx,n;rw [Dp];by_cases h:(now x b).sort=sWord
  ·have gn:=pR hx O hs f (t++(now x b).text) (b+1) (mV hx h g);have m:=t4 (a:=b) hx;have j:=hx.wne _ (E7 hx) h;have k:=Q6 (N:=N) (d:=d+3) (a:=a) (b:=b) (ext:=ext) hx (D9 h);simp only [M3,d2,l8,f9] at gn;generalize o:(now x b).text=u at gn m j k;cases u with
   | nil=>exact absurd rfl j
   | cons y r=>
    wp_walk using o,F4 hx,N2,k,e9 i m,gn;rw [DN,t7 (EI l).symm];exact s9 (λz=>rfl) λz=>O _ _ g
  ·rw [iN h,iN (λe=>h e.1)];exact O _ _ g
end
def ns (c:Nat):Bool:=decide (c∉sg)
def hdL (t:List Nat):List Nat:=t.takeWhile ns
def tl (t:List Nat):List Nat:=t.dropWhile ns
theorem cy:hdL t++tl t=t:=List.takeWhile_append_dropWhile
theorem Ju:t.take (hdL t).length=hdL t:=by
 exact (cG (List.take (hdL t).length) (@cy t).symm).trans rX
theorem wq:t.drop (hdL t).length=tl t:=by
 exact (cG (Ah (hdL t).length) (@cy t).symm).trans List.drop_left
theorem BH:(hdL t).length≤t.length:=d3 (A7 _ (tl t).length) (w2 (u3.symm.trans (cG oB cy)))
theorem DY:(tl t).length≤t.length:=d3 (N7 _ (hdL t).length) (w2 (u3.symm.trans (cG oB cy)))
theorem CJ (h:asc t):asc (hdL t):=λc a=>h c (by rw [← @cy t];exact List.mem_append_left _ a)
theorem Cy (h:asc t):asc (tl t):=λc a=>h c (by rw [← @cy t];exact List.mem_append_right _ a)
theorem wC:∀{t:List Nat} {c:Nat} {r:List Nat},tl t=c :: r→c∈sg
 | [],c,r,h=>by cases h
 | y :: q,c,r,h=>by
  delta tl at h;rw [QN] at h;by_cases a:y∈sg
  ·rw [iN (by delta ns;rw [decide_eq_false (λe=>e a)];exact O0)] at h;cases h;exact a
  ·rw [iP (by delta ns;exact decide_eq_true a)] at h;exact wC (t:=q) h
def gB:Option Int→V
 | some i=> .int i
 | none=> .none
def nC (nm:List Nat→Option Int) (t:List Nat):Option Int:=match tl t with
 | []=>(match nm (hdL t) with
  | some v=>b6 v
  | none=>(match num (hdL t) with
   | some n=>b6 (n:Int)
   | none=>b8))
 | c :: r=>match (if hdL t= [] then (if c=43 then b8 else b6 0) else nm (hdL t)) with
  | none=>b8
  | some v=>match num r with
   | none=>b8
   | some m=>if c=43 then b6 (v+m) else b6 (v-m)
theorem Bq {i:Int}:s8 (.str s) (.int i) st=if small i then (match X1 s.length i with
  | some k=>(match s[k]? with | some c=>Res.ok (.str [c]) st | none=> .stuck)
  | none=> .stuck) else .stuck:=by
 show (if small i then c8 (X1 s.length i) Res.stuck _ else .stuck)=_;cases X1 s.length i with
 | none=>rfl
 | some k=>show (if small i then c8 s[k]? Res.stuck _ else .stuck)=(if small i then (match s[k]? with | some c=>Res.ok (.str [c]) st | none=> .stuck) else .stuck);cases s[k]? <;> rfl
theorem Hs {i:Nat} {c:Nat} (h:s[i]?=b6 c) (f:s.length≤1000):s8 (.str s) (.int (i:Int)) st= .ok (.str [c]) st:=by
 have hi:i < s.length:=(U6.mp h).1;rw [Bq,iP (show small (i:Int)=true from U0 (M6 hi (d3 f (by decide)))),vE hi];show (match s[i]? with | some c=>Res.ok (.str [c]) st | none=> .stuck)=_;rw [h]
theorem len_str (h:s.length≤1000):A1 .len [.str s] st= .ok (.int (s.length:Int)) st:=iP (d3 h (by decide))
abbrev qL (nm:V) (t:List Nat) (i:Nat):Loc:= [b6 nm,b6 (.str t),b6 (.int (i:Int)),b8,b8,b8,b8,b8,b8]
theorem Je {c:Nat} {r:List Nat}:hdL (c :: r)=if c∈sg then [] else c :: hdL r:=by
 by_cases h:c∈sg
 ·rw [iP h];exact List.takeWhile_cons_of_neg (λe=>of_decide_eq_true e h)
 ·rw [iN h];exact List.takeWhile_cons_of_pos (decide_eq_true h)
theorem gf {nm:V} (a:t.length≤250) {γ:Type} {K:Out→γ}:∀(v u:List Nat) (f:Nat),t=u++v→v.length < f→
  K (F6 b7.tabs (N+1) Φ b8 (l8 (d2 bW.body 1)) (f9 (d2 bW.body 1)) f (qL nm t u.length) st)=K (.next (qL nm t (u.length+(hdL v).length)) st)
 | _,_,0,_,b=>absurd b (P9 _)
 | [],u,f+1,i,_=>by
  refine V8 ?_;rw [P0] at i;subst i;wp_walk using bW,d2,l8,f9,len_str (s:=t) (d3 a (by decide)),decide_eq_false (Int.lt_irrefl (t.length:Int));rfl
 | c :: r,u,f+1,i,b=>by
  have hi:=gf (nm:=nm) a (K:=K) r (u++ [c]) f (by rw [i,e7];rfl) (Z7 b);have d:((u.length:Int) < (t.length:Int)):=P1.mpr (by rw [i,u3];exact Lf (uZ _));have j:t[u.length]?=b6 c:=by rw [i,I2 (i0 _),I3];rfl
  have g:(u++ [c]).length=u.length+1:=u3;rw [g] at hi;simp only [bW,d2,l8,f9] at hi;refine V8 ?_;wp_walk using bW,d2,l8,f9,len_str (s:=t) (d3 a (by decide)),decide_eq_true d,Hs j (d3 a (by decide));rw [Je];by_cases h:c∈sg
  ·rw [iN (λe=>e h),iP h];rfl
  ·rw [iP h,iN h,G2];rw [A2,G3 1] at hi;exact hi
theorem Di {i:Int}:gB (b6 i)= .int i:=rfl
theorem AH (G:299≤N) {I:List (List Nat×Int)} {r:Nat} (z:H0 I []=b8) (g:t≠ []) (F:asc t) (C:t.length≤250) (E:(S x a b ext)[r]?=b6 (.dict (cr I))) :
  c0 b7 (N+1) (d+3) 554 [.ref r,.str t] (S x a b ext)= .ok (gB (nC (H0 I) t)) (S x a b ext):=by
 rw [d6 bW 7 rfl];have p:=λK=>gf (N:=N) (Φ:=c0 b7 (N+1) (d+2)) (st:=S x a b ext) (nm:= .ref r) C (γ:=Res) (K:=K) t [] (N+1) rfl (by omega);rw [show bW.body= .cons (d2 bW.body 0) (.cons (.whl (l8 (d2 bW.body 1)) (f9 (d2 bW.body 1))) (g8 bW.body 2)) from rfl];generalize l8 (d2 bW.body 1)=J at p ⊢;generalize f9 (d2 bW.body 1)=b1 at p ⊢;have w:t.length≤1000:=d3 C (by decide);have n:∀h:List Nat,l7 (S x a b ext) .notin (.str h) (.ref r)=b6 (decide (H0 I h=b8)):=λh=>by
  rw [S1,E];show b6 (!(look? (cr I) h).isSome)=_;rw [cL]
  cases H0 I h <;> rfl
 have f:Q5 .get (.ref r) (S x a b ext)=true:=by rw [aD,E]
 have i:∀h:List Nat,o8 .get (.ref r) [.str h,.int 0] (S x a b ext)= .ok (.int ((H0 I h).getD 0)) (S x a b ext):=λh=>by
  rw [gP,E];show Res.ok ((look? (cr I) h).getD (.int 0)) _=_;rw [cL]
  cases H0 I h <;> rfl
 have A:∀st,c0 b7 (N+1) (d+2) 136 [.str (hdL t)] st= .ok (y8 (num (hdL t))) st:=λst=>cw G (d3 BH C) (CJ F);wp_walk using bW,d2,g8;refine (p _).trans ?_;rw [O2,gC];wp_walk using aV (s:=t) w,aW (s:=t) w,Ju,wq;delta nC;cases B:tl t with
 | nil=>
  wp_walk using if_true,n,A,iN (show ¬([]:List Nat)≠ [] from λc=>c rfl);cases j:H0 I (hdL t) with
  | none=>
   rw [iP rfl]
   cases num (hdL t) <;> (wp_walk using O6,Y9) <;> rfl
  | some v=>
   have l:hdL t≠ []:=λc=>by rw [c,z] at j;cases j
   rw [iN nofun,iP l,iN nofun,iN l];wp_walk using f,i,j,QS,if_true;rfl
 | cons c q=>
  have D:(c :: q).length≤250:=d3 (B▸DY) C;have k:∀st,c0 b7 (N+1) (d+2) 136 [.str q] st= .ok (y8 (num q)) st:=λst=>cw G (d3 (w7 _) D) (λy H=>Cy F y (by rw [B];exact F1 _ H));have o:([c]= [43])=(c=43):=propext ⟨λe=>(xD e).1,λe=>by rw [e]⟩;wp_walk using iN (L5 c q),n,N2,o;by_cases l:hdL t= []
  ·rw [iN (λe=>e l),iP l,iP l];by_cases u:c=43
   ·rw [iP u,iP u];rfl
   ·rw [iN u,iN u];wp_walk using f,i,l,z,Option.getD_none,iN (L5 c q),ck (s:=c :: q) (d3 D (by decide)),show (c :: q).drop 1=q from rfl,k
    cases num q with
    | none=>wp_walk using O6;rfl
    | some m=>
     wp_walk using Y9,N2,o,iN u;rfl
  ·rw [iP l,iN l,iN l];cases j:H0 I (hdL t) with
   | none=>rw [iP rfl];rfl
   | some v=>
    rw [iN nofun];wp_walk using f,i,j,QS,iN (L5 c q),ck (s:=c :: q) (d3 D (by decide)),show (c :: q).drop 1=q from rfl,k
    cases num q with
    | none=>wp_walk using O6;rfl
    | some m=>
     wp_walk using Y9,N2,o
     split <;> rfl
def voc0:List (List Nat):= [s!"type",s!"filter",s!"nat",s!"route",s!"hook",s!"prerouting",s!"input",s!"forward",s!"output",s!"postrouting",s!"ingress",s!"device",s!"eth0",s!"priority",[43],[51],s!"srcnat",s!"-5",s!"-300",s!"0x10",s!"raw",[45],s!"0x5",s!"dstnat",s!"mangle-7",s!"+5",[53],s!"+3",s!"out",s!"devices",[97],[98],s!"ip",s!"inet",s!"70000",s!"tcp",s!"over",s!"bytes",s!"kbytes",s!"used",s!"ct",s!"dport"]
def zJ (x:Bx):Prop:=∀k∈x.T,k.sort=sWord→k.text∈voc0
theorem kW:∀w∈voc0,∀k < 20,(num (w.drop k)).all (·≤70000)=true∧w.length < 20:=by decide
theorem gd {B:Nat}:∀{t:List Nat} {acc m:Nat},j7 B acc t=b6 m→∀c∈t,E2 c≠b8
 | [],_,_,_,c,hc=>absurd hc H2
 | y :: r,acc,m,h,c,hc=>by
  rw [Nl] at h;cases hdL:E2 y with
  | none=>rw [hdL] at h;cases h
  | some v=>
   rw [hdL] at h;dsimp only at h
   split at h
   ·rcases x8.mp hc with rfl | hc
    ·rw [hdL];simp
    ·exact gd h c hc
   ·cases h
theorem DB:∀c∈sg,E2 c=none:=by decide
theorem dh {B m:Nat} (h:based B t=b6 m):∀c∈t,c∉sg:=λc a hs=>by
 delta based at h
 split at h
 ·cases h
 ·exact gd h c a (DB c hs)
theorem uS {m:Nat} (h:num t=b6 m):∀c∈t,c∉sg:=λc hc=>by
 delta num at h
 split at h
 ·rename_i a;rw [← jL 2 t] at hc;rcases dP.mp hc with hc | hc
  ·rw [a] at hc;simp only [x8,H2,or_false] at hc
   rcases hc with rfl | rfl <;> decide
  ·exact dh h c hc
 ·exact dh h c hc
def J (t:List Nat):Prop:=∀u,u <:+t→(∀c∈u,c∉sg)→∃w∈voc0,u <:+w
theorem Gn (h:t∈voc0):J t:=λu r z=>⟨t,h,r⟩
theorem No (l:J t) (f:w∈voc0) (hb:cx t=true∨iF w=true):J (t++w):=by
 intro u k b;obtain ⟨p,hp⟩:=k;rcases List.append_eq_append_iff.mp hp with ⟨a',h1,a⟩ | ⟨g,h1,a⟩
 ·cases e:a' with
  | nil=>
   rw [e,H1] at a;exact ⟨w,f,by rw [a];exact List.suffix_refl _⟩
  | cons y r=>
   exfalso
   have j:cx t=false:=by
    obtain ⟨q,z,hz⟩:∃q z,a'=q++ [z]:=⟨a'.dropLast,a'.getLast (by rw [e];simp),(FV _).symm⟩
    have d:z∉sg:=b z (by rw [a,hz];simp);delta cx;rw [h1,hz,← e7,xn];show decide (z∈sg)=false;exact decide_eq_false d
   rcases hb with hb | hb
   ·rw [j] at hb;cases hb
   ·cases h:w with
    | nil=>rw [h] at hb;cases hb
    | cons c q=>
     rw [h] at hb;have i:c∈sg:=of_decide_eq_true hb;exact b c (by rw [a,h];simp) i
 ·exact ⟨w,f,⟨g,a.symm⟩⟩
theorem pN (hx:x.Ok) (b:zJ x):∀{f:Nat} {t:List Nat} {a:Nat} {d:List Nat} {a':Nat},J t→I5 x f t a= .ok d a'→J d
 | 0,_,_,_,_,_,h=>by cases h
 | f+1,t,a,d,a',g,h=>by
  rw [Dp] at h
  split at h
  ·rename_i c;exact pN hx b (No g (b _ (E7 hx) c.1) c.2) h
  ·cases h;exact g
theorem vx {u:List Nat} {m:Nat} (b:J t) (r:u <:+t) (h:num u=b6 m):m≤70000:=by
 obtain ⟨w,a,p,hp⟩:=b u r (uS h);have f:=(kW w a 0 (by decide)).2;have O:p.length < 20:=by rw [← hp,u3] at f;omega
 have hdL:w.drop p.length=u:=by rw [← hp,List.drop_left]
 have:=(kW w a p.length O).1;rw [hdL,h] at this
 simpa using this
set_option tactic.hygienic true in
theorem tI {nm:List Nat→Option Int} (i:∀t v,nm t=b6 v→v.natAbs≤300) (g:J t) {v:Int} (h:nC nm t=b6 v):v.natAbs≤70300:=by
 delta nC at h;cases B:tl t with
 | nil=>
  rw [B] at h;dsimp only at h;have d:hdL t=t:=by have:= @cy t;rw [B,P0] at this;exact this
  rw [d] at h;cases j:nm t with
  | some b=>
   rw [j] at h;cases h;have:=i _ _ j;omega
  | none=>
   rw [j] at h;dsimp only at h;cases a:num t with
   | none=>rw [a] at h;cases h
   | some m=>
    rw [a] at h;cases h;have:=vx g (List.suffix_refl _) a;omega
 | cons c r=>
  rw [B] at h;dsimp only at h;have e:r <:+t:=⟨hdL t++ [c],by rw [e7];show hdL t++(c :: r)=t;rw [← B];exact cy⟩
  have key:∀b:Int,b.natAbs≤300→(match num r with | none=>b8 | some m=>if c=43 then b6 (b+(m:Int)) else b6 (b-(m:Int)))=b6 v→v.natAbs≤70300:=by
   intro b k h;cases a:num r with
   | none=>rw [a] at h;cases h
   | some m=>
    rw [a] at h;dsimp only at h;have:=vx g e a
    split at h <;> (cases h;omega)
  by_cases f:hdL t= []
  ·rw [iP f] at h
   split at h
   ·cases h
   ·rename_i hv
    split at hv
    ·cases hv
    ·cases hv;exact key 0 (by decide) h
  ·rw [iN f] at h
   split at h
   ·cases h
   ·rename_i b hv;exact key b (i _ _ hv) h
theorem iI {fam hook:List Nat} (a:fam∈s7) (b:hook∈u0):G7 fam hook []=none:=by
 cases h:G7 fam hook [] with
 | none=>rfl
 | some v=>exact absurd rfl (ig a b _ (fq h)).1
theorem nu {fam hook:List Nat} (a:fam∈s7) (b:hook∈u0):∀t v,G7 fam hook t=b6 v→v.natAbs≤300:=λt v h=>(ig a b _ (fq h)).2
def Qa (t:List Nat):List Nat:= [39]++t++ s!"' is invalid priority in this context."
def qR (x:Bx) (hook:List Nat) (f a:Nat):PR Int:=if (now x a).sort=sWord then
  (I5 x f (now x a).text (a+1)).bind λt a'=>match nC (G7 x.fam hook) t with
   | some v=> .ok v a'
   | none=> .bad (J1 x a (Qa t)) a
 else .bad (p5 x a s!"string") a
abbrev Ix:Int→V:=λi=> .int i
theorem Jq:u6 .pow (.int 2) (.int 31) st= .ok (.int 2147483648) st:=rfl
theorem wi {t:List Nat} (h:t.length≤250):(∀st,u6 .add (.str [39]) (.str t) st= .ok (.str ([39]++t)) st)∧∀st,u6 .add (.str ([39]++t)) (.str s!"' is invalid priority in this context.") st= .ok (.str (Qa t)) st:=
 ⟨λz=>e9 (m:=1) (by decide) h,λz=>e9 (e8 (a:= [39]) (m:=1) (by decide) h) (n:=50) (by decide)⟩
theorem GY {v:Int} (h:v.natAbs≤70300):(-2147483648:Int)≤v∧v < (2147483648:Int):=⟨by omega,by omega⟩
def RK {α γ:Type} (k:α→Nat→γ) (z:γ):PR α→γ
 | .ok v a=>k v a
 | _=>z
theorem jF (hx:x.Ok) (k:zJ x) (q:299≤N) {hook:List Nat} (f:x.fam∈s7) (i:hook∈u0):c0 b7 (N+1) (d+6) 561 [rd x,.str x.fam,.str hook] (S x a b ext)=(qR x hook (N+1) a).res Ix (pS x b ext):=by
 rw [d6 bQ 5 rfl];have c:=λK=>qJ (x:=x) (N:=N) (d:=d+1) (b:=b) (ext:=ext) (K:=K) hx (fam:= .str x.fam) (hook:= .str hook) (a0:=a) (Q:=RK (λt a'=>K (.next [b6 (rd x),b6 (.str x.fam),b6 (.str hook),b6 (.int (a:Int)),b6 (.str t),b8,b8,b8] (S x a' b ext))) (K .stuck:Res)) (λz z z=>rfl) rfl (N+1);rw [show bQ.body= .cons (d2 bQ.body 0) (.cons (d2 bQ.body 1) (.cons (.whl (l8 (d2 bQ.body 2)) (f9 (d2 bQ.body 2))) (g8 bQ.body 3))) from rfl];generalize l8 (d2 bQ.body 2)=r at c ⊢;generalize f9 (d2 bQ.body 2)=b1 at c ⊢;wp_walk using bQ,d2,g8,tU hx;refine s9 (λh=>?_) λh=>rfl;have o:=mI hx h;refine (c _ _ _ o).trans ?_;cases hg:I5 x (N+1) (now x a).text (a+1) with
 | bad e a'=>exact absurd hg cf
 | stuck=>rfl
 | ok t a'=>
  have g:=gT hx o hg;have l:t.length≤250:=d3 (A7 ..) g.len;obtain ⟨m,n⟩:=wi l;have j:c0 b7 (N+1) (d+5) 554 [.ref (S x a' b ext).length,.str t] (S x a' b (ext++ [.dict (cr (fM x.fam hook))]))= .ok (gB (nC (G7 x.fam hook) t)) (S x a' b (ext++ [.dict (cr (fM x.fam hook))])):=AH q (iI f i) g.ne g.asc l C1;show cQ _ _ _ _ _ _ (.next _ _)=_;wp_walk using Df f i,j;cases hp:nC (G7 x.fam hook) t with
  | none=>
   wp_walk using gB,m,n,NX,T6 hx
   try rw [hp]
   try rfl
  | some v=>
   obtain ⟨h1,p⟩:=GY (tI (nu f i) (pN hx k (Gn (k _ (E7 hx) h)) hg) hp);wp_walk using gB,Jq,Int.reduceNeg,decide_eq_true h1,decide_eq_true p
   try rw [hp]
   try rfl
theorem jl {c:Nat}:∀{s:List Nat},(match A8 c s with | none=>s | some i=>s.take i)=s.takeWhile λy=>decide (y≠c)
 | []=>rfl
 | y :: r=>by
  have ih:= @jl c r;rw [CW,Ae];by_cases h:y=c
  ·rw [iP h,iN (by simp [h])];rfl
  ·rw [iN h,iP (by simp [h]),← ih]
   cases A8 c r <;> rfl
theorem HU:((t.takeWhile λy=>decide (y≠43)).takeWhile λy=>decide (y≠45))=hdL t:=by
 delta hdL
 induction t with
 | nil=>rfl
 | cons y r ih=>
  rw [Ae,Ae];by_cases h1:y=43
  ·rw [iN (by simp [h1]),iN (by delta ns;rw [h1];decide)];rfl
  ·rw [iP (by simp [h1]),Ae];by_cases c:y=45
   ·rw [iN (by simp [c]),iN (by delta ns;rw [c];decide)]
   ·rw [iP (by simp [c]),iP (by delta ns;simp [h1,c]),ih]
theorem eQ {c:Nat} (h:s.length≤1000):o8 .split (.str s) [.str [c]] st= .ok (.ref st.length) (st++ [.list ((j3 c s).map V.str)]):=iP (d3 h (by decide))
theorem Ig {c a1 b1:Nat}:s8 (.ref (S x a1 b1 ext).length) (.int 0) (S x a b (ext++ [.list ((j3 c s).map V.str)]))= .ok (.str (s.takeWhile λy=>decide (y≠c))) (S x a b (ext++ [.list ((j3 c s).map V.str)])):=by
 rw [M4,C1];show (if S7 0 then (match ((j3 c s).map V.str)[(0:Int).toNat]? with | some v=>Res.ok v _ | none=> .stuck) else .stuck)=_;show (match ((j3 c s).map V.str)[0]? with | some v=>Res.ok v _ | none=> .stuck)=_;rw [br,ax];show Res.ok (.str (match A8 c s with | none=>s | some i=>s.take i)) _=_;rw [jl]
theorem AG:gB b8= .none:=rfl
abbrev PY (x:Bx) (hook:List Nat) (b:Nat) (t:List Nat) (nm hdL' a:Option V) (step n:Option V):Loc:= [b6 (bk x),b6 (.str hook),b6 (.int (b:Int)),b6 (.str t),nm,hdL',a,step,n,b8,b8,b8,b8,b8,b8,b8]
section
variable {hook:List Nat} {b0 b':Nat} {nm hdL':Option V} {u:List Nat}
theorem tN (hx:x.Ok) (f:t.length≤250) {n step:V} (h:n= .none∨((∃i,n= .int i)∧step= .none)):cSs b7.tabs (N+1) (c0 b7 (N+1) (d+5)) b8 (g8 M3.body 10) (PY x hook b0 t nm hdL' (b6 (.str u)) (b6 step) (b6 n)) (S x a b (ext++l)) (cc (S x a b' ext).length)= .bad (J1 x b0 (Qa t)) (S x a b0 ext):=by
 obtain ⟨e,j⟩:=wi f;have c:∀ρ (K:Out→Res) l,gz ρ K (.int ((b0:Nat):Int)) (.ref (x.k+2)) (.str s!"at") (S x a b l)=K (.next ρ (S x a b0 l)):=λρ b1 ext=>Vm;rcases h with rfl | ⟨⟨i,rfl⟩,rfl⟩
 all_goals
  wp_walk using M3,g8,c,e,j,M8 hx
  try rfl
theorem zd (f:u.length≤250) {i j:Int}:cSs b7.tabs (N+1) (c0 b7 (N+1) (d+5)) b8 (g8 M3.body 10) (PY x hook b0 t nm hdL' (b6 (.str u)) (b6 (.int j)) (b6 (.int i))) (S x a b (ext++l)) (cc (S x a b' ext).length)= .ok (.int (if u.take 1= [43] then i+j else i-j)) (S x a b ext):=by
 wp_walk using M3,g8,iA (s:=u) (d3 f (by decide));by_cases h:u.take 1= [43]
 ·rw [iP h,iP h]
 ·rw [iN h,iN h];exact cG (λi=>Res.ok (.int i) _) (Int.sub_eq_add_neg ..).symm
end
theorem jE (hx:x.Ok) (hN:299≤N) (hN':N≤700) {hook:List Nat} (hf:x.fam∈s7) (D:hook∈u0):c0 b7 (N+1) (d+6) 823 [bk x,.str hook] (S x a b ext)=(qR x hook (N+1) b).res Ix (lS x a ext):=by
 rw [d6 M3 14 rfl];have H:=λK=>pR (x:=x) (N:=N) (d:=d+1) (a:=a) (ext:=ext) (K:=K) hx (hook:= .str hook) (b0:=b) (Q:=RK (λt b'=>K (.next (PY x hook b t b8 b8 b8 b8 b8) (S x a b' ext))) (K .stuck:Res)) (λzz zz zz=>rfl) rfl (N+1);have k:=λ{b1 l t u nm hdL' n step}=>tN (x:=x) (a:=a) (b:=b1) (b0:=b) (b':=b) (ext:=ext) (l:=l) (t:=t) (u:=u) (hook:=hook) (nm:=nm) (hdL':=hdL') (N:=N) (d:=d) (n:=n) (step:=step) hx;have B:=λ{b1 l t u nm hdL' i j}=>zd (x:=x) (a:=a) (b:=b1) (b0:=b) (b':=b) (ext:=ext) (l:=l) (t:=t) (u:=u) (hook:=hook) (nm:=nm) (hdL':=hdL') (N:=N) (d:=d) (i:=i) (j:=j);rw [show M3.body= .cons (d2 M3.body 0) (.cons (d2 M3.body 1) (.cons (d2 M3.body 2) (.cons (.whl (l8 (d2 M3.body 3)) (f9 (d2 M3.body 3))) (.cons (d2 M3.body 4) (.cons (d2 M3.body 5) (.cons (d2 M3.body 6) (.cons (d2 M3.body 7) (.cons (d2 M3.body 8) (.cons (d2 M3.body 9) (g8 M3.body 10)))))))))) from rfl];generalize l8 (d2 M3.body 3)=t1 at H ⊢;generalize f9 (d2 M3.body 3)=b1 at H ⊢;generalize g8 M3.body 10=T0 at k B ⊢;wp_walk using M3,d2,i9,F4 hx,r8 hx (w:= s!"string") (by decide);refine N3 (λh=>?_) λh=>rfl;have g0:=mI hx h;wp_walk using Q6 hx (D9 h);refine (H _ _ _ g0).trans ?_;cases hg:I5 x (N+1) (now x b).text (b+1) with
 | bad e a'=>exact absurd hg cf
 | stuck=>rfl
 | ok t b'=>
  have g:=gT hx g0 hg;have C:t.length≤250:=d3 (A7 ..) g.len;obtain ⟨i,m,U,P,G⟩:=yS hf D;have hn:∀st,c0 b7 (N+1) (d+5) 816 [.str x.fam,.str hook] st=_:=λst=>U N (d+4) st;generalize A:W3 x.fam hook (S x a b' ext).length=o;have R:o[i]?=b6 (.dict (cr m)):=by rw [← A];exact P _
  have L:∀b F l2,(S x a b (ext++o++ [F]++ [l2]))[(S x a b' ext).length+i]?=b6 (.dict (cr m)):=λb F l2=>by
   rw [e7,e7,gb,cg (U6.mp R).1];exact R
  have p:∀b F l2,Q5 .get (.ref ((S x a b' ext).length+i)) (S x a b (ext++o++ [F]++ [l2]))=true:=λb F l2=>by rw [aD,L]
  have f:∀b F l2 v,o8 .get (.ref ((S x a b' ext).length+i)) [.str (hdL t),v] (S x a b (ext++o++ [F]++ [l2]))= .ok (match G7 x.fam hook (hdL t) with | some j=> .int j | none=>v) (S x a b (ext++o++ [F]++ [l2])):=λb F l2 v=>by
   rw [gP,L];show Res.ok ((look? (cr m) (hdL t)).getD v) _=_;rw [cL,G]
   cases G7 x.fam hook (hdL t) <;> rfl
  have M:(hdL t).length≤250:=d3 BH C;have Z:∀st,c0 b7 (N+1) (d+5) 795 [.str (hdL t)] st= .ok (y8 (num (hdL t))) st:=λst=>W6 hN (by omega) M (CJ g.asc);have Y:(t.takeWhile λy=>decide (y≠43)).length≤1000:=d3 (List.takeWhile_sublist _).length_le (d3 C (by decide));show cQ _ _ _ _ _ _ (.next _ _)=_;wp_walk using pM,hn,A,eQ (c:=43) (s:=t) (d3 C (by decide)),Ig,iD,eQ (c:=45) (s:=t.takeWhile λy=>decide (y≠43)) Y,HU,len_str (s:=hdL t) (d3 M (by decide)),aW (s:=t) (d3 C (by decide)),wq;rw [nC];cases E:tl t with
  | nil=>
   have O:hdL t≠ []:=λc=>g.ne (by have:= @cy t;rw [E,c] at this;exact this.symm);wp_walk using i9,show decide (([]:List Nat)≠ [])=false from rfl,show decide (([]:List Nat)= [])=true from rfl,decide_eq_false O,iN O,p,iN (show ¬([]:List Nat)≠ [] from λc=>c rfl)
   cases z:G7 x.fam hook (hdL t) with
   | some v=>
    simp only [z] at f;wp_walk using i9,f,show decide (([]:List Nat)= [])=true from rfl
    simp only [e7,if_true];refine (B ?_).trans ?_
    ·decide
    rw [iN (by decide)];exact cG (λi=>Res.ok (.int i) _) (FF v)
   | none=>
    simp only [z] at f;wp_walk using i9,f,show decide (([]:List Nat)= [])=true from rfl,Z
    cases num (hdL t) with
    | none=>
     wp_walk using i9,O6;simp only [e7,if_true,O6];exact k C (.inl rfl)
    | some q=>
     wp_walk using i9,Y9;simp only [e7,if_true];refine (B ?_).trans ?_
     ·decide
     rw [iN (by decide)];exact cG (λi=>Res.ok (.int i) _) (FF _)
  | cons c r=>
   have T:(c :: r).length≤250:=d3 (E▸DY) C;have hwr:∀st,c0 b7 (N+1) (d+5) 795 [.str r] st= .ok (y8 (num r)) st:=λst=>W6 hN (by omega) (d3 (w7 _) T) (λy hy=>Cy g.asc y (by rw [E];exact F1 _ hy));have X:=wC E;have J:((c :: r).take 1= [43])=(c=43):=propext ⟨λe=>(xD e).1,λe=>by rw [e];rfl⟩;have V:((c :: r).take 1= [45])=(c=45):=propext ⟨λe=>(xD e).1,λe=>by rw [e];rfl⟩;wp_walk using i9,iP (L5 c r),ck (s:=c :: r) (d3 T (by decide)),show (c :: r).drop 1=r from rfl,hwr
   by_cases D:hdL t= []
   ·have W:G7 x.fam hook (hdL t)=none:=by rw [D];exact iI hf ‹hook∈u0›
    simp only [W] at f;rw [iP D,iP D];wp_walk using i9,decide_eq_true D,iA (s:=c :: r) (d3 T (by decide)),V,p,f;by_cases I:c=43
    ·rw [iN (λe=>absurd (I.symm.trans e) (by decide)),iP I];wp_walk using i9,decide_eq_false (L5 c r),iN (L5 c r);simp only [e7,if_true,O6];exact k C (.inl rfl)
    ·have h5:c=45:=(x8.mp X).elim (λe=>absurd e I) U5.mp;rw [iP h5,iN I];wp_walk using i9,decide_eq_false (L5 c r),iN (L5 c r);cases num r with
     | none=>
      simp only [e7,if_true,O6];exact k C (.inr ⟨⟨_,rfl⟩,rfl⟩)
     | some m=>
      simp only [e7,if_true,Y9];refine (B T).trans ?_;rw [iN (λe=>I (J▸e))];show _=PR.res Ix _ (match (if c=43 then b6 ((0:Int)+(m:Int)) else b6 ((0:Int)-(m:Int))) with | some v=>PR.ok v b' | none=>_);rw [iN I];rfl
   ·rw [iN D,iN D];wp_walk using i9,decide_eq_false D,p;cases z:G7 x.fam hook (hdL t) with
    | none=>
     simp only [z] at f;wp_walk using i9,f,decide_eq_false (L5 c r),iN (L5 c r);simp only [e7,if_true,O6];exact k C (.inl rfl)
    | some v=>
     simp only [z] at f;wp_walk using i9,f,decide_eq_false (L5 c r),iN (L5 c r);cases num r with
     | none=>
      simp only [e7,if_true,O6];exact k C (.inr ⟨⟨_,rfl⟩,rfl⟩)
     | some m=>
      simp only [e7,if_true,Y9];refine (B T).trans ?_;rw [t7 (iff_of_eq J)];show _=PR.res Ix _ (match (if c=43 then b6 (v+(m:Int)) else b6 (v-(m:Int))) with | some v=>PR.ok v b' | none=>_)
      split <;> rfl
def DI (x:Bx) (F:Nat):Nat→List (List Nat)→Nat→PR (List (List Nat))
 | 0,_,_=> .stuck
 | f+1,acc,a=>if K0 x a sSign [125] then .ok acc a else (fP x a).bind λt a=>(V5 x F a).bind λz a=>
  if K0 x a sSign [44] then (V5 x F (a+1)).bind λz a=>DI x F f (acc++ [t]) a else .ok (acc++ [t]) a
def IT (x:Bx) (F a:Nat):PR (List (List Nat)):=(bx x [123] a).bind λz a=>(V5 x F a).bind λz a=>(DI x F F [] a).bind λv a=>(bx x [125] a).bind λz a=> .ok v a
theorem ii:∀{f a a':Nat} {u:Unit},V5 x f a= .ok u a'→a≤a'
 | 0,_,_,_,h=>by cases h
 | f+1,a,a',u,h=>by
  rw [UZ] at h
  split at h
  ·exact dO (ii h)
  ·cases h;exact i0 _
theorem pT {t:List Nat} {a':Nat} (hx:x.Ok) (h:fP x a= .ok t a'):a'=a+1∧a+1 < x.T.length:=by
 delta fP at h
 split at h
 ·rename_i h2;cases h;refine ⟨rfl,w6 hx ?_⟩
  rcases h2 with h2 | h2 <;> rw [h2] <;> decide
 ·cases h
theorem il (hx:x.Ok) {a1:Nat} {γ:Type} {K:Out→γ} {Q:PR (List (List Nat))→γ} (O:∀(acc:List (List Nat)) a,acc.length≤5000→K (.next [b6 (rd x),b6 (.ref (S x a1 b ext).length),b8,b8] (S x a b (ext++ [.list (acc.map V.str)])))=Q (.ok acc a)) (i:∀e a ρ o,K (.bad e ρ (S x a b (ext++ [o])))=Q (.bad e a)) (hs:K .stuck=Q .stuck) :
  ∀f acc a,acc.length+f≤5000→K (F6 b7.tabs (N+1) (c0 b7 (N+1) (d+5)) b8 (l8 (d2 bN.body 3)) (f9 (d2 bN.body 3)) f [b6 (rd x),b6 (.ref (S x a1 b ext).length),b8,b8] (S x a b (ext++ [.list (acc.map V.str)])))=Q (DI x (N+1) f acc a)
 | 0,_,_,_=>hs
 | f+1,acc,a,k=>by
  have g:acc.length+1+f≤5000:=by omega
  refine V8 ?_;wp_walk using bN,d2,l8,f9,dy hx,S0,Bj hx;refine N3 (λh=>O _ _ (d3 (A7 ..) k)) λh=>?_;refine d5 (λt a' _=>?_) (λz z=>i _ _ _ _) hs;have j:=λa=>aC (x:=x) (a:=a) (b:=b) (a1:=a1) (b1:=b) (ext:=ext) (l:= []) (L:=acc.map V.str) (v:= .str t) (by rw [u7];omega) rfl;wp_walk using j,mx hx;refine d5 (λ_ c _=>?_) (λz z=>i _ _ _ _) hs;wp_walk using M1 hx;have e:acc.map V.str++ [V.str t]=(acc++ [t]).map V.str:=by rw [aP];rfl
  refine s9 (λh=>?_) λh=>?_
  ·wp_walk using mx hx;refine d5 (λ_ c _=>?_) (λz z=>i _ _ _ _) hs;wp_walk using e;exact il hx O i hs f (acc++ [t]) c (by rw [u3];exact g)
  ·rw [e];exact O _ _ (by rw [u3];exact d3 (A7 ..) g)
theorem xT (hx:x.Ok) (f:N≤700):c0 b7 (N+1) (d+6) 519 [rd x] (S x a b ext)=(IT x (N+1) a).res J2 (pS x b ext):=by
 rw [d6 bN 3 rfl];have h:=λa1 K Q=> @il x b N d ext hx a1 Res K Q;rw [show bN.body= .cons (d2 bN.body 0) (.cons (d2 bN.body 1) (.cons (d2 bN.body 2) (.cons (.whl (l8 (d2 bN.body 3)) (f9 (d2 bN.body 3))) (g8 bN.body 4)))) from rfl];generalize l8 (d2 bN.body 3)=g at h ⊢;generalize f9 (d2 bN.body 3)=b1 at h ⊢;wp_walk using bN,d2,g8,S3 hx (t:= [123]) (by decide);refine d5 λu c e=>?_;wp_walk using mx hx;refine d5 λu c e=>?_;wp_walk using f0;refine h _ _ (λr=>PR.res J2 (pS x b ext) (r.bind λv a=>(bx x [125] a).bind λz a=> .ok v a)) (λv j hv=>?_) (λz z z z=>cG (Res.bad _) n9) rfl (N+1) [] c (by rw [O2];omega);wp_walk using S3 hx (t:= [125]) (by decide);refine d5 (λ_ c _=>?_) (λz z=>cG (Res.bad _) n9) rfl;wp_walk using T7 (x:=x) (L:=v.map V.str) (l:= []) (by rw [u7];exact d3 hv (by decide))
abbrev Rm (x:Bx) (r:Nat) (m:V):Loc:= [b6 (bk x),b6 (.ref r),b6 m,b8,b8,b8,b8,b8]
theorem hH (hx:x.Ok) {b1:Nat} {γ:Type} {K:Out→γ} {Q:PR (List (List Nat))→γ} (O:∀(acc:List (List Nat)) b m,acc.length≤5000→K (.next (Rm x (S x a b1 ext).length m) (S x a b (ext++ [.list (acc.map V.str)])))=Q (.ok acc b)) (i:∀e b ρ o,K (.bad e ρ (S x a b (ext++ [o])))=Q (.bad e b)) (hs:K .stuck=Q .stuck) :
  ∀f acc b,acc.length+f≤5000→x.T.length+1 < b+f→2≤f→K (F6 b7.tabs (N+1) (c0 b7 (N+1) (d+5)) b8 (l8 (d2 bT.body 3)) (f9 (d2 bT.body 3)) f (Rm x (S x a b1 ext).length (.bool true)) (S x a b (ext++ [.list (acc.map V.str)])))=Q (DI x (N+1) f acc b)
 | 0,_,_,_,_,h=>absurd h (by decide)
 | f+1,acc,b,u,hm,j=>by
  have g:acc.length+1+f≤5000:=by omega
  refine V8 ?_;wp_walk using bT,d2,l8,f9,Z9 hx G8 aX,S0,Av hx,KB;refine N3 (λh=>O _ _ _ (d3 (A7 ..) u)) λh=>?_;refine d5 (λt b' w=>?_) (λz z=>i _ _ _ _) hs;obtain ⟨r,s⟩:=pT hx w;have k:=λb=>aC (x:=x) (a:=a) (b:=b) (a1:=a) (b1:=b1) (ext:=ext) (l:= []) (L:=acc.map V.str) (v:= .str t) (by rw [u7];omega) rfl;wp_walk using k,mO hx;refine d5 (λ_ c n=>?_) (λz z=>i _ _ _ _) hs;have n:=ii n;have e:acc.map V.str++ [V.str t]=(acc++ [t]).map V.str:=by rw [aP];rfl
  wp_walk using Z9 hx G8 kN;refine s9 (λh=>?_) λh=>?_
  ·wp_walk using decide_eq_true h,mO hx;refine d5 (λ_ p q=>?_) (λz z=>i _ _ _ _) hs;have q:=ii q;wp_walk using e;exact hH hx O i hs f (acc++ [t]) p (by rw [u3];exact g) (by omega) (by omega)
  ·wp_walk using decide_eq_false h,e;cases f with
   | zero=>exact absurd j (by decide)
   | succ f=>
    refine V8 ?_;wp_walk using f0;exact O _ _ _ (by rw [u3];exact d3 (A7 ..) g)
theorem yE (hx:x.Ok) (i:299≤N) (f:N≤700):c0 b7 (N+1) (d+6) 837 [bk x] (S x a b ext)=(IT x (N+1) b).res J2 (lS x a ext):=by
 rw [d6 bT 7 rfl];have h:=λb1 K Q=> @hH x a N d ext hx b1 Res K Q;rw [show bT.body= .cons (d2 bT.body 0) (.cons (d2 bT.body 1) (.cons (d2 bT.body 2) (.cons (.whl (l8 (d2 bT.body 3)) (f9 (d2 bT.body 3))) (g8 bT.body 4)))) from rfl];generalize l8 (d2 bT.body 3)=k at h ⊢;generalize f9 (d2 bT.body 3)=X at h ⊢;wp_walk using bT,d2,g8,dm hx (t:= [123]) (by decide) (by decide);refine d5 λu c g=>?_;wp_walk using mO hx;refine d5 (λ_ e _=>?_) (λz z=>cG (Res.bad _) n9) rfl;wp_walk using f0;refine h _ _ (λr=>PR.res J2 (lS x a ext) (r.bind λv a=>(bx x [125] a).bind λz a=> .ok v a)) (λv j m hv=>?_) (λz z z z=>cG (Res.bad _) n9) rfl (N+1) [] e (by rw [O2];omega) (by have:=hx.small;omega) (by omega);wp_walk using dm hx (t:= [125]) (by decide) (by decide);refine d5 (λ_ c _=>?_) (λz z=>cG (Res.bad _) n9) rfl;wp_walk using T7 (x:=x) (L:=v.map V.str) (l:= []) (by rw [u7];exact d3 hv (by decide))
def K7:List (List Nat):= [s!"filter",s!"nat",s!"route"]
abbrev qT:List Nat×List Nat×Int×List Nat→V:=λp=> .tup [.str p.1,.str p.2.1,.int p.2.2.1,.str p.2.2.2]
def my (x:Bx) (a:Nat):PR (List Nat):=if K0 x a sWord s!"device" then fP x (a+1) else .ok [] a
def eD (x:Bx) (F a:Nat):PR (List Nat×List Nat×Int×List Nat):=(Z5 x s!"type" a).bind λz a=>(u4 x K7 s!"unknown chain type" a).bind λh a=>(Z5 x s!"hook" a).bind λz a=>
 (u4 x u0 s!"unknown chain hook" a).bind λO a=>(my x a).bind λd a=>(Z5 x s!"priority" a).bind λz a=>(qR x O F a).bind λv a=> .ok (h,O,v,d) a
theorem Mb (hx:x.Ok):c0 b7 (N+1) (d+4) 481 [rd x,(.tup [.str s!"filter",.str s!"nat",.str s!"route"]),.str s!"unknown chain type"] (S x a b ext)=(u4 x K7 s!"unknown chain type" a).res V.str (pS x b ext):=kI hx (m:=K7) rfl (by decide)
theorem LX (hx:x.Ok):c0 b7 (N+1) (d+4) 769 [bk x,(.tup [.str s!"filter",.str s!"nat",.str s!"route"]),.str s!"unknown chain type"] (S x a b ext)=(u4 x K7 s!"unknown chain type" b).res V.str (lS x a ext):=rK hx (m:=K7) rfl
theorem OK (hx:x.Ok):c0 b7 (N+1) (d+4) 481 [rd x,(.tup [.str s!"prerouting",.str s!"input",.str s!"forward",.str s!"output",.str s!"postrouting",.str s!"ingress"]),.str s!"unknown chain hook"] (S x a b ext)=(u4 x u0 s!"unknown chain hook" a).res V.str (pS x b ext):=kI hx (m:=u0) rfl (by decide)
theorem yr (hx:x.Ok) {r:Nat} {m:List (List Nat)} (j:∀b,(S x a b ext)[r]?=b6 (.list (m.map V.str))):c0 b7 (N+1) (d+4) 769 [bk x,.ref r,.str w] (S x a b ext)=(u4 x m w b).res V.str (lS x a ext):=by
 rw [d6 Fv 3 rfl];have g:∀b t,l7 (S x a b ext) .notin (.str t) (.ref r)=b6 (decide (t∉m)):=λb t=>by
  rw [S1,j];show (M5 t (m.map V.str)).map _=_;rw [D1];show b6 (!decide (t∈m))=_;rw [decide_not]
 wp_walk using Fv,F4 hx,M8 hx,g,cX,(J3).symm;refine N3 (λh=>?_) λh=>rfl;wp_walk using Q6 hx (D9 h.1)
theorem uq:asc s!"device":=by decide
theorem LP (hx:x.Ok) (i:zJ x) (g:299≤N) (j:x.fam∈s7):c0 b7 (N+1) (d+7) 568 [rd x] (S x a b ext)=(eD x (N+1) a).res qT (pS x b ext):=by
 rw [d6 OD 8 rfl];wp_walk using OD,E0 hx (t:= s!"type") (by decide);refine d5 λu a1 c=>?_;wp_walk using Mb hx;refine d5 λp l u=>?_;wp_walk using E0 hx (t:= s!"hook") (by decide);refine d5 λu m c=>?_;wp_walk using OK hx;refine d5 λO n k=>?_;have hp:=λa=>jF (x:=x) (N:=N) (d:=d) (a:=a) (b:=b) (ext:=ext) hx i g j (W4 k);delta my;wp_walk using R4 hx,lm;refine s9 (λh=>?_) λh=>?_
 ·wp_walk using s4 hx,Bj hx;refine d5 λq o u=>?_;wp_walk using E0 hx (t:= s!"priority") (by decide);refine d5 λu e c=>?_;wp_walk using hp;refine d5 λv f u=>?_;wp_walk using f0
 ·wp_walk using E0 hx (t:= s!"priority") (by decide);refine d5 λu e c=>?_;wp_walk using hp;refine d5 λv f u=>?_;wp_walk using f0
theorem Mm (hx:x.Ok) (l:299≤N) (f:N≤700) (n:x.fam∈s7):c0 b7 (N+1) (d+7) 830 [bk x] (S x a b ext)=(eD x (N+1) b).res qT (lS x a ext):=by
 rw [d6 LG 9 rfl];wp_walk using LG,N1 hx (t:= s!"type") (by decide) (by decide);refine d5 λu a1 c=>?_;wp_walk using LX hx;refine d5 λy p u=>?_;wp_walk using N1 hx (t:= s!"hook") (by decide) (by decide);refine d5 λu i c=>?_;have e:=yr (x:=x) (N:=N) (d:=d+2) (a:=a) (b:=i) (ext:=ext++ [.list (u0.map V.str)]) (w:= s!"unknown chain hook") hx (r:=(S x a i ext).length) (m:=u0) (λb=>C1);have g:∀st,c0 b7 (N+1) (d+6) 645 [] st= .ok (.ref st.length) (st++ [.list (u0.map V.str)]):=λst=>kY;wp_walk using g,e;refine d5 (λO q o=>?_) (λz z=>by exact cG (Res.bad _) n9) (by rfl);have hp:=λb=>jE (x:=x) (N:=N) (d:=d) (a:=a) (b:=b) (ext:=ext++ [.list (u0.map V.str)]) hx l f n (W4 o);delta my;wp_walk using Z9 hx G5 uq,lm;refine s9 (λh=>?_) λh=>?_
 ·wp_walk using Av hx;refine d5 (λA s u=>?_) (λz z=>by exact cG (Res.bad _) n9) (by rfl);wp_walk using N1 hx (t:= s!"priority") (by decide) (by decide);refine d5 (λu j c=>?_) (λz z=>by exact cG (Res.bad _) n9) (by rfl);wp_walk using hp;refine d5 (λv k u=>?_) (λz z=>by exact cG (Res.bad _) n9) (by rfl);wp_walk using f0
 ·wp_walk using N1 hx (t:= s!"priority") (by decide) (by decide);refine d5 (λu j c=>?_) (λz z=>by exact cG (Res.bad _) n9) (by rfl);wp_walk using hp;refine d5 (λv k u=>?_) (λz z=>by exact cG (Res.bad _) n9) (by rfl);wp_walk using f0
def mH:List Nat:= s!"a flowtable has hook and devices"
def lQ (x:Bx) (F:Nat):Nat→Option Int→List (List Nat)→Nat→PR (Option Int×List (List Nat))
 | 0,_,_,_=> .stuck
 | f+1,p,b,a=>if K0 x a sSign [125] then .ok (p,b) (a+1) else (u4 x [s!"hook",s!"devices"] mH a).bind λw a=>
  if w= s!"hook" then (Z5 x s!"ingress" a).bind λz a=>(Z5 x s!"priority" a).bind λz a=>(qR x s!"ingress" F a).bind λv a=>(V1 x F a).bind λz a=>lQ x F f (b6 v) b a
  else (bx x [61] a).bind λz a=>(IT x F a).bind λd a=>(V1 x F a).bind λz a=>lQ x F f p d a
def vZ:List Nat:= s!"missing hook and priority in flowtable declaration"
def kC (x:Bx) (F a:Nat):PR (Int×List (List Nat)):=(lO x F a).bind λz a=>(lQ x F F b8 [] a).bind λr a=>match r.1 with
 | some v=> .ok (v,r.2) a
 | none=> .bad (J1 x a vZ) a
abbrev jG:Int×List (List Nat)→V:=λp=> .tup [.int p.1,.tup (p.2.map V.str)]
theorem Lz (hx:x.Ok):c0 b7 (N+1) (d+4) 481 [rd x,(.tup [.str s!"hook",.str s!"devices"]),.str mH] (S x a b ext)=(u4 x [s!"hook",s!"devices"] mH a).res V.str (pS x b ext):=kI hx (m:= [s!"hook",s!"devices"]) rfl (by decide)
theorem Ps (hx:x.Ok):c0 b7 (N+1) (d+4) 769 [bk x,(.tup [.str s!"hook",.str s!"devices"]),.str mH] (S x a b ext)=(u4 x [s!"hook",s!"devices"] mH b).res V.str (lS x a ext):=rK hx (m:= [s!"hook",s!"devices"]) rfl
theorem fz (hx:x.Ok) (l:zJ x) (k:299≤N) (j:N≤700) (n:x.fam∈s7) {γ:Type} {K:Out→γ} {Q:PR (Option Int×List (List Nat))→γ}
  (O:∀p i a,K (.next [b6 (rd x),b6 (gB p),b6 (J2 i),b8,b8,b8,b8,b8,b8] (S x a b ext))=Q (.ok (p,i) a)) (g:∀e ρ a,K (.bad e ρ (S x a b ext))=Q (.bad e a)) (hs:K .stuck=Q .stuck) :
  ∀f p i a,K (F6 b7.tabs (N+1) (c0 b7 (N+1) (d+7)) b8 (l8 (d2 bp.body 3)) (f9 (d2 bp.body 3)) f [b6 (rd x),b6 (gB p),b6 (J2 i),b8,b8,b8,b8,b8,b8] (S x a b ext))=Q (lQ x (N+1) f p i a)
 | 0,_,_,_=>hs
 | f+1,p,i,a=>by
  have ih:=fz hx l k j n O g hs f;simp only [bp,d2,l8,f9] at ih;refine V8 ?_;have m:c0 b7 (N+1) (d+7) 481 [rd x,(.tup [.str s!"hook",.str s!"devices"]),.str s!"a flowtable has hook and devices"] (S x a b ext)=(u4 x [s!"hook",s!"devices"] mH a).res V.str (pS x b ext):=Lz hx;wp_walk using bp,d2,l8,f9,M1 hx,m;refine s9 (λh=>O ..) λh=>?_;refine d5 (λw c o=>?_) (λz z=>g _ _ _) hs;wp_walk using f0;refine s9 (λh=>?_) λh=>?_
  ·wp_walk using E0 hx (t:= s!"ingress") (by decide);refine d5 (λ_ c _=>?_) (λz z=>g _ _ _) hs;wp_walk using E0 hx (t:= s!"priority") (by decide);refine d5 (λ_ c _=>?_) (λz z=>g _ _ _) hs;wp_walk using jF hx l k n (show s!"ingress"∈u0 by decide);refine d5 (λv c _=>?_) (λz z=>g _ _ _) hs;wp_walk using bg hx;refine d5 (λ_ c _=>?_) (λz z=>g _ _ _) hs;exact ih (b6 v) i c
  ·wp_walk using S3 hx (t:= [61]) (by decide);refine d5 (λ_ c _=>?_) (λz z=>g _ _ _) hs;wp_walk using xT hx j;refine d5 (λv c _=>?_) (λz z=>g _ _ _) hs;wp_walk using bg hx;refine d5 (λ_ c _=>?_) (λz z=>g _ _ _) hs;exact ih p v c
theorem MQ (hx:x.Ok) (g:zJ x) (f:299≤N) (e:N≤700) (i:x.fam∈s7):c0 b7 (N+1) (d+8) 575 [rd x] (S x a b ext)=(kC x (N+1) a).res jG (pS x b ext):=by
 rw [d6 bp 8 rfl];have h:=λK Q=> @fz x b N d ext hx g f e i Res K Q;rw [show bp.body= .cons (d2 bp.body 0) (.cons (d2 bp.body 1) (.cons (d2 bp.body 2) (.cons (.whl (l8 (d2 bp.body 3)) (f9 (d2 bp.body 3))) (g8 bp.body 4)))) from rfl];generalize l8 (d2 bp.body 3)=l at h ⊢;generalize f9 (d2 bp.body 3)=b1 at h ⊢;wp_walk using bp,d2,g8,ui hx;refine d5 λu c j=>?_;wp_walk using f0;refine h _ (λr=>PR.res jG (pS x b ext) (r.bind λr a=>match r.1 with | some v=> .ok (v,r.2) a | none=> .bad (J1 x a vZ) a)) (λp k a=>?_) (λz z z=>cG (Res.bad _) T9) rfl (N+1) b8 [] c;cases p with
 | none=>wp_walk using AG,T6 hx <;> rfl
 | some v=>wp_walk using Di
abbrev eZ (p:Option Int) (d:List (List Nat)):AObj:= .dict [(s!"hook",gB p),(s!"devices",J2 d)]
abbrev RW (x:Bx) (r:Nat) (o2:Option V):Loc:= [b6 (bk x),b6 (.ref r),o2,b8,b8,b8,b8,b8,b8,b8,b8]
theorem fH (hx:x.Ok) (n:299≤N) (k:N≤700) (q:x.fam∈s7) {b1:Nat} {γ:Type} {K:Out→γ} {Q:PR (Option Int×List (List Nat))→γ}
  (O:∀p g o2 b,K (.next (RW x (S x a b1 ext).length o2) (S x a b (ext++ [eZ p g])))=Q (.ok (p,g) (b+1))) (j:∀e ρ o b,K (.bad e ρ (S x a b (ext++ [o])))=Q (.bad e b)) (hs:K .stuck=Q .stuck) :
  ∀f p g b o2,K (F6 b7.tabs (N+1) (c0 b7 (N+1) (d+7)) b8 (l8 (d2 bM.body 2)) (f9 (d2 bM.body 2)) f (RW x (S x a b1 ext).length o2) (S x a b (ext++ [eZ p g])))=Q (lQ x (N+1) f p g b)
 | 0,_,_,_,_=>hs
 | f+1,p,g,b,o2=>by
  have ih:=fH hx n k q O j hs f;simp only [bM,d2,l8,f9] at ih;refine V8 ?_;have m:c0 b7 (N+1) (d+7) 769 [bk x,(.tup [.str s!"hook",.str s!"devices"]),.str s!"a flowtable has hook and devices"] (S x a b (ext++ [eZ p g]))=(u4 x [s!"hook",s!"devices"] mH b).res V.str (lS x a (ext++ [eZ p g])):=Ps hx;wp_walk using bM,d2,l8,f9,Z9 hx G8 aX,m;refine N3 (λh=>O ..) λh=>?_;refine d5 (λw c r=>?_) (λz z=>j _ _ _ _) hs;wp_walk using f0;refine s9 (λh=>?_) λh=>?_
  ·wp_walk using N1 hx (t:= s!"ingress") (by decide) (by decide);refine d5 (λ_ c _=>?_) (λz z=>j _ _ _ _) hs;wp_walk using N1 hx (t:= s!"priority") (by decide) (by decide);refine d5 (λ_ c _=>?_) (λz z=>j _ _ _ _) hs;wp_walk using jE hx n k q (show s!"ingress"∈u0 by decide);refine d5 (λv c _=>?_) (λz z=>j _ _ _ _) hs;have i:∀ρ (K:Out→γ),gz ρ K (.int v) (.ref (S x a b1 ext).length) (.str w) (S x a c (ext++ [eZ p g]))=K (.next ρ (S x a c (ext++ [eZ (b6 v) g]))):=λρ K=>by
    rw [h];exact kE (vT (es:= [(s!"hook",gB p),(s!"devices",J2 g)]) (l:= []) (by show 2≤900;decide) rfl)
   wp_walk using i,dC hx;refine d5 (λ_ c _=>?_) (λz z=>j _ _ _ _) hs;exact ih (b6 v) g c _
  ·have h:w= s!"devices":=(x8.mp (W4 r)).elim (λc=>absurd c h) U5.mp;wp_walk using dm hx (t:= [61]) (by decide) (by decide);refine d5 (λ_ c _=>?_) (λz z=>j _ _ _ _) hs;wp_walk using yE hx n k;refine d5 (λv c _=>?_) (λz z=>j _ _ _ _) hs;have i:∀ρ (K:Out→γ),gz ρ K (J2 v) (.ref (S x a b1 ext).length) (.str w) (S x a c (ext++ [eZ p g]))=K (.next ρ (S x a c (ext++ [eZ p v]))):=λρ K=>by
    rw [h];exact kE (vT (es:= [(s!"hook",gB p),(s!"devices",J2 g)]) (l:= []) (by show 2≤900;decide) ec)
   wp_walk using i,dC hx;refine d5 (λ_ c _=>?_) (λz z=>j _ _ _ _) hs;exact ih p v c _
theorem Mc (hx:x.Ok) (j:299≤N) (g:N≤700) (k:x.fam∈s7):c0 b7 (N+1) (d+8) 851 [bk x] (S x a b ext)=(kC x (N+1) b).res jG (lS x a ext):=by
 rw [d6 bM 10 rfl];have h:=λK Q=> @fH x a N d ext hx j g k b Res K Q;rw [show bM.body= .cons (d2 bM.body 0) (.cons (d2 bM.body 1) (.cons (.whl (l8 (d2 bM.body 2)) (f9 (d2 bM.body 2))) (g8 bM.body 3))) from rfl];generalize l8 (d2 bM.body 2)=l at h ⊢;generalize f9 (d2 bM.body 2)=X at h ⊢;wp_walk using bM,d2,g8,show ∀st:St,E6 [.str s!"hook",.none,.str s!"devices",.tup []] st= .ok (.ref st.length) (st++ [eZ b8 []]) from λz=>rfl,nS hx
 refine d5 (λ_ c _=>?_) (λz z=>cG (Res.bad _) n9) rfl;wp_walk using f0;refine h _ (λr=>PR.res jG (lS x a ext) (r.bind λr a=>match r.1 with | some v=> .ok (v,r.2) a | none=> .bad (J1 x a vZ) a)) (λp e o2 c=>?_) (λz z z z=>cG (Res.bad _) n9) rfl (N+1) b8 [] c b8;have f:∀c,s8 (.ref (S x a b ext).length) (.str s!"hook") (S x a c (ext++ [eZ p e]))= .ok (gB p) (S x a c (ext++ [eZ p e])):=λc=>by
  rw [K6,C1];rfl
 have i:∀c,s8 (.ref (S x a b ext).length) (.str s!"devices") (S x a c (ext++ [eZ p e]))= .ok (J2 e) (S x a c (ext++ [eZ p e])):=λc=>by
  rw [K6,C1];rfl
 cases p with
 | none=>wp_walk using f,AG,M8 hx <;> rfl
 | some v=>wp_walk using f,i,Di
section
variable {β:Type}
def PR.map (g:α→V) (r:PR α):PR V:=r.bind λv a=> .ok (g v) a
theorem B5 {g:α→V} {r:PR α} {f:Nat→St}:(r.map g).res id f=r.res g f:=by cases r <;> rfl
def lJ (x:Bx) (N:Nat) (form:Nat) (verb:List Nat) (a:Nat):PR V:=match form with
 | 0=>(eD x (N+1) a).map qT
 | 1=>(kC x (N+1) a).map jG
 | 2=>(zY x (N+1) a).map dk
 | 3=>(O4 x (N+1) (N6 x) a).map uE
 | 4=>(O4 x (N+1) (az x) a).map tJ
 | 5=>(O4 x (N+1) (ao x) a).map uU
 | 6=>(fL x verb a).map uc
 | _=>(bP x N a).map fk
structure Fit (x:Bx) (form:Nat) (verb:List Nat):Prop where
 ok:x.Ok
 types:Types x
 fam:x.fam∈s7
 v0:form≤1→zJ x
 ve:form=2→nL x
 st:form=5→Strokes x
 verb:form=6→verb∈J4
 lt:form < 8
theorem mU {a1 b1:Nat}:s8 (.ref (S x a1 b1 ext).length) (.int 0) (S x a b (ext++ [.list [.str s!"counter",.str s!"quota",.str s!"limit"]]))= .ok (.str s!"counter") (S x a b (ext++ [.list [.str s!"counter",.str s!"quota",.str s!"limit"]])):=by
 rw [M4,C1];rfl
theorem mK {a1 b1:Nat}:s8 (.ref (S x a1 b1 ext).length) (.int 1) (S x a b (ext++ [.list [.str s!"counter",.str s!"quota",.str s!"limit"]]))= .ok (.str s!"quota") (S x a b (ext++ [.list [.str s!"counter",.str s!"quota",.str s!"limit"]])):=by
 rw [M4,C1];rfl
theorem mG {a1 b1:Nat}:s8 (.ref (S x a1 b1 ext).length) (.int 2) (S x a b (ext++ [.list [.str s!"counter",.str s!"quota",.str s!"limit"]]))= .ok (.str s!"limit") (S x a b (ext++ [.list [.str s!"counter",.str s!"quota",.str s!"limit"]])):=by
 rw [M4,C1];rfl
theorem Sw {verb:List Nat} (hx:Fit x 0 verb) (c:299≤N) (e:N≤700):c0 b7 (N+1) (d+11) 943 [rd x,.int 0,.str verb] (S x a b ext)=((eD x (N+1) a).map qT).res id (pS x b ext):=by
 rw [B5];have h:=LP (x:=x) (N:=N) (d:=d+3) (a:=a) (b:=b) (ext:=ext) hx.ok (hx.v0 (by decide)) c hx.fam;rw [d6 ay 12 rfl];wp_walk using ay,if_true,h;refine G9 λz z z=>?_;wp_walk using f0
theorem SH {verb:List Nat} (hx:Fit x 1 verb) (e:299≤N) (c:N≤700):c0 b7 (N+1) (d+11) 943 [rd x,.int 1,.str verb] (S x a b ext)=((kC x (N+1) a).map jG).res id (pS x b ext):=by
 rw [B5];have h:=MQ (x:=x) (N:=N) (d:=d+2) (a:=a) (b:=b) (ext:=ext) hx.ok (hx.v0 (by decide)) e c hx.fam;rw [d6 ay 12 rfl];wp_walk using ay,if_true,Int.reduceEq,if_false,h;refine G9 λz z z=>?_;wp_walk using f0
theorem Vn {verb:List Nat} (hx:Fit x 2 verb) (e:299≤N) (c:N≤700):c0 b7 (N+1) (d+11) 943 [rd x,.int 2,.str verb] (S x a b ext)=((zY x (N+1) a).map dk).res id (pS x b ext):=by
 rw [B5];have h:=Ud (x:=x) (N:=N) (d:=d+1) (a:=a) (b:=b) (ext:=ext) hx.ok hx.types (hx.ve rfl) e c;rw [d6 ay 12 rfl];wp_walk using ay,if_true,Int.reduceEq,if_false,h;refine G9 λz z z=>?_;wp_walk using W7
theorem SJ {verb:List Nat} (hx:Fit x 3 verb) (c:299≤N) (f:N≤700):c0 b7 (N+1) (d+11) 943 [rd x,.int 3,.str verb] (S x a b ext)=((O4 x (N+1) (N6 x) a).map uE).res id (pS x b ext):=by
 rw [B5];have h:=λe=>mT (x:=x) (N:=N) (d:=d+1) (a:=a) (b:=b) (ext:=e) hx.ok (g:=uE) (λz=>rfl) (body:=N6 x) (kind:= s!"counter") (fn:=404) (.inl ⟨rfl,rfl⟩) (λa=>yj (d:=d+2) hx.ok c);rw [d6 ay 12 rfl];wp_walk using ay,if_true,Int.reduceEq,Int.reduceLT,Int.reduceSub,if_false,mU,mK,mG,h;refine G9 (λz z z=>?_) (λz z=>by exact cG (Res.bad _) n9) (by rfl);wp_walk using f0
theorem TA {verb:List Nat} (hx:Fit x 4 verb) (c:299≤N) (f:N≤700):c0 b7 (N+1) (d+11) 943 [rd x,.int 4,.str verb] (S x a b ext)=((O4 x (N+1) (az x) a).map tJ).res id (pS x b ext):=by
 rw [B5];have h:=λe=>mT (x:=x) (N:=N) (d:=d+1) (a:=a) (b:=b) (ext:=e) hx.ok (g:=tJ) (λz=>rfl) (body:=az x) (kind:= s!"quota") (fn:=411) (.inr (.inl ⟨rfl,rfl⟩)) (λa=>Gs (d:=d+1) hx.ok c);rw [d6 ay 12 rfl];wp_walk using ay,if_true,Int.reduceEq,Int.reduceLT,Int.reduceSub,if_false,mU,mK,mG,h;refine G9 (λz z z=>?_) (λz z=>by exact cG (Res.bad _) n9) (by rfl);wp_walk using f0
theorem Vc {verb:List Nat} (hx:Fit x 5 verb) (c:299≤N) (f:N≤700):c0 b7 (N+1) (d+11) 943 [rd x,.int 5,.str verb] (S x a b ext)=((O4 x (N+1) (ao x) a).map uU).res id (pS x b ext):=by
 rw [B5];have h:=λe=>mT (x:=x) (N:=N) (d:=d+1) (a:=a) (b:=b) (ext:=e) hx.ok (g:=uU) (λz=>rfl) (body:=ao x) (kind:= s!"limit") (fn:=446) (.inr (.inr ⟨rfl,rfl⟩)) (λa=>IJ (d:=d+1) hx.ok (hx.st rfl) c);rw [d6 ay 12 rfl];wp_walk using ay,if_true,Int.reduceEq,Int.reduceLT,Int.reduceSub,if_false,mU,mK,mG,h;refine G9 (λz z z=>?_) (λz z=>by exact cG (Res.bad _) n9) (by rfl);wp_walk using f0
theorem UF {verb:List Nat} (hx:Fit x 6 verb) (e:299≤N) (g:N≤700):c0 b7 (N+1) (d+11) 943 [rd x,.int 6,.str verb] (S x a b ext)=((fL x verb a).map uc).res id (pS x b ext):=by
 rw [B5];have h:=PS (x:=x) (N:=N) (d:=d+4) (a:=a) (b:=b) (ext:=ext) hx.ok (hx.verb rfl);delta fL;rw [d6 ay 12 rfl];wp_walk using ay,if_true,Int.reduceEq,Int.reduceLT,if_false,h;refine d5 λkd c u=>?_;wp_walk using f0;refine s9 (λj=>?_) λj=>?_
 ·wp_walk using f0
 ·wp_walk using QZ hx.ok;refine d5 λf i u=>?_;wp_walk using Qc hx.ok e;refine d5 λnm l u=>?_;wp_walk using f0
theorem RC {verb:List Nat} (hx:Fit x 7 verb) (f:299≤N) (e:N≤700):c0 b7 (N+1) (d+11) 943 [rd x,.int 7,.str verb] (S x a b ext)=((bP x N a).map fk).res id (pS x b ext):=by
 rw [B5];have h:=Jh (x:=x) (N:=N) (d:=d+4) (a:=a) (b:=b) (ext:=ext) hx.ok hx.types f (by omega);delta bP;rw [d6 ay 12 rfl];wp_walk using ay,if_true,Int.reduceEq,Int.reduceLT,if_false,h;refine d5 λt c u=>?_;wp_walk using bg hx.ok;refine d5 λu j g=>?_;wp_walk using Hh hx.ok f e;refine d5 λfl l u=>?_;wp_walk using f0
theorem jH {P:Nat→Prop} (a:P 0) (h1:P 1) (c:P 2) (o:P 3) (b:P 4) (d:P 5) (e:P 6) (f:P 7) {n:Nat} (h:n < 8):P n:=by
 rcases n with _ | _ | _ | _ | _ | _ | _ | _ | n
 ·exact a
 ·exact h1
 ·exact c
 ·exact o
 ·exact b
 ·exact d
 ·exact e
 ·exact f
 ·exact absurd h (ae.mpr (N7 8 n))
theorem PV {form:Nat} {verb:List Nat} (hx:Fit x form verb) (e:299≤N) (c:N≤700):c0 b7 (N+1) (d+11) 943 [rd x,.int (form:Int),.str verb] (S x a b ext)=(lJ x N form verb a).res id (pS x b ext):=
 jH (P:=λform=>Fit x form verb→c0 b7 (N+1) (d+11) 943 [rd x,.int (form:Int),.str verb] (S x a b ext)=(lJ x N form verb a).res id (pS x b ext)) (λh=>Sw h e c) (λh=>SH h e c) (λh=>Vn h e c) (λh=>SJ h e c) (λh=>TA h e c) (λh=>Vc h e c) (λh=>UF h e c) (λh=>RC h e c) hx.lt hx
theorem VL {a1 b1:Nat}:s8 (.ref (S x a1 b1 ext).length) (.int 0) (S x a b (ext++ [.list [.fn 830,.fn 851,.fn 870]]))= .ok (.fn 830) (S x a b (ext++ [.list [.fn 830,.fn 851,.fn 870]])):=by
 rw [M4,C1];rfl
theorem Yo {a1 b1:Nat}:s8 (.ref (S x a1 b1 ext).length) (.int 1) (S x a b (ext++ [.list [.fn 830,.fn 851,.fn 870]]))= .ok (.fn 851) (S x a b (ext++ [.list [.fn 830,.fn 851,.fn 870]])):=by
 rw [M4,C1];rfl
theorem XI {a1 b1:Nat}:s8 (.ref (S x a1 b1 ext).length) (.int 2) (S x a b (ext++ [.list [.fn 830,.fn 851,.fn 870]]))= .ok (.fn 870) (S x a b (ext++ [.list [.fn 830,.fn 851,.fn 870]])):=by
 rw [M4,C1];rfl
theorem Un {verb:List Nat} (hx:Fit x 0 verb) (f:299≤N) (c:N≤700):c0 b7 (N+1) (d+11) 950 [bk x,.int 0,.str verb] (S x a b ext)=((eD x (N+1) b).map qT).res id (lS x a ext):=by
 rw [B5];have h:=λe=>Mm (x:=x) (N:=N) (d:=d+3) (a:=a) (b:=b) (ext:=e) hx.ok f c hx.fam;rw [d6 av 6 rfl];wp_walk using av,if_true,show ∀st:St,l7 st .isin (.int 0) (.tup [.int 3,.int 4,.int 5])=b6 false from λz=>rfl,Int.reduceEq,Int.reduceLT,if_false,VL,h
 refine G9 (λz z z=>?_) (λz z=>by exact cG (Res.bad _) n9) (by rfl);wp_walk using f0
theorem Vd {verb:List Nat} (hx:Fit x 1 verb) (f:299≤N) (c:N≤700):c0 b7 (N+1) (d+11) 950 [bk x,.int 1,.str verb] (S x a b ext)=((kC x (N+1) b).map jG).res id (lS x a ext):=by
 rw [B5];have h:=λe=>Mc (x:=x) (N:=N) (d:=d+2) (a:=a) (b:=b) (ext:=e) hx.ok f c hx.fam;rw [d6 av 6 rfl];wp_walk using av,if_true,show ∀st:St,l7 st .isin (.int 1) (.tup [.int 3,.int 4,.int 5])=b6 false from λz=>rfl,Int.reduceEq,Int.reduceLT,if_false,Yo,h
 refine G9 (λz z z=>?_) (λz z=>by exact cG (Res.bad _) n9) (by rfl);wp_walk using f0
theorem UH {verb:List Nat} (hx:Fit x 2 verb) (f:299≤N) (c:N≤700):c0 b7 (N+1) (d+11) 950 [bk x,.int 2,.str verb] (S x a b ext)=((zY x (N+1) b).map dk).res id (lS x a ext):=by
 rw [B5];have h:=λe=>Sl (x:=x) (N:=N) (d:=d+1) (a:=a) (b:=b) (ext:=e) hx.ok (hx.ve rfl) f c;rw [d6 av 6 rfl];wp_walk using av,if_true,show ∀st:St,l7 st .isin (.int 2) (.tup [.int 3,.int 4,.int 5])=b6 false from λz=>rfl,Int.reduceEq,Int.reduceLT,if_false,XI,h
 refine G9 (λz z z=>?_) (λz z=>by exact cG (Res.bad _) n9) (by rfl);wp_walk using W7
theorem Rb {verb:List Nat} (hx:Fit x 3 verb) (c:299≤N) (f:N≤700):c0 b7 (N+1) (d+11) 950 [bk x,.int 3,.str verb] (S x a b ext)=((O4 x (N+1) (N6 x) b).map uE).res id (lS x a ext):=by
 rw [B5];have h:=λe=>mQ (x:=x) (N:=N) (d:=d+1) (a:=a) (b:=b) (ext:=e) hx.ok (g:=uE) (λz=>rfl) (body:=N6 x) (kind:= s!"counter") (λb=>yp (d:=d+2) hx.ok c (by omega));rw [d6 av 6 rfl];wp_walk using av,if_true,show ∀st:St,l7 st .isin (.int 3) (.tup [.int 3,.int 4,.int 5])=b6 true from λz=>rfl,Int.reduceSub,mU,h
 refine G9 (λz z z=>?_) (λz z=>by exact cG (Res.bad _) n9) (by rfl);wp_walk using f0
theorem Ur {verb:List Nat} (hx:Fit x 4 verb) (c:299≤N) (f:N≤700):c0 b7 (N+1) (d+11) 950 [bk x,.int 4,.str verb] (S x a b ext)=((O4 x (N+1) (az x) b).map tJ).res id (lS x a ext):=by
 rw [B5];have h:=λe=>mQ (x:=x) (N:=N) (d:=d+1) (a:=a) (b:=b) (ext:=e) hx.ok (g:=tJ) (λz=>rfl) (body:=az x) (kind:= s!"quota") (λb=>GJ (d:=d+1) hx.ok c (by omega));rw [d6 av 6 rfl];wp_walk using av,if_true,show ∀st:St,l7 st .isin (.int 4) (.tup [.int 3,.int 4,.int 5])=b6 true from λz=>rfl,Int.reduceSub,mK,h
 refine G9 (λz z z=>?_) (λz z=>by exact cG (Res.bad _) n9) (by rfl);wp_walk using f0
theorem RV {verb:List Nat} (hx:Fit x 5 verb) (c:299≤N) (f:N≤700):c0 b7 (N+1) (d+11) 950 [bk x,.int 5,.str verb] (S x a b ext)=((O4 x (N+1) (ao x) b).map uU).res id (lS x a ext):=by
 rw [B5];have h:=λe=>mQ (x:=x) (N:=N) (d:=d+1) (a:=a) (b:=b) (ext:=e) hx.ok (g:=uU) (λz=>rfl) (body:=ao x) (kind:= s!"limit") (λb=>IZ (d:=d+1) hx.ok c (by omega));rw [d6 av 6 rfl];wp_walk using av,if_true,show ∀st:St,l7 st .isin (.int 5) (.tup [.int 3,.int 4,.int 5])=b6 true from λz=>rfl,Int.reduceSub,mG,h
 refine G9 (λz z z=>?_) (λz z=>by exact cG (Res.bad _) n9) (by rfl);wp_walk using f0
theorem SQ {verb:List Nat} (hx:Fit x 6 verb) (c:299≤N) (f:N≤700):c0 b7 (N+1) (d+11) 950 [bk x,.int 6,.str verb] (S x a b ext)=((fL x verb b).map uc).res id (lS x a ext):=by
 rw [B5];have h:=λe=>Po (x:=x) (N:=N) (d:=d+4) (a:=a) (b:=b) (ext:=e) hx.ok c (by omega) (hx.verb rfl);rw [d6 av 6 rfl];wp_walk using av,if_true,show ∀st:St,l7 st .isin (.int 6) (.tup [.int 3,.int 4,.int 5])=b6 false from λz=>rfl,h
 refine G9 λz z z=>?_;wp_walk using f0
theorem Vt {verb:List Nat} (hx:Fit x 7 verb) (f:299≤N) (c:N≤700):c0 b7 (N+1) (d+11) 950 [bk x,.int 7,.str verb] (S x a b ext)=((bP x N b).map fk).res id (lS x a ext):=by
 rw [B5];have h:=λe=>Gr (x:=x) (N:=N) (d:=d+4) (a:=a) (b:=b) (ext:=e) hx.ok f c;rw [d6 av 6 rfl];wp_walk using av,if_true,show ∀st:St,l7 st .isin (.int 7) (.tup [.int 3,.int 4,.int 5])=b6 false from λz=>rfl,Int.reduceEq,Int.reduceLT,if_false,h
 refine G9 λz z z=>?_;wp_walk using f0
theorem Qt {form:Nat} {verb:List Nat} (hx:Fit x form verb) (e:299≤N) (c:N≤700):c0 b7 (N+1) (d+11) 950 [bk x,.int (form:Int),.str verb] (S x a b ext)=(lJ x N form verb b).res id (lS x a ext):=
 jH (P:=λform=>Fit x form verb→c0 b7 (N+1) (d+11) 950 [bk x,.int (form:Int),.str verb] (S x a b ext)=(lJ x N form verb b).res id (lS x a ext)) (λh=>Un h e c) (λh=>Vd h e c) (λh=>UH h e c) (λh=>Rb h e c) (λh=>Ur h e c) (λh=>RV h e c) (λh=>SQ h e c) (λh=>Vt h e c) hx.lt hx
end
section
variable {β:Type} {P:α→Prop} {Q:β→Prop}
def Gd (a:Nat) (P:α→Prop):PR α→Prop
 | .ok v a'=>a≤a'∧P v
 | .bad e _=>asc e.why
 | .stuck=>False
theorem d9 {r:PR α} {f:α→Nat→PR β} (h:Gd a P r) (d:∀v a',a≤a'→P v→Gd a' Q (f v a')):Gd a Q (r.bind f):=by
 cases r with
 | ok v a'=>
  have b:=d v a' h.1 h.2;show Gd a Q (f v a');cases j:f v a' with
  | ok u c=>rw [j] at b;exact ⟨d3 h.1 b.1,b.2⟩
  | bad e c=>rw [j] at b;exact b
  | stuck=>rw [j] at b;exact b
 | bad e a'=>exact h
 | stuck=>exact h
theorem H9 {r:PR α} {a0:Nat} (h:Gd a P r) (b:a0≤a):Gd a0 P r:=by
 cases r with
 | ok v a'=>exact ⟨d3 b h.1,h.2⟩
 | _=>exact h
theorem j4 {c:Prop} [Decidable c] {r s:PR α} (h1:c→Gd a P r) (b:¬c→Gd a P s):Gd a P (if c then r else s):=dite c (λh=>(iP h).symm▸h1 h) λh=>(iN h).symm▸b h
theorem x5 (h1:asc s) (h:asc t):asc (s++t):=λc hc=>by
 rcases dP.mp hc with hc | hc
 ·exact h1 c hc
 ·exact h c hc
theorem oz:asc []:=λc a=>absurd a H2
theorem Dx (hx:x.Ok):asc (ni (now x a)):=by
 delta ni
 split
 ·decide
 ·split
  ·split <;> decide
  ·exact x5 (x5 (by decide) (v7 hx)) (by decide)
theorem k8 (hx:x.Ok) (h:asc w):asc (p5 x a w).why:=x5 (x5 (x5 (by decide) (Dx hx)) (by decide)) h
theorem iE {m:Nat}:asc (p6 (m:Int)):=by
 delta p6 iw;rw [iN (by omega),FE];intro c a;obtain ⟨y,d,rfl⟩:=O1.mp a;have:=Nat.isDigit_of_mem_toDigits (b:=10) (by decide) (by decide) d;unfold Char.isDigit at this;simp only [Z6,decide_eq_true_eq] at this;have h:=this.2;have:y.val.toNat≤57:=by
  have:=UInt32.le_iff_toNat_le.mp h
  simpa using this
 show y.val.toNat < 128;omega
theorem cZ {m:Nat} (h:asc t):asc (bw x a t (m:Int)).why:=x5 (x5 (x5 (by decide) h) (by decide)) iE
theorem cD (hx:x.Ok) (h:asc t):Gd a (λz=>True) (bx x t a):=by
 refine j4 (λ_=>?_) λ_=>?_
 ·exact ⟨w7 _,trivial⟩
 ·exact k8 hx (x5 (x5 (by decide) h) (by decide))
theorem Q8 (hx:x.Ok) (h:asc t):Gd a (λz=>True) (Z5 x t a):=by
 refine j4 (λ_=>?_) λ_=>?_
 ·exact ⟨w7 _,trivial⟩
 ·exact k8 hx h
theorem kK {m:List (List Nat)} (b:asc w):Gd (a+1) (λt=>t∈m) (u4 x m w a):=by
 refine j4 (λ_=>?_) λ_=>?_
 ·rename_i h;exact ⟨i0 _,h.2⟩
 ·exact b
theorem sN (hx:x.Ok) {m:List (List Nat)} {a':Nat} (h:u4 x m w a= .ok t a'):a'=a+1∧a+1 < x.T.length:=by
 delta u4 at h
 split at h
 ·rename_i c;cases h;exact ⟨rfl,w6 hx (by rw [c.1];decide)⟩
 ·cases h
theorem Cv (hx:x.Ok):Gd a (λt=>asc t) (fP x a):=by
 refine j4 (λ_=>?_) λ_=>?_
 ·exact ⟨w7 _,v7 hx⟩
 ·exact k8 hx (by decide)
theorem Ev {L a f c:Nat} (h:L < a+(f+1)) (b:a+1≤c):L < c+f:=M6 (Ai a f 1▸h:L < a+1+f) (T1 b f)
theorem Dj {L a f:Nat} (h:L < a+(f+1)) (c:a < L):1≤f:=bD λe=>absurd (e▸h:L < a+(0+1)) (ae.mpr c)
theorem OJ (hx:x.Ok):∀{f a:Nat},x.T.length < a+f→1≤f→Gd a (λz=>True) (skip x f a):=by
 intro f
 induction f with
 | zero=>intro a _ h;omega
 | succ f ih=>
  intro a h _;refine j4 (λ_=>?_) λ_=>?_
  ·rename_i hs;have:=w6 (a:=a) hx (by rw [hs];decide);exact H9 (ih (Ev h (i0 _)) (Dj h (me this))) (w7 _)
  ·exact ⟨i0 _,trivial⟩
theorem Gj (hx:x.Ok):∀{f a:Nat},x.T.length < a+f→1≤f→Gd a (λz=>True) (V5 x f a):=by
 intro f
 induction f with
 | zero=>intro a _ h;omega
 | succ f ih=>
  intro a h _;refine j4 (λ_=>?_) λ_=>?_
  ·rename_i hs;have:=w6 (a:=a) hx (by rw [hs.1];decide);exact H9 (ih (Ev h (i0 _)) (Dj h (me this))) (w7 _)
  ·exact ⟨i0 _,trivial⟩
theorem mM (hx:x.Ok) (h:299≤N):Gd a (λz=>True) (skip x (N+1) a):=OJ hx (by have:=hx.small;omega) (by exact N7 _ _)
theorem jB (hx:x.Ok) (h:299≤N):Gd a (λz=>True) (V5 x (N+1) a):=Gj hx (by have:=hx.small;omega) (by exact N7 _ _)
theorem cA (hx:x.Ok) (h:299≤N):Gd a (λz=>True) (V1 x (N+1) a):=by
 refine j4 (λ_=>?_) λ_=>?_
 ·exact mM hx h
 ·exact k8 hx (by decide)
theorem oy (hx:x.Ok) (h:299≤N):Gd a (λz=>True) (lO x (N+1) a):=d9 (cD hx (by decide)) λz z z z=>mM hx h
theorem xI (hx:x.Ok):Gd a (λz=>True) (T8 x a):=by
 refine j4 (λ_=>?_) λ_=>?_
 ·cases num (now x a).text with
  | some=>exact ⟨w7 _,trivial⟩
  | none=>exact k8 hx (by decide)
 ·exact k8 hx (by decide)
theorem cU (hx:x.Ok) {top:Nat}:Gd a (λz=>True) (K2 x top a):=by
 refine j4 (λ_=>?_) λ_=>?_
 ·cases num (now x a).text with
  | some=>
   refine j4 (λ_=>?_) λ_=>?_
   ·exact cZ (v7 hx)
   ·exact ⟨w7 _,trivial⟩
  | none=>exact k8 hx (by decide)
 ·exact k8 hx (by decide)
theorem vy (hx:x.Ok) {m u:Nat}:Gd a (λz=>True) (bS x m u a):=by
 refine j4 (λ_=>?_) λ_=>?_
 ·exact cZ iE
 ·exact ⟨i0 _,trivial⟩
theorem sH {lim:Bool}:asc (sW lim):=by cases lim <;> decide
theorem uy (hx:x.Ok) {lim:Bool}:Gd a (λz=>True) (fB x lim a):=by
 delta fB;refine d9 (cU hx) λm a' _ _=>?_;by_cases h:(if (now x a').sort=sWord then I7 lim (now x a').text else 0)=0
 ·rw [iP h];exact k8 hx sH
 ·rw [iN h];exact d9 (vy hx) λz z z z=>⟨w7 _,trivial⟩
theorem BW (hx:x.Ok):Gd a (λz=>True) (oG x a):=by
 refine j4 (λ_=>?_) λ_=>?_
 ·exact ⟨w7 _,trivial⟩
 ·refine j4 (λ_=>?_) λ_=>?_
  ·exact ⟨w7 _,trivial⟩
  ·exact ⟨i0 _,trivial⟩
theorem zq (hx:x.Ok):Gd a (λz=>True) (N6 x a):=by
 refine j4 (λ_=>?_) λ_=>?_
 ·exact H9 (a:=a+1) (d9 (cU hx) λz z z z=>d9 (Q8 hx (by decide)) λz z z z=>d9 (cU hx) λz z z z=>⟨i0 _,trivial⟩) (w7 _)
 ·exact ⟨i0 _,trivial⟩
theorem IG (hx:x.Ok):Gd a (λz=>True) (az x a):=d9 (BW hx) λz a1 z z=>d9 (uy hx) λz c z z=>by
 refine j4 (λ_=>?_) λ_=>?_
 ·exact H9 (a:=c+1) (d9 (uy hx) λz z z z=>⟨i0 _,trivial⟩) (w7 _)
 ·exact ⟨i0 _,trivial⟩
theorem yn:∀t∈wy,asc t:=by decide
theorem BJ (hx:x.Ok) {o:Option (List Nat)}:Gd a (λt=>asc t) (wE x o a):=by
 cases o with
 | some=>
  refine j4 (λ_=>?_) λ_=>?_
  ·rename_i h;exact ⟨w7 _,yn _ h⟩
  ·exact k8 hx (by decide)
 | none=>exact k8 hx (by decide)
theorem LC (hx:x.Ok):Gd a (λp=>asc p.2.1) (hY x a):=by
 delta hY;cases num (H8 x a).1 with
 | some=>
  refine j4 (λ_=>?_) λ_=>?_
  ·exact cZ (mJ hx)
  ·cases (H8 x a).2 with
   | some=>exact d9 (BJ hx) λz z z hp=>⟨i0 _,hp⟩
   | none=>
    refine j4 (λ_=>?_) λ_=>?_
    ·exact k8 hx (by decide)
    ·exact H9 (a:=a+1) (d9 (vy hx) λz z z z=>d9 (BJ hx) λz z z hp=>⟨i0 _,hp⟩) (w7 _)
 | none=>exact k8 hx (by decide)
theorem IV (hx:x.Ok):Gd a (λp=>asc p.2.2.1) (ao x a):=d9 (Q8 hx (by decide)) λz z z z=>d9 (BW hx) λz z z z=>d9 (LC hx) λq b z m=>by
 refine j4 (λ_=>?_) λ_=>?_
 ·refine j4 (λ_=>?_) λ_=>?_
  ·exact H9 (a:=b+1) (d9 (uy hx) λz z z z=>⟨i0 _,m⟩) (w7 _)
  ·exact H9 (a:=b+1) (d9 (cU hx) λz z z z=>d9 (Q8 hx (by decide)) λz z z z=>⟨i0 _,m⟩) (w7 _)
 ·exact ⟨i0 _,m⟩
theorem nJ (hx:x.Ok) (h:299≤N) {body:Nat→PR α} (c:∀a,Gd a P (body a)):Gd a P (O4 x (N+1) body a):=by
 refine j4 (λ_=>?_) λ_=>?_
 ·exact d9 (oy hx h) λz z z z=>d9 (c _) λz z z hp=>d9 (mM hx h) λz z z z=>d9 (cD hx (by decide)) λz z z z=>⟨i0 _,hp⟩
 ·exact c _
theorem yV:∀verb∈J4,(∀t∈w4 verb,asc t)∧asc (v8 s!" or " (w4 verb)):=by decide
theorem ON (hx:x.Ok) {verb:List Nat} (hv:verb∈J4):Gd a (λt=>asc t) (vN x verb a):=by
 obtain ⟨h1,c⟩:=yV verb hv;refine j4 (λ_=>?_) λ_=>?_
 ·exact H9 (a:=a+1) (d9 (Q8 hx (by decide)) λz z z z=>⟨i0 _,by decide⟩) (w7 _)
 ·refine j4 (λ_=>?_) λ_=>?_
  ·refine ⟨w7 _,?_⟩
   split
   ·decide
   ·exact v7 hx
  ·exact k8 hx c
theorem Rw (hx:x.Ok):Gd a (λt=>asc t) (tj x a):=by
 refine j4 (λ_=>?_) λ_=>?_
 ·exact ⟨w7 _,v7 hx⟩
 ·exact ⟨i0 _,by decide⟩
theorem Qk (hx:x.Ok):Gd a (λt=>asc t) (ie x a):=by
 refine j4 (λ_=>?_) λ_=>?_
 ·exact ⟨w7 _,v7 hx⟩
 ·exact k8 hx (by decide)
theorem PQ (hx:x.Ok) {verb:List Nat} (hv:verb∈J4):Gd a (λp=>asc p.1∧asc p.2.1∧asc p.2.2) (fL x verb a):=d9 (ON hx hv) λk a1 z O=>by
 refine j4 (λ_=>?_) λ_=>?_
 ·exact ⟨i0 _,O,oz,oz⟩
 ·exact d9 (Rw hx) λz z z h=>d9 (Qk hx) λz z z g=>⟨i0 _,O,h,g⟩
theorem AL (hx:x.Ok):Gd a (λt=>asc t) (T5 x a):=by
 refine j4 (λ_=>?_) λ_=>?_
 ·refine j4 (λ_=>?_) λ_=>?_
  ·refine j4 (λ_=>?_) λ_=>?_
   ·show asc s!"unqualified type 'integer' specified in set definition";decide
   ·exact ⟨w7 _,v7 hx⟩
  ·exact x5 (x5 (by decide) (v7 hx)) (by decide)
 ·exact k8 hx (by decide)
abbrev dH (l:List (List Nat)):Prop:=∀t∈l,asc t
theorem bb {l:List (List Nat)} (h:dH l) (i:asc t):dH (l++ [t]):=λu hu=>by
 rcases dP.mp hu with hu | hu
 ·exact h u hu
 ·rw [U5.mp hu];exact i
theorem CU (hx:x.Ok):∀{f:Nat} {acc:List (List Nat)} {a:Nat},x.T.length < a+f→1≤f→dH acc→Gd a dH (H5 x f acc a):=by
 intro f
 induction f with
 | zero=>intro acc a _ h;omega
 | succ f ih=>
  intro acc a h _ g;refine j4 (λ_=>?_) λ_=>?_
  ·rename_i h1;have d:a+1 < x.T.length:=by
    by_cases b:x.T.length≤a+1
    ·exact absurd h1 (qq hx b)
    ·omega
   refine H9 (a:=a+1) ?_ (w7 _);have hg:=AL (a:=a+1) hx;cases i:T5 x (a+1) with
   | bad e c=>rw [i] at hg;exact hg
   | stuck=>rw [i] at hg;exact hg
   | ok t c=>
    rw [i] at hg;have:=qU i;exact H9 (ih (by omega) (by omega) (bb g hg.2)) (by omega)
  ·exact ⟨i0 _,g⟩
theorem AI (hx:x.Ok):∀{f:Nat} {acc:List (List Nat)} {a:Nat},x.T.length+1 < a+f→2≤f→Gd a (λz=>True) (O8 x f acc a):=by
 intro f
 induction f with
 | zero=>intro acc a _ h;omega
 | succ f ih=>
  intro acc a h _;rw [Th];have hg:=kK (x:=x) (a:=a) (m:=H6) (w:= s!"unknown set flag") (by decide);cases i:u4 x H6 s!"unknown set flag" a with
  | bad e c=>rw [i] at hg;exact hg
  | stuck=>rw [i] at hg;exact hg
  | ok t c=>
   obtain ⟨h1,b⟩:=sN hx i;simp only [fY];refine j4 (λ_=>?_) λ_=>?_
   ·exact H9 (ih (by omega) (by omega)) (by omega)
   ·rw [iN (by omega)];exact ⟨by omega,trivial⟩
theorem GP (hx:x.Ok) (h:299≤N):Gd a (λp=>dH p.1∧dH p.2) (bP x N a):=by
 have b:=hx.small;refine d9 (P:=dH) (d9 (AL hx) λt a' z i=>CU hx (by omega) (by omega) (bb (λu r=>absurd r H2) i)) λf a1 z k=>d9 (cA hx h) λz c z z=>d9 (P:=dH) (d9 (AI hx (by omega) (by omega)) λv m z z=>⟨i0 _,λt i=>?_⟩) λfl n z q=>⟨i0 _,k,q⟩;exact la t (xB.mp i).1
theorem vd (hx:x.Ok) {dp:Bool}:Gd a (λz=>True) (bR x dp a):=by
 refine j4 (λ_=>?_) λ_=>?_
 ·cases nd dp (now x a).text with
  | some=>
   refine j4 (λ_=>?_) λ_=>?_
   ·exact cZ (v7 hx)
   ·exact ⟨w7 _,trivial⟩
  | none=>
   refine x5 (x5 (x5 (by decide) (v7 hx)) (by decide)) ?_
   cases dp <;> decide
 ·exact k8 hx (by decide)
theorem Pg (hx:x.Ok):Gd a (λz=>True) (qW x a):=by
 refine j4 (λ_=>?_) λ_=>?_
 ·cases fN (now x a).text with
  | some=>exact ⟨w7 _,trivial⟩
  | none=>exact k8 hx (by decide)
 ·exact k8 hx (by decide)
theorem Ub (hx:x.Ok) {w:List Nat}:Gd a (λz=>True) (Ja x w a):=by
 refine j4 (λ_=>?_) λ_=>?_
 ·exact vd hx
 ·refine j4 (λ_=>?_) λ_=>?_
  ·exact vd hx
  ·refine j4 (λ_=>?_) λ_=>?_
   ·exact Pg hx
   ·refine j4 (λ_=>?_) λ_=>?_
    ·exact xI hx
    ·exact H9 (a:=a+1) (d9 (kK (by decide)) λz z z z=>⟨i0 _,trivial⟩) (w7 _)
theorem LM (hx:x.Ok) (b:299≤N):∀{f:Nat} {lg:S2} {a:Nat},x.T.length < a+f→1≤f→Gd a (λz=>True) (sk x (N+1) f lg a):=by
 intro f
 induction f with
 | zero=>intro lg a _ h;omega
 | succ f ih=>
  intro lg a h _;refine j4 (λ_=>?_) λ_=>?_
  ·exact ⟨w7 _,trivial⟩
  ·have hg:=kK (x:=x) (a:=a) (m:=rowsE) (w:=mX) (by decide);cases i:u4 x rowsE mX a with
   | bad e c=>rw [i] at hg;exact hg
   | stuck=>rw [i] at hg;exact hg
   | ok w c=>
    obtain ⟨h1,g⟩:=sN hx i;refine H9 (a:=c) ?_ (by omega);simp only [fY];exact d9 (Ub hx) λn d z z=>d9 (cA hx b) λz j z z=>ih (by omega) (by omega)
theorem xY:∀t∈rowsE,asc t:=by decide
theorem Uv (hx:x.Ok) {lg:S2}:∀{l:List (List Nat)},(∀t∈l,asc t)→Gd a (λz=>True) (chk x lg l a):=by
 intro l
 induction l with
 | nil=>intro _;exact ⟨i0 _,trivial⟩
 | cons w r ih=>
  intro h;refine j4 (λ_=>?_) λ_=>?_
  ·exact x5 (by decide) (h w (D6 ..))
  ·exact ih λt i=>h t (F1 _ i)
theorem Sy (hx:x.Ok) (h:299≤N):Gd a (λz=>True) (zY x (N+1) a):=by
 have b:=hx.small;exact d9 (oy hx h) λz z z z=>d9 (LM hx h (by omega) (by exact N7 _ _)) λz z z z=>Uv hx xY
theorem Dq (hx:x.Ok):∀{f:Nat} {t:List Nat} {a:Nat},x.T.length < a+f→1≤f→G x t a→Gd a (λt=>asc t) (I5 x f t a):=by
 intro f
 induction f with
 | zero=>intro t a _ h;omega
 | succ f ih=>
  intro t a h _ g;refine j4 (λ_=>?_) λ_=>?_
  ·rename_i h1;have:=w6 (a:=a) hx (by rw [h1.1];decide);exact H9 (ih (Ev h (i0 _)) (Dj h (me this)) (mV hx h1.1 g)) (w7 _)
  ·exact ⟨i0 _,g.asc⟩
theorem Ef (hx:x.Ok) (c:299≤N) {hook:List Nat}:Gd a (λz=>True) (qR x hook (N+1) a):=by
 have b:=hx.small;refine j4 (λ_=>?_) λ_=>?_
 ·rename_i h;refine H9 (a:=a+1) (d9 (Dq hx (by omega) (by exact N7 _ _) (mI hx h)) λt a' _ i=>?_) (w7 _);cases nC (G7 x.fam hook) t with
  | some=>exact ⟨i0 _,trivial⟩
  | none=>exact x5 (x5 (by decide) i) (by decide)
 ·exact k8 hx (by decide)
theorem Qs (hx:x.Ok) (b:299≤N):∀{f:Nat} {acc:List (List Nat)} {a:Nat},x.T.length < a+f→1≤f→dH acc→Gd a dH (DI x (N+1) f acc a):=by
 intro f
 induction f with
 | zero=>intro acc a _ h;omega
 | succ f ih=>
  intro acc a h _ g;refine j4 (λ_=>?_) λ_=>?_
  ·exact ⟨i0 _,g⟩
  ·have hg:=Cv (a:=a) hx;cases i:fP x a with
   | bad e c=>rw [i] at hg;exact hg
   | stuck=>rw [i] at hg;exact hg
   | ok t c=>
    rw [i] at hg;obtain ⟨h1,k⟩:=pT hx i;refine H9 (a:=c) ?_ (by omega);simp only [fY];refine d9 (jB hx b) λ_ d _ _=>?_;refine j4 (λ_=>?_) λ_=>?_
    ·exact H9 (a:=d+1) (d9 (jB hx b) λz j z z=>ih (by omega) (by omega) (bb g hg.2)) (w7 _)
    ·exact ⟨i0 _,bb g hg.2⟩
theorem TH (hx:x.Ok) (h:299≤N):Gd a dH (IT x (N+1) a):=by
 have b:=hx.small;exact d9 (cD hx (by decide)) λz z z z=>d9 (jB hx h) λz z z z=>d9 (Qs hx h (by omega) (by exact N7 _ _) (λt i=>absurd i H2)) λv z z hv=>d9 (cD hx (by decide)) λz z z z=>⟨i0 _,hv⟩
theorem sx:∀t∈K7,asc t:=by decide
theorem xR:∀t∈u0,asc t:=by decide
theorem EE (hx:x.Ok):Gd a (λt=>asc t) (my x a):=by
 refine j4 (λ_=>?_) λ_=>?_
 ·exact H9 (Cv hx) (w7 _)
 ·exact ⟨i0 _,oz⟩
theorem MN (hx:x.Ok) (d:299≤N):Gd a (λp=>asc p.1∧asc p.2.1∧asc p.2.2.2) (eD x (N+1) a):=
 d9 (Q8 hx (by decide)) λz a1 z z=>d9 (H9 (kK (a:=a1) (by decide)) (w7 _)) λe z z h=>d9 (Q8 hx (by decide)) λz m z z=>
  d9 (H9 (kK (a:=m) (by decide)) (w7 _)) λO z z b=>d9 (EE hx) λf z z c=>d9 (Q8 hx (by decide)) λz z z z=>d9 (Ef hx d) λv z z z=>⟨i0 _,sx _ h,xR _ b,c⟩
theorem HE (hx:x.Ok) (i:299≤N):∀{f:Nat} {p:Option Int} {g:List (List Nat)} {a:Nat},x.T.length < a+f→1≤f→dH g→Gd a (λr=>dH r.2) (lQ x (N+1) f p g a):=by
 intro f
 induction f with
 | zero=>intro p g a _ h;omega
 | succ f ih=>
  intro p g a h _ b;refine j4 (λ_=>?_) λ_=>?_
  ·exact ⟨w7 _,b⟩
  ·have hg:=kK (x:=x) (a:=a) (m:= [s!"hook",s!"devices"]) (w:=mH) (by decide);cases j:u4 x [s!"hook",s!"devices"] mH a with
   | bad e c=>rw [j] at hg;exact hg
   | stuck=>rw [j] at hg;exact hg
   | ok w c=>
    obtain ⟨h1,l⟩:=sN hx j;refine H9 (a:=c) ?_ (by omega);simp only [fY];refine j4 (λ_=>?_) λ_=>?_
    ·exact d9 (Q8 hx (by decide)) λz z z z=>d9 (Q8 hx (by decide)) λz z z z=>d9 (Ef hx i) λz z z z=>d9 (cA hx i) λz k z z=>ih (by omega) (by omega) b
    ·exact d9 (cD hx (by decide)) λz z z z=>d9 (TH hx i) λd z z hdL=>d9 (cA hx i) λz k z z=>ih (by omega) (by omega) hdL
theorem PA (hx:x.Ok) (h:299≤N):Gd a (λr=>dH r.2) (kC x (N+1) a):=by
 have b:=hx.small;refine d9 (oy hx h) λz z z z=>d9 (HE hx h (by omega) (by exact N7 _ _) (λt i=>absurd i H2)) λr _ _ j=>?_;cases r.1 with
 | some=>exact ⟨i0 _,j⟩
 | none=>
  show asc vZ;decide
abbrev Qe (v:V):Prop:=v.data 18=true
theorem d8 {D:Nat} {v:V} {r:List V} (h:v.data D=true) (h':V.datas D r=true):V.datas D (v :: r)=true:=q7.mpr ⟨h,h'⟩
theorem t8 {D:Nat}:V.datas D []=true:=rfl
theorem w3 {D:Nat} {l:List V} (h:V.datas D l=true):(V.tup l).data (D+1)=true:=h
theorem C4 {D:Nat} {i:Int}:(V.int i).data D=true:=by cases D <;> rfl
theorem eu {D:Nat} {i:Bool}:(V.bool i).data D=true:=by cases D <;> rfl
theorem uB {D:Nat} {l:List Nat}:V.datas D (l.map natV)=true:=by
 induction l with
 | nil=>exact t8
 | cons a r ih=>exact d8 C4 ih
theorem fU {g:α→V} {r:PR α} (h:Gd a P r) (hg:∀v,P v→Qe (g v)):Gd a Qe (r.map g):=d9 h λv z z hp=>⟨i0 _,hg v hp⟩
theorem Nt {form:Nat} {verb:List Nat} (hx:Fit x form verb) (h:299≤N):Gd a Qe (lJ x N form verb a):=by
 have b:=hx.lt
 match form,hx,b with
 | 0,hx,_=>exact fU (MN hx.ok h) (λv hv=>w3 (d8 (r9 hv.1) (d8 (r9 hv.2.1) (d8 C4 (d8 (r9 hv.2.2) t8))))) 
 | 1,hx,_=>exact fU (PA hx.ok h) (λv hv=>w3 (d8 C4 (d8 (w3 (R7 hv)) t8))) 
 | 2,hx,_=>exact fU (Sy hx.ok h) (λv z=>w3 uB) 
 | 3,hx,_=>exact fU (nJ hx.ok h λa=>zq hx.ok) (λv z=>w3 (d8 C4 (d8 C4 t8))) 
 | 4,hx,_=>exact fU (nJ hx.ok h λa=>IG hx.ok) (λv z=>w3 (d8 eu (d8 C4 (d8 C4 t8)))) 
 | 5,hx,_=>exact fU (nJ hx.ok h λa=>IV hx.ok) (λv hv=>w3 (d8 eu (d8 C4 (d8 (r9 hv) (d8 C4 (d8 eu t8)))))) 
 | 6,hx,_=>exact fU (PQ hx.ok (hx.verb rfl)) (λv hv=>w3 (d8 (r9 hv.1) (d8 (r9 hv.2.1) (d8 (r9 hv.2.2) t8)))) 
 | 7,hx,_=>exact fU (GP hx.ok h) (λv hv=>w3 (d8 (w3 (R7 hv.1)) (d8 (w3 (R7 hv.2)) t8)))
end
end
section
abbrev Pen:=List Int×Int
def D4 (z:Pen):Prop:=z.1.length≤1000
variable {pre l l2 l3:St} {z z' z0:Pen} {n:Int} {N d:Nat} {st:St} {t w s:List Nat} {Φ:d7} {ρ:Loc} {γ:Type} {KO:Out→γ}
def Bs (pre:St) (z:Pen) (l:St):St:=pre++ .list (z.1.map V.int) :: .dict [(s!"row",.ref pre.length),(s!"rest",.int z.2)] :: l
theorem aA:(Bs pre z l).length=pre.length+2+l.length:=by
 exact u3.trans ((A2 _ _ _).trans (cG _ (G3 2 _))).symm
theorem B8:Bs pre z l++l2=Bs pre z (l++l2):=by delta Bs;rw [e7];rfl
theorem Bo:(Bs pre z l)[pre.length]?=b6 (.list (z.1.map V.int)):=by
 delta Bs;rw [I2 (i0 _),I3];rfl
theorem Dy:(Bs pre z l)[pre.length+1]?=b6 (.dict [(s!"row",.ref pre.length),(s!"rest",.int z.2)]):=by
 delta Bs;rw [I2 (A7 ..),dR];rfl
theorem RP {i:Nat}:(Bs pre z l)[pre.length+2+i]?=l[i]?:=by
 rw [A2];exact (I2 (A7 ..)).trans (by rw [dR,G3 2];rfl)
theorem Kd {i:Nat}:(Bs pre z (l++l2))[(Bs pre z' l).length+i]?=l2[i]?:=by
 rw [aA,A2,RP,I2 (A7 ..),dR]
theorem am:(Bs pre z (l++l2))[(Bs pre z' l).length]?=l2[0]?:=Kd (i:=0)
theorem A5:(Bs pre z (l++l2)).take (Bs pre z' l).length=Bs pre z l:=by
 rw [← B8,aA,← aA (pre:=pre) (z:=z) (l:=l),rX]
theorem u5:(Bs pre z (l++l2++l3)).take (Bs pre z' l).length=Bs pre z l:=by rw [e7,A5]
theorem u9:(Bs pre z l).take (Bs pre z' l).length=Bs pre z l:=by
 rw [aA,← aA (pre:=pre) (z:=z) (l:=l),ma]
theorem yK {r:List Int}:(Bs pre z l).set pre.length (.list (r.map V.int))=Bs pre (r,z.2) l:=by
 delta Bs;rw [dY _ _ (i0 _),I3];rfl
theorem za {m:Int}:(Bs pre z l).set (pre.length+1) (.dict [(s!"row",.ref pre.length),(s!"rest",.int m)])=Bs pre (z.1,m) l:=by
 delta Bs;rw [dY _ _ (A7 ..),dR];rfl
theorem J5:s8 (.ref (pre.length+1)) (.str s!"row") (Bs pre z l)= .ok (.ref pre.length) (Bs pre z l):=by
 rw [K6,Dy];rfl
theorem C0:s8 (.ref (pre.length+1)) (.str s!"rest") (Bs pre z l)= .ok (.int z.2) (Bs pre z l):=by
 rw [K6,Dy];rfl
theorem jI {D:Nat}:∀{r:List Int},V.datas D (r.map V.int)=true
 | []=>t8
 | a :: r=>d8 C4 jI
theorem X0:l7 (Bs pre z (l++ [.list []])) .ne (.ref pre.length) (.ref (Bs pre z' l).length)=b6 (decide (z.1≠ [])):=by
 rw [oj (F:=z.1.map V.int) Bo am jI];rw [decide_eq_decide.mpr (show z.1.map V.int≠ []↔z.1≠ [] from not_congr rU)]
theorem v6:Q5 .pop (.ref pre.length) (Bs pre z l)=true:=by
 exact i7 Bo
theorem TG {a:Int} {r:List Int} (h:r.length≤1000):o8 .pop (.ref pre.length) [.int 0] (Bs pre (a :: r,n) l)= .ok (.int a) (Bs pre (r,n) l):=by
 refine (i7 Bo).trans ?_;show (if (r.map V.int).length≤100000 then Res.ok (.int a) ((Bs pre (a :: r,n) l).set pre.length (.list (r.map V.int))) else .stuck)=_;rw [iP (by rw [u7];exact d3 h (by decide)),yK]
theorem lM {m:Int}:gz ρ KO (.int m) (.ref (pre.length+1)) (.str s!"rest") (Bs pre z l)=KO (.next ρ (Bs pre (z.1,m) l)):=by
 refine kE ?_;refine (G4 Dy).trans ?_;show (if _ then b6 ((Bs pre z l).set (pre.length+1) (.dict [(s!"row",.ref pre.length),(s!"rest",.int m)])) else b8)=_;rw [iP ⟨by show 2 < 1000;decide,rfl⟩,za]
theorem qp {i m:Int} (h:0 < m):u6 .mod (.int i) (.int m) st= .ok (.int (Af i m)) st:=by
 exact iP (decide_eq_true h)
theorem sO {i m:Int} (h:0 < m) (c:m < 1000000000):u6 .fdiv (.int i) (.int m) st= .ok (.int (rO i m)) st:=by
 exact iP (decide_eq_true ⟨h,c⟩)

def D5 (z:Pen) (m:Int):Int:=Af (z.1.headD 0+z.2) m
def x7 (z:Pen) (m:Int):Pen:=(z.1.tail,rO z.2 m)
theorem P3 {m:Int} (h:D4 z):D4 (x7 z m):=d3 (by rw [x7,List.length_tail];exact vc ..) h
theorem gm {m:Int} (hm:0 < m):0≤D5 z m:=xt _ hm
theorem Z2 {m:Int} (hm:0 < m):D5 z m < m:=wX _ hm
theorem s6 (hz:D4 z) {m:Int} (hm:0 < m) (h:m < 1000000000):c0 b7 (N+1) (d+1) 617 [.ref (pre.length+1),.int m] (Bs pre z l)= .ok (.int (D5 z m)) (Bs pre (x7 z m) l):=by
 obtain ⟨b,n⟩:=z;rw [d6 Il 2 rfl];cases b with
 | nil=>wp_walk using Il,B8,A5,u9,u5,J5,C0,X0,v6,iN (show ¬(([]:List Int)≠ []) from λc=>c rfl),qp hm,sO hm h,lM <;> rfl
 | cons a r=>wp_walk using Il,B8,A5,u9,u5,J5,C0,X0,v6,iP (L5 a r),TG (dO hz),qp hm,sO hm h,lM <;> rfl
def ph (cs:List (List Nat)) (k:Int):List Nat:=(cs[k.toNat]?).getD []
theorem Cq {cs:List (List Nat)} {k:Int} (a:0≤k) (h1:k < (cs.length:Int)):∃i:Nat,k=i∧∃h:i < cs.length,ph cs k=cs[i]:=by
 obtain ⟨k,rfl⟩:=rY a;have O:k < cs.length:=P1.mp h1;exact ⟨k,rfl,O,by rw [ph,jR,bt O];rfl⟩
theorem gF {cs:List (List Nat)} {k:Int} (a:0≤k) (h1:k < (cs.length:Int)):ph cs k∈cs:=by
 obtain ⟨i,_,h,e⟩:=Cq a h1;rw [e];exact dX _
theorem cv {cs:List (List Nat)} (p:cs.length≤1000) {k:Int} (a:0≤k) (h1:k < (cs.length:Int)) {r:Nat} (f:st[r]?=b6 (.list (cs.map V.str))):s8 (.ref r) (.int k) st= .ok (.str (ph cs k)) st:=by
 obtain ⟨k,rfl,O,e⟩:=Cq a h1;rw [M4,f,e];show (if S7 (k:Int)=true then (match (cs.map V.str)[((k:Int)).toNat]? with | some v=>Res.ok v st | none=> .stuck) else .stuck)=_;rw [iP (U0 (M6 O (d3 p (by decide)))),jR,br,bt O];rfl
def O9 (z:Pen) (cs:List (List Nat)):List Nat:=ph cs (D5 z cs.length)
def t9 (z:Pen) (cs:List (List Nat)):Pen:=x7 z cs.length
theorem A9 {cs:List (List Nat)} (h:D4 z):D4 (t9 z cs):=P3 h
theorem cI {cs:List (List Nat)} (h:cs≠ []):(0:Int) < (cs.length:Int):=P1.mpr (KI.mpr h)
theorem x9 {cs:List (List Nat)} (h:cs≠ []):O9 z cs∈cs:=gF (gm (cI h)) (Z2 (cI h))
theorem pick_run (hz:D4 z) {cs:List (List Nat)} (a:cs≠ []) (p:cs.length≤1000) {r:Nat} (f:∀z,(Bs pre z l)[r]?=b6 (.list (cs.map V.str))):c0 b7 (N+1) (d+2) 624 [.ref (pre.length+1),.ref r] (Bs pre z l)= .ok (.str (O9 z cs)) (Bs pre (t9 z cs) l):=by
 have h:A1 .len [.ref r] (Bs pre z l)= .ok (.int (cs.length:Int)) (Bs pre z l):=by
  refine (i7 (f _)).trans ?_;show (if (cs.map V.str).length≤sizeLim then Res.ok (.int ((cs.map V.str).length:Int)) (Bs pre z l) else .stuck)=_;rw [u7,iP (bn (d3 p (by decide)))]
 rw [d6 NJ 2 rfl];wp_walk using NJ,B8,A5,u9,u5,J5,C0,X0,v6,h,s6 hz (cI a) (P1.mpr (J7 p (show 1000 < 1000000000 by decide))),cv p (gm (cI a)) (Z2 (cI a)) (f _);rfl
theorem s5 (hz:D4 z) {cs:List (List Nat)} {vs:List V} (hv:vs=cs.map V.str) (a:cs≠ []) (p:cs.length≤1000):c0 b7 (N+1) (d+2) 624 [.ref (pre.length+1),.ref (Bs pre z0 l).length] (Bs pre z (l++ [.list vs]))= .ok (.str (O9 z cs)) (Bs pre (t9 z cs) (l++ [.list vs])):=by
 subst hv;exact pick_run hz a p λb=>am
theorem aZ {a:St}:(Bs pre z (l++l2++l3++a)).take (Bs pre z' l).length=Bs pre z l:=by rw [e7,u5]
theorem Gl {a b:St}:(Bs pre z (l++l2++l3++a++b)).take (Bs pre z' l).length=Bs pre z l:=by rw [e7,aZ]
end
section
variable {pre l l2 l3:St} {z z' z0:Pen} {n:Int} {N d:Nat} {st:St} {T:Tabs} {t w s u:List Nat} {Φ:d7} {ρ:Loc} {γ:Type} {KO:Out→γ}
section
variable {i:Nat}
def DM:List (List Nat):= [[123],[125],[61],[44],[46]]
def Kt:List (List Nat):= [[59],[10]]
def iu (p:List Nat):List Nat:=if p∈DM then sSign else if p∈Kt then jZ else sWord
def pJ (p:List Nat):List Nat×List Nat:=match p with
 | []=>(sWord,[])
 | c :: r=>if c=33 then (sStr,r) else (iu p,p)
def i6 (p:List Nat×List Nat):V:= .tup [.str p.1,.str p.2]
def H3:List (List Nat)→List (List Nat×List Nat)
 | []=> []
 | p :: r=>if p= [] then H3 r else pJ p :: H3 r
def y9 (t:List Nat):List (List Nat×List Nat):=H3 (j3 32 t)
set_option tactic.hygienic true in
theorem aJ {c:Nat}:∀{s:List Nat},(j3 c s).length≤s.length+1
 | []=>i0 _
 | y :: r=>by
  have:= @aJ c r;rw [jV]
  split
  ·exact Z1 this
  ·split
   ·exact N7 ..
   ·rename_i p q h;rw [h] at this;exact fy this
set_option tactic.hygienic true in
theorem X4 {c:Nat}:∀{s p:List Nat},p∈j3 c s→p.length≤s.length
 | [],p,h=>by rw [U5.mp h];exact i0 _
 | y :: r,p,h=>by
  rw [jV] at h
  split at h
  ·rcases x8.mp h with rfl | h
   ·exact T3 _
   ·exact fy (X4 h)
  ·split at h
   ·rw [U5.mp h];exact N7 ..
   ·rename_i q a m;rcases x8.mp h with rfl | h
    ·exact Z1 (X4 (s:=r) (p:=q) (by rw [m];exact D6 ..))
    ·exact fy (X4 (s:=r) (p:=p) (by rw [m];exact F1 _ h))
def Ll (T:Tabs) (N:Nat) (Φ:d7) (slf:Option Nat) (t:CT) (body:CSs) (get:St→Nat→Option (Option V)) (f k:Nat) (ρ:Loc) (st:St):Out:=
 fX get (λx ρ st=>c8 (n7 t x ρ) .stuck λρ'=>execs T N Φ slf body ρ' st) f k ρ st
def Ts (T:Tabs) (N:Nat) (Φ:d7) (slf:Option Nat) (t:CT) (body:CSs) (get:St→Nat→Option (Option V)) (f k:Nat) (K:Out→γ) (o:Out):γ:=match o with
   | .next a st'=>K (Ll T N Φ slf t body get f k a st')
   | .brk a st'=>K (.next a st')
   | o=>K o
section
variable {T:Tabs} {slf:Option Nat} {c:CT} {body:CSs} {get:St→Nat→Option (Option V)} {f k:Nat} {x:V}
theorem dq:Ts T N Φ slf c body get f k KO (.next ρ st)=KO (Ll T N Φ slf c body get f k ρ st):=rfl
theorem cV {ρ':Loc} {R:γ} (hx:get st k=b6 (b6 x)) (h:n7 c x ρ=b6 ρ') (a:cSs T N Φ slf body ρ' st (Ts T N Φ slf c body get f (k+1) KO)=R):KO (Ll T N Φ slf c body get (f+1) k ρ st)=R:=by
 rw [cSs_eq] at a;subst a;show KO (c8 (get st k) Out.stuck _)=_;rw [hx];show KO ((c8 (n7 c x ρ) Out.stuck _).turn _)=_;rw [h];show KO ((execs T N Φ slf body ρ' st).turn _)=_
 cases execs T N Φ slf body ρ' st <;> rfl
theorem au (hx:get st k=b6 b8):Ll T N Φ slf c body get (f+1) k ρ st= .next ρ st:=by
 show c8 (get st k) Out.stuck _=_;rw [hx];rfl
theorem S5 {l:List V} (h:st[i]?=b6 (.list l)):(Src.live i).at st k=b6 l[k]?:=by
 exact i7 h
end
def GV (s p:List Nat):List Nat×List Nat:=match p with
 | []=>(sWord,[])
 | c :: r=>if c=33 then (sStr,r) else (s,p)
theorem zW {p:List Nat}:GV (iu p) p=pJ p:=by cases p <;> rfl
section
variable {acc:List V} {L:St} {p:List Nat} {o2 o3:Option V} {x0:V}
theorem zf (h:acc.length≤1000) (hp:p.length≤1000):cSs b7.tabs (N+1) Φ b8 (g8 (f9 (d2 W5.body 1)) 1) [b6 x0,b6 (.ref 0),b6 (.str p),b6 (.str s)] (.list acc :: L) KO=KO (.next [b6 x0,b6 (.ref 0),b6 (.str p),b6 (.str s)] (.list (if p= [] then acc else acc++ [i6 (GV s p)]) :: L)):=by
 have j:∀v:V,v.flat=true→o8 .append (.ref 0) [v] (.list acc :: L)= .ok .none (.list (acc++ [v]) :: L):=λv hv=>by
  show (if acc.length < sizeLim∧v.flat=true then Res.ok .none ((AObj.list acc :: L).set 0 (.list (acc++ [v]))) else .stuck)=_;rw [iP ⟨J7 h (by decide),hv⟩];rfl
 cases p with
 | nil=>wp_walk using W5,f9,d2,g8,iN (show ¬(([]:List Nat)≠ []) from λc=>c rfl),if_true
 | cons c r=>
  wp_walk using W5,f9,d2,g8,iP (L5 c r),iN (L5 c r),show Q5 .append (.ref 0) (AObj.list acc :: L)=true from rfl,N2,ck (s:=c :: r) (d3 hp (by decide)),show (c :: r).drop 1=r from rfl,j (.tup [.str sStr,.str r]) rfl,j (.tup [.str s,.str (c :: r)]) rfl
  by_cases a:c=33
  ·rw [iP (show [c]= [33] by rw [a]),show GV s (c :: r)=(sStr,r) from iP a];rfl
  ·rw [iN (show ¬ [c]= [33] from λe=>a (xD e).1),show GV s (c :: r)=(s,c :: r) from iN a];rfl
theorem DX (a:acc.length≤1000) (hp:p.length≤1000):cSs b7.tabs (N+1) Φ b8 (f9 (d2 W5.body 1)) [b6 x0,b6 (.ref 0),b6 (.str p),o3] (.list acc :: L) KO=KO (.next [b6 x0,b6 (.ref 0),b6 (.str p),b6 (.str (iu p))] (.list (if p= [] then acc else acc++ [i6 (pJ p)]) :: L)):=by
 have i:=λs=>zf (N:=N) (Φ:=Φ) (L:=L) (x0:=x0) (s:=s) (KO:=KO) a hp;rw [show f9 (d2 W5.body 1)= .cons (d2 (f9 (d2 W5.body 1)) 0) (g8 (f9 (d2 W5.body 1)) 1) from rfl];generalize g8 (f9 (d2 W5.body 1)) 1=T0 at i ⊢;wp_walk using W5,d2,f9,i9,i;rw [← zW];delta iu;by_cases h1:p∈DM
 ·rw [iP h1];exact iP h1
 ·rw [iN h1];refine (iN h1).trans ?_;by_cases c:p∈Kt
  ·rw [iP c];exact iP c
  ·rw [iN c];exact iN c
end
theorem qt {x0:V} {L:List (List Nat)} {F:List V} {R:γ} (O:∀o2 o3,KO (.next [b6 x0,b6 (.ref 0),o2,o3] [.list F,.list (L.map V.str)])=R):∀(r:List (List Nat)) (f k:Nat) (acc:List V) (o2 o3:Option V),(∀p∈r,p.length≤1000)→L.drop k=r→r.length < f→acc.length+r.length≤1000→acc++(H3 r).map i6=F→
  KO (Ll b7.tabs (N+1) Φ b8 (.name 2) (f9 (d2 W5.body 1)) (Src.live 1).at f k [b6 x0,b6 (.ref 0),o2,o3] [.list acc,.list (L.map V.str)])=R
 | r,0,_,_,_,_,_,_,h,_,_=>absurd h (P9 _)
 | [],f+1,k,acc,o2,o3,_,hdL,_,_,hF=>by
  rw [au ((S5 (l:=L.map V.str) rfl).trans (by rw [br,Y3 hdL];rfl)),show acc=F from (P0 acc).symm.trans hF];exact O _ _
 | p :: r,f+1,k,acc,o2,o3,hp,hdL,b,a,hF=>by
  refine cV (x:= .str p) (ρ':= [b6 x0,b6 (.ref 0),b6 (.str p),o3]) ((S5 (l:=L.map V.str) rfl).trans (by rw [br,(D2 hdL).1];rfl)) rfl ?_;refine (DX (d3 (A7 ..) a) (hp _ (D6 ..))).trans ?_;refine qt O r f (k+1) _ _ _ (λq m=>hp q (F1 _ m)) (D2 hdL).2 (Z7 b) ?_ ?_
  ·have a:acc.length+1+r.length≤1000:=by rw [A2,G3 1];exact a
   split
   ·exact d3 (T1 (w7 _) _) a
   ·rw [u3];exact a
  ·rw [← hF,H3]
   split
   ·rfl
   ·rw [Q0,e7];rfl
theorem dj {j:Nat}:∀{T:List (List Nat×List Nat)},V.shifts j (T.map i6)=T.map i6
 | []=>by rw [wY,V.shifts]
 | p :: r=>by
  rw [Q0,V.shifts,dj];rfl
theorem fJ {j:Nat}:∀{T:List (List Nat)},V.shifts j (T.map V.str)=T.map V.str
 | []=>by rw [wY,V.shifts]
 | p :: r=>by
  rw [Q0,V.shifts,fJ];rfl
theorem wM (g:299≤N) (i:t.length≤280):c0 b7 (N+1) (d+1) 631 [.str t] st= .ok (.ref st.length) (st++ [.list ((y9 t).map i6),.list ((j3 32 t).map V.str)]):=by
 rw [bz (f:=W5) (ρ:= [b6 (.str t),b8,b8,b8]) rfl rfl rfl];have a:=λst=>eQ (st:=st) (c:=32) (s:=t) (d3 i (by decide));have e:=d3 (@aJ 32 t) (Z1 i);have b:=λ(K:Out→Res) R O=>qt (N:=N) (Φ:=c0 b7 (N+1) d) (x0:= .str t) (L:=j3 32 t) (F:=(y9 t).map i6) (KO:=K) (R:=R) O (j3 32 t) (N+1) 0 [] b8 b8 (λp hp=>d3 (X4 hp) (d3 i (by decide))) rfl (by omega) (by rw [O2];omega) rfl;rw [show W5.body= .cons (d2 W5.body 0) (.cons (.for (.name 2) (.bm .split (.loc 0) (.cons (.cst (.str [32])) .nil)) (f9 (d2 W5.body 1))) (.cons (d2 W5.body 2) .nil)) from rfl];have h:∀ρ,ff b7.tabs (N+1) (c0 b7 (N+1) d) b8 (.name 2) (f9 (d2 W5.body 1)) ρ (.ref 1) [.list [],.list ((j3 32 t).map V.str)]=Ll b7.tabs (N+1) (c0 b7 (N+1) d) b8 (.name 2) (f9 (d2 W5.body 1)) (Src.live 1).at (N+1) 0 ρ [.list [],.list ((j3 32 t).map V.str)]:=λz=>rfl;generalize f9 (d2 W5.body 1)=X at b h ⊢;wp_walk using W5,h,d2,H1,iD,a,C5;refine b _ _ λo2 o3=>?_;wp_walk using f0;show Res.ok (.ref (st.length+0)) (st++ [AObj.list (V.shifts st.length _),AObj.list (V.shifts st.length _)])=_;rw [dj,fJ];rfl
end
theorem io:∀{l m:List (List Nat)},H3 (l++m)=H3 l++H3 m
 | [],m=>rfl
 | p :: r,m=>by
  rw [C5,H3,H3,io]
  split <;> rfl
theorem gW {c:Nat}:∀{s u:List Nat},j3 c (s++c :: u)=j3 c s++j3 c u
 | [],u=>by
  show (if c=c then [] :: j3 c u else _)=_;rw [iP rfl];rfl
 | y :: r,u=>by
  rw [C5,jV,jV,gW];by_cases h:y=c
  ·rw [iP h,iP h];rfl
  ·rw [iN h,iN h];cases hs:j3 c r with
   | nil=>
    exfalso
    cases r with
    | nil=>simp [j3] at hs
    | cons z q=>
     rw [jV] at hs
     split at hs
     ·cases hs
     ·split at hs <;> cases hs
   | cons p q=>rfl
theorem X6:y9 (s++32 :: u)=y9 s++y9 u:=by delta y9;rw [gW,io]
def Sp (t:List Nat):Bool:=decide (t= [])||decide (t.getLast?=b6 32)
theorem vw (h:Sp t=true):y9 (t++u)=y9 t++y9 u:=by
 delta Sp at h;rw [xb,decide_eq_true_eq,decide_eq_true_eq] at h;rcases h with rfl | h
 ·rfl
 ·obtain ⟨r,rfl⟩:∃r,t=r++ [32]:=by
   have d:t≠ []:=by intro e;rw [e] at h;cases h
   refine ⟨t.dropLast,?_⟩;rw [List.getLast?_eq_some_getLast d] at h;have:=FV d;rw [k7 h] at this;exact this.symm
  rw [e7,List.singleton_append,X6,X6];show _=(y9 r++ [])++_;rw [P0]
theorem Qw (h:Sp t=true) (h2:Sp u=true):Sp (t++u)=true:=by
 delta Sp at h h2 ⊢;rw [xb,decide_eq_true_eq,decide_eq_true_eq] at h h2 ⊢;rcases h2 with rfl | h2
 ·rw [P0];exact h
 ·right
  rw [xn,h2];rfl
abbrev Voc:=List (List Nat×List Nat)
def I8 (v:Voc) (t:List Nat):Bool:=(y9 t).all λp=>decide (p∈v)
theorem cz {v:Voc} (h:Sp t=true) (h1:I8 v t=true) (c:I8 v u=true):I8 v (t++u)=true:=by
 delta I8 at *;rw [vw h,List.all_append,h1,c];rfl
def C2:Voc:=y9 s!"\{ } ; \n = , . type hook priority ingress devices ip inet 5 70000 tcp over bytes kbytes used +3 ct !s dport"
def r7:Nat→Voc
 | 0=>y9 s!"type filter nat route hook prerouting input forward output postrouting ingress device eth0 !lo priority filter + 3 srcnat -5 -300 0x10 raw - 0x5 dstnat mangle-7 +5 5 +3 out ;"++C2
 | 1=>y9 s!"\{ \n hook ingress priority filter + 3 srcnat -5 -300 0x10 raw - 0x5 dstnat mangle-7 +5 5 +3 out devices = eth0 , !lo a b } ;"++C2
 | 2=>y9 s!"\{ protocol dport timeout size l3proto tcp 17 300 nope ftp 0x15 70000 !ssh 2s 90 1m30s x 5 0x10 -1 ip ip6 arp } ; \n"++C2
 | 3=>y9 s!"\{ packets 5 bytes 0x10 18446744073709551616 1 7 } ; \n"++C2
 | 4=>y9 s!"\{ over until 5 bytes 70000 gbytes 18446744073709551615 kbytes 9 used 3 mbytes 1 packets } ; \n"++C2
 | 5=>y9 s!"\{ rate over until 5/second 0x10/minute 9 kbytes/hour 7/fortnight 8 gbytes/day 6 mbytes burst 4 packets kbytes 4294967296 2 gbytes } ; \n"++C2
 | 6=>y9 s!"table chain set map rule ct expectation ruleset counter limit element x inet bridge ip6 t1 my-chain 9x a:b c* ip !s ;"++C2
 | _=>y9 s!"ipv4_addr inet_service inet_proto foo integer . \n ; interval timeout constant dynamic odd ,"++C2
def vt (p:List Nat×List Nat):Bool:=p.1.all (· < 128)&&p.2.all (· < 128)&&decide (p.2.length≤25)&&(decide (p.1≠sWord)||decide (p.2≠ []))&&(decide (p.1≠jZ)||decide (p.2= [59])||decide (p.2= [10]))&&decide (p.1≠sEof)
theorem Db:∀f < 8,∀p∈r7 f,vt p=true:=by decide +kernel
theorem RM:∀f < 2,∀p∈r7 f,p.1=sWord→p.2∈voc0:=by decide +kernel
theorem QW:∀p∈r7 2,p.2∈vocE:=by decide +kernel
theorem Kb:∀p∈r7 5,p.2.take 1≠ [47]∧(Z4 p.2).2≠b6 []:=by decide +kernel
theorem yM:∀f < 8,∀p∈C2,p∈r7 f:=by decide +kernel
theorem jv:C2.length=25:=by decide +kernel
set_option tactic.hygienic true in
theorem uW:((y9 t).map λp=>p.2.length).sum≤t.length:=by
 have h:∀l:List (List Nat),((H3 l).map λp=>p.2.length).sum≤l0 l:=by
  intro l
  induction l with
  | nil=>simp [H3]
  | cons p r ih=>
   rw [H3,l0]
   split
   ·omega
   ·rw [Q0,rS];have:(pJ p).2.length≤p.length:=by
     cases p with
     | nil=>simp [pJ]
     | cons c q=>
      show (if c=33 then (sStr,q) else (iu (c :: q),c :: q)).2.length≤_
      split
      ·simp
      ·exact i0 _
    omega
 have a:∀t:List Nat,l0 (j3 32 t)≤t.length:=by
  intro t
  induction t with
  | nil=>simp [j3,l0]
  | cons y r ih=>
   rw [jV]
   split
   ·rw [l0,G2,O2];omega
   ·split
    ·simp [l0]
    ·rename_i p q m;rw [m] at ih;simp only [l0,G2] at ih ⊢;omega
 exact d3 (h _) (a t)
theorem jn:(y9 t).length≤t.length+1:=by
 have h:∀l:List (List Nat),(H3 l).length≤l.length:=by
  intro l
  induction l with
  | nil=>simp [H3]
  | cons p r ih=>
   rw [H3]
   split
   ·simp only [G2];omega
   ·simp only [G2];omega
 exact d3 (h _) aJ
structure TextOk (f:Nat) (t:List Nat):Prop where
 goes:I8 (r7 f) t=true
 len:t.length≤200
 ne:y9 t≠ []
def eK (c fn f:Nat):Prop:=∀z:Pen,D4 z→∃(t:List Nat) (z':Pen),TextOk f t∧D4 z'∧∀pre N d l,299≤N→c0 b7 (N+1) (d+c) fn [.ref (pre.length+1)] (Bs pre z l)= .ok (.str t) (Bs pre z' l)
def endsL:List (List Nat):= [s!" \n ",s!" ; ",s!" ; \n "]
theorem aB (hz:D4 z):c0 b7 (N+1) (d+3) 666 [.ref (pre.length+1)] (Bs pre z l)= .ok (.str (O9 z endsL)) (Bs pre (t9 z endsL) l):=by
 rw [d6 QA 1 rfl];wp_walk using QA,B8,A5,u9,u5,J5,C0,X0,v6,s5 (cs:=endsL) (vs:= [.str s!" \n ",.str s!" ; ",.str s!" ; \n "]) hz rfl (by decide) (by decide)
theorem B7:O9 z endsL∈endsL:=x9 (by decide)
def F3:List (List Nat):= [s!"filter",s!"filter + 3",s!"srcnat -5",s!"-300",s!"0x10",s!"raw - 0x5",s!"dstnat",s!"mangle-7",s!"+5",s!"5 +3",s!"out",s!"filter -"]
abbrev cY:List V:= [.str s!"filter",.str s!"filter + 3",.str s!"srcnat -5",.str s!"-300",.str s!"0x10",.str s!"raw - 0x5",.str s!"dstnat",.str s!"mangle-7",.str s!"+5",.str s!"5 +3",.str s!"out",.str s!"filter -"]
theorem fT:c0 b7 (N+1) (d+1) 652 [] st= .ok (.ref st.length) (st++ [.list cY]):=rfl
def SG (v:Voc) (t:List Nat):Bool:=Sp t&&I8 v t
section
variable {v:Voc} {c e:List Nat}
theorem tA (h:SG v t=true) (c:SG v u=true):SG v (t++u)=true:=
 have h:=q7.mp h;have c:=q7.mp c
 q7.mpr ⟨Qw h.1 c.1,cz h.1 h.2 c.2⟩
theorem Pp (h:SG v t=true) (c:SG v (u++s)=true):SG v (t++u++s)=true:=by rw [e7];exact tA h c
theorem WI (h:SG v t=true) (a:SG v (u++(c++s))=true):SG v (t++u++c++s)=true:=by rw [e7,e7];exact tA h a
def FG (v:Voc) (t:List Nat):Bool:=I8 v t&&decide (y9 t≠ [])
theorem uL (h:SG v t=true) (a:FG v u=true):FG v (t++u)=true:=by
 have h:=q7.mp h;have a:=q7.mp a;refine q7.mpr ⟨cz h.1 h.2 a.1,decide_eq_true ?_⟩;rw [vw h.1];exact λc=>of_decide_eq_true a.2 (FZ.mp c).2
theorem UR (h:SG v t=true) (c:FG v (u++s)=true):FG v (t++u++s)=true:=by rw [e7];exact uL h c
theorem ah {f:Nat} (h:FG (r7 f) t=true) (a:t.length≤200):TextOk f t:=
 have h:=q7.mp h
 ⟨h.1,a,of_decide_eq_true h.2⟩
end
def Oi:List (List Nat):= [[],s!" device eth0",s!" device !lo"]
theorem qr:eK 3 659 0:=by
 intro z h;have h1:=A9 (cs:=K7) h;have f:=A9 (cs:=u0) h1;have o:=P3 (m:=3) f;obtain ⟨p1,u⟩:=(show ∀c∈K7,SG (r7 0) (c++ s!" hook ")=true∧c.length≤20 by decide +kernel) _ (x9 (z:=z) (by decide));obtain ⟨p2,v,q⟩:=(show ∀c∈u0,∀e∈Oi,SG (r7 0) (c++(e++ s!" priority "))=true∧c.length≤20∧e.length≤20 by decide +kernel) _ (x9 (z:=t9 z K7) (by decide)) _ (gF (k:=D5 (t9 (t9 z K7) u0) 3) (gm (by decide)) (Z2 (by decide)));obtain ⟨q3,r⟩:=(show ∀c∈F3,FG (r7 0) (c++ s!" ;")=true∧c.length≤20 by decide +kernel) _ (x9 (z:=x7 (t9 (t9 z K7) u0) 3) (by decide));have y1:=e8 (a:= s!"type ") (m:=5) (by decide) u;have y:=e8 y1 (b:= s!" hook ") (n:=6) (by decide);have g:=e8 y v;have i:=e8 g q;have j:=e8 i (b:= s!" priority ") (n:=10) (by decide);have p:=e8 j r;refine ⟨_,_,ah (UR (WI (Pp (show SG (r7 0) s!"type "=true by decide +kernel) p1) p2) q3) (d3 (e8 p (n:=2) (by decide)) (by decide)),A9 (cs:=F3) o,λpre N d l s=>?_⟩;have es:∀z0 z' l,s8 (.ref (Bs pre z' l).length) (.int (D5 (t9 (t9 z K7) u0) 3)) (Bs pre z0 (l++ [.list [.str [],.str s!" device eth0",.str s!" device !lo"]]))= .ok (.str (ph Oi (D5 (t9 (t9 z K7) u0) 3))) (Bs pre z0 (l++ [.list [.str [],.str s!" device eth0",.str s!" device !lo"]])):=λz z' l=>cv (cs:=Oi) (by decide) (gm (by decide)) (Z2 (by decide)) am;rw [d6 Oa 5 rfl];wp_walk using Oa,B8,A5,u9,u5,J5,C0,X0,v6,aZ,Gl,kY,fT,s5 (cs:=K7) (vs:= [.str s!"filter",.str s!"nat",.str s!"route"]) h rfl (by decide) (by decide),s5 (cs:=u0) (vs:= [.str s!"prerouting",.str s!"input",.str s!"forward",.str s!"output",.str s!"postrouting",.str s!"ingress"]) h1 rfl (by decide) (by decide),s6 f (m:=3) (by decide) (by decide),s5 (cs:=F3) (vs:=cY) o rfl (by decide) (by decide),es,e9 (a:= s!"type ") (m:=5) (by decide) u,e9 y1 (b:= s!" hook ") (n:=6) (by decide),e9 y v,e9 g q,e9 i (b:= s!" priority ") (n:=10) (by decide),e9 j r,e9 p (b:= s!" ;") (n:=2) (by decide)
def DP:List (List Nat):= [s!"table",s!"chain",s!"set",s!"map",s!"rule",s!"ct expectation",s!"ruleset",s!"counter",s!"limit",s!"element",s!"ct x"]
def Hp:List (List Nat):= [[],s!"inet",s!"bridge",s!"ip6"]
def Oq:List (List Nat):= [s!"t1",s!"my-chain",s!"9x",s!"a:b",s!"c*",s!"ip",s!"!s"]
theorem oH:eK 3 701 6:=by
 intro z a;have h1:=A9 (cs:=DP) a;have h:=A9 (cs:=Hp) h1;obtain ⟨p1,u⟩:=(show ∀c∈DP,SG (r7 6) (c++ [32])=true∧c.length≤20 by decide +kernel) _ (x9 (z:=z) (by decide));obtain ⟨p2,v⟩:=(show ∀c∈Hp,SG (r7 6) (c++ [32])=true∧c.length≤20 by decide +kernel) _ (x9 (z:=t9 z DP) (by decide));obtain ⟨p3,e⟩:=(show ∀c∈Oq,FG (r7 6) (c++ s!" ;")=true∧c.length≤20 by decide +kernel) _ (x9 (z:=t9 (t9 z DP) Hp) (by decide));have y1:=e8 u (b:= [32]) (n:=1) (by decide);have y:=e8 y1 v;have g:=e8 y (b:= [32]) (n:=1) (by decide);have i:=e8 g e;refine ⟨_,_,ah (UR (Pp p1 p2) p3) (d3 (e8 i (n:=2) (by decide)) (by decide)),A9 (cs:=Oq) h,λpre N d l f=>?_⟩;rw [d6 Qj 2 rfl];wp_walk using Qj,B8,A5,u9,u5,J5,C0,X0,v6,aZ,s5 (cs:=DP) (vs:= [.str s!"table",.str s!"chain",.str s!"set",.str s!"map",.str s!"rule",.str s!"ct expectation",.str s!"ruleset",.str s!"counter",.str s!"limit",.str s!"element",.str s!"ct x"]) a rfl (by decide) (by decide),s5 (cs:=Hp) (vs:= [.str [],.str s!"inet",.str s!"bridge",.str s!"ip6"]) h1 rfl (by decide) (by decide),s5 (cs:=Oq) (vs:= [.str s!"t1",.str s!"my-chain",.str s!"9x",.str s!"a:b",.str s!"c*",.str s!"ip",.str s!"!s"]) h rfl (by decide) (by decide),e9 u (b:= [32]) (n:=1) (by decide),e9 y1 v,e9 y (b:= [32]) (n:=1) (by decide),e9 g e,e9 i (b:= s!" ;") (n:=2) (by decide)
def HS:List (List Nat):= [[],s!"packets 5 bytes 0x10",s!"packets 18446744073709551616 bytes 1",s!"packets 7"]
def Z3:List (List Nat):= [[],s!"over ",s!"until "]
def Ek:List (List Nat):= [s!"5 bytes",s!"70000 gbytes",s!"18446744073709551615 kbytes",[57]]
def Gw:List (List Nat):= [[],s!" used 3 mbytes",s!" used 1 packets"]
def Fp:List (List Nat):= [s!"5/second",s!"0x10/minute",s!"9 kbytes/hour",s!"7/fortnight",s!"8 gbytes/day",s!"6 mbytes"]
def HK:List (List Nat):= [[],s!" burst 4 packets",s!" burst 4 kbytes",s!" burst 4294967296 packets",s!" burst 2 gbytes"]
def CG (f:Nat) (w:List Nat):Bool:=(endsL.all λe=>SG (r7 f) (w++e))&&FG (r7 f) (w++ s!" ;")&&Nat.ble w.length 150
theorem F7:∀e∈endsL,e.length≤10:=by decide
def Eu (z:Pen) (k:Bool) (w:List Nat):List Nat:=bif k then s!"\{ "++w++O9 z endsL++ s!"} ;" else w++ s!" ;"
def DQ (z:Pen) (k:Bool):Pen:=bif k then t9 z endsL else z
theorem el {k:Bool} (h:D4 z):D4 (DQ z k):=by cases k <;> first | exact h | exact A9 h
section
variable {f:Nat} {k:Bool}
theorem iy (h:CG f w=true) (b:SG (r7 f) s!"\{ "=true) (hz:FG (r7 f) s!"} ;"=true):TextOk f (Eu z k w):=by
 have h:=q7.mp h;have h1:=q7.mp h.1;have a:w.length≤150:=Ag h.2;cases k with
 | false=>exact ah h1.2 (d3 (e8 a (n:=2) (by decide)) (by decide))
 | true=>exact ah (uL (Pp b (aO.mp h1.1 _ B7)) hz) (d3 (e8 (e8 (e8 (m:=2) (by decide) a) (F7 _ B7)) (n:=3) (by decide)) (by decide))
theorem eM (hz:D4 z) (h:CG f w=true) {v1 o4 o5 o6:Option V} {γ:Type} {K:Out→γ}:cSs b7.tabs (N+1) (c0 b7 (N+1) (d+3)) b8 (g8 O5.body 2) [b6 (.ref (pre.length+1)),v1,b6 (.bool k),b6 (.str w),o4,o5,o6] (Bs pre z l) K=K (.ret (.str (Eu z k w)) (Bs pre (DQ z k) l)):=by
 have c:w.length≤150:=Ag (q7.mp h).2;cases k with
 | false=>wp_walk using O5,g8,e9 c (b:= s!" ;") (n:=2) (by decide) <;> rfl
 | true=>
  have y1:=e8 (a:= s!"\{ ") (m:=2) (by decide) c
  wp_walk using O5,g8,aB hz,e9 (a:= s!"\{ ") (m:=2) (by decide) c,e9 y1 (F7 _ B7),e9 (e8 y1 (F7 _ B7)) (b:= s!"} ;") (n:=3) (by decide) <;> rfl
end
def gJ (kind:List Nat) (f:Nat):Prop:=∀z:Pen,D4 z→∃(t:List Nat) (z':Pen),TextOk f t∧D4 z'∧∀pre N d l,299≤N→c0 b7 (N+1) (d+4) 687 [.ref (pre.length+1),.str kind] (Bs pre z l)= .ok (.str t) (Bs pre z' l)
theorem jc:gJ s!"counter" 3:=by
 intro z h;have a:=P3 (m:=2) h;have h1:=A9 (cs:=HS) a;obtain ⟨p,u⟩:=(show ∀i∈HS,CG 3 (i)=true∧i.length≤40 by decide +kernel) _ (x9 (z:=(x7 z 2)) (by decide));refine ⟨_,_,iy (z:=(t9 (x7 z 2) HS)) (k:=decide (D5 z 2=1)) p (by decide +kernel) (by decide +kernel),el (k:=decide (D5 z 2=1)) h1,λpre N d l b=>?_⟩;rw [d6 O5 5 rfl];have hz:=λl v1 o4 o5 o6 (K:Out→Res)=>eM (pre:=pre) (N:=N) (d:=d) (l:=l) (k:=decide (D5 z 2=1)) (v1:=v1) (o4:=o4) (o5:=o5) (o6:=o6) (K:=K) h1 p;rw [show O5.body= .cons (d2 O5.body 0) (.cons (d2 O5.body 1) (g8 O5.body 2)) from rfl];generalize g8 O5.body 2=T0 at hz ⊢;wp_walk using O5,d2,i9,B8,A5,u9,u5,J5,C0,X0,v6,aZ,s6 h (m:=2) (by decide) (by decide),s5 (cs:=HS) (vs:= [.str [],.str s!"packets 5 bytes 0x10",.str s!"packets 18446744073709551616 bytes 1",.str s!"packets 7"]) a rfl (by decide) (by decide),if_true,hz
theorem nM:gJ s!"quota" 4:=by
 intro z h;have a:=P3 (m:=2) h;have h1:=A9 (cs:=Z3) a;have b:=A9 (cs:=Ek) h1;have o:=A9 (cs:=Gw) b;obtain ⟨p,u,v,e⟩:=(show ∀i∈Z3,∀j∈Ek,∀c∈Gw,CG 4 (i++j++c)=true∧i.length≤40∧j.length≤40∧c.length≤40 by decide +kernel) _ (x9 (z:=(x7 z 2)) (by decide)) _ (x9 (z:=(t9 (x7 z 2) Z3)) (by decide)) _ (x9 (z:=(t9 (t9 (x7 z 2) Z3) Ek)) (by decide));refine ⟨_,_,iy (z:=(t9 (t9 (t9 (x7 z 2) Z3) Ek) Gw)) (k:=decide (D5 z 2=1)) p (by decide +kernel) (by decide +kernel),el (k:=decide (D5 z 2=1)) o,λpre N d l f=>?_⟩;rw [d6 O5 5 rfl];have hz:=λl v1 o4 o5 o6 (K:Out→Res)=>eM (pre:=pre) (N:=N) (d:=d) (l:=l) (k:=decide (D5 z 2=1)) (v1:=v1) (o4:=o4) (o5:=o5) (o6:=o6) (K:=K) o p;rw [show O5.body= .cons (d2 O5.body 0) (.cons (d2 O5.body 1) (g8 O5.body 2)) from rfl];generalize g8 O5.body 2=T0 at hz ⊢;wp_walk using O5,d2,i9,B8,A5,u9,u5,J5,C0,X0,v6,aZ,s6 h (m:=2) (by decide) (by decide),s5 (cs:=Z3) (vs:= [.str [],.str s!"over ",.str s!"until "]) a rfl (by decide) (by decide),s5 (cs:=Ek) (vs:= [.str s!"5 bytes",.str s!"70000 gbytes",.str s!"18446744073709551615 kbytes",.str [57]]) h1 rfl (by decide) (by decide),s5 (cs:=Gw) (vs:= [.str [],.str s!" used 3 mbytes",.str s!" used 1 packets"]) b rfl (by decide) (by decide),e9 u v,e9 (e8 u v) e,iN (show ¬(s!"quota"= s!"counter") by decide),if_true,hz
theorem mz:gJ s!"limit" 5:=by
 intro z h;have b:=P3 (m:=2) h;have h1:=A9 (cs:=Z3) b;have e:=A9 (cs:=Fp) h1;have o:=A9 (cs:=HK) e;obtain ⟨p,u,v,f⟩:=(show ∀i∈Z3,∀j∈Fp,∀c∈HK,CG 5 (s!"rate "++i++j++c)=true∧i.length≤40∧j.length≤40∧c.length≤40 by decide +kernel) _ (x9 (z:=(x7 z 2)) (by decide)) _ (x9 (z:=(t9 (x7 z 2) Z3)) (by decide)) _ (x9 (z:=(t9 (t9 (x7 z 2) Z3) Fp)) (by decide));refine ⟨_,_,iy (z:=(t9 (t9 (t9 (x7 z 2) Z3) Fp) HK)) (k:=decide (D5 z 2=1)) p (by decide +kernel) (by decide +kernel),el (k:=decide (D5 z 2=1)) o,λpre N d l g=>?_⟩;rw [d6 O5 5 rfl];have hz:=λl v1 o4 o5 o6 (K:Out→Res)=>eM (pre:=pre) (N:=N) (d:=d) (l:=l) (k:=decide (D5 z 2=1)) (v1:=v1) (o4:=o4) (o5:=o5) (o6:=o6) (K:=K) o p;rw [show O5.body= .cons (d2 O5.body 0) (.cons (d2 O5.body 1) (g8 O5.body 2)) from rfl];generalize g8 O5.body 2=T0 at hz ⊢;wp_walk using O5,d2,i9,B8,A5,u9,u5,J5,C0,X0,v6,aZ,s6 h (m:=2) (by decide) (by decide),s5 (cs:=Z3) (vs:= [.str [],.str s!"over ",.str s!"until "]) b rfl (by decide) (by decide),s5 (cs:=Fp) (vs:= [.str s!"5/second",.str s!"0x10/minute",.str s!"9 kbytes/hour",.str s!"7/fortnight",.str s!"8 gbytes/day",.str s!"6 mbytes"]) h1 rfl (by decide) (by decide),s5 (cs:=HK) (vs:= [.str [],.str s!" burst 4 packets",.str s!" burst 4 kbytes",.str s!" burst 4294967296 packets",.str s!" burst 2 gbytes"]) e rfl (by decide) (by decide),e9 (a:= s!"rate ") (m:=5) (by decide) u,e9 (e8 (a:= s!"rate ") (m:=5) (by decide) u) v,e9 (e8 (e8 (a:= s!"rate ") (m:=5) (by decide) u) v) f,iN (show ¬(s!"limit"= s!"counter") by decide),iN (show ¬(s!"limit"= s!"quota") by decide),hz
theorem V9 {hi:Int} (h:0≤hi):(n4 0 hi).length=hi.toNat:=by
 delta n4;rw [u7,FM,FF]
theorem V6 {i:Int} (a:0≤i) (h:i≤50):A1 .range [.int i] st= .ok (.range 0 i) st:=
 iP ⟨Gi h (by decide),Ad (by decide) a⟩
theorem kZ {T:Tabs} {slf:Option Nat} {c:CT} {body:CSs} {hi:Int} (a:0≤hi) (h:hi≤50) (b:299≤N):ff T (N+1) Φ slf c body ρ (.range 0 hi) st=Fl T (N+1) Φ slf c body (n4 0 hi) ρ st:=by
 refine JK ?_ (R0 (f:=N+1) (by rw [V9 a];omega));delta ff kH;rw [show P7 (.range 0 hi) st=b6 (.fix (n4 0 hi)) from iP ⟨by decide,by decide,Ad (by decide) a,Gi h (by decide)⟩]
 all_goals rfl
def pQ:List (List Nat):= [s!"eth0",s!"eth0 , !lo",s!"\n a , \n b , \n",[]]
abbrev Uf:List V:= [.str s!"eth0",.str s!"eth0 , !lo",.str s!"\n a , \n b , \n",.str []]
abbrev Bf (p:Nat) (w:List Nat) (o:Option V):Loc:= [b6 (.ref (p+1)),b6 (.str w),o,b8,b8,b8,b8,b8]
def uK (z:Pen):Bool:=decide (D5 z 2=0)
def ke (z:Pen):List Nat:=bif uK z then s!"hook ingress priority "++(O9 (x7 z 2) F3++O9 (t9 (x7 z 2) F3) endsL) else s!"devices = \{ "++(O9 (x7 z 2) pQ++(s!" }"++O9 (t9 (x7 z 2) pQ) endsL))
def jT (z:Pen):Pen:=bif uK z then t9 (t9 (x7 z 2) F3) endsL else t9 (t9 (x7 z 2) pQ) endsL
def Bp (z:Pen):St:=bif uK z then [.list cY] else [.list Uf]
theorem JO (h:D4 z):D4 (jT z):=by delta jT;cases uK z <;> exact A9 (A9 (P3 h))
theorem VS:∀c∈F3,∀e∈endsL,SG (r7 1) (s!"hook ingress priority "++(c++e))=true∧(s!"hook ingress priority "++(c++e)).length≤50:=by decide +kernel
theorem Xq:∀c∈pQ,∀e∈endsL,SG (r7 1) (s!"devices = \{ "++(c++(s!" }"++e)))=true∧(s!"devices = \{ "++(c++(s!" }"++e))).length≤50:=by decide +kernel
theorem Qb:SG (r7 1) (ke z)=true∧(ke z).length≤50:=by
 delta ke;cases uK z
 ·exact Xq _ (x9 (by decide)) _ B7
 ·exact VS _ (x9 (by decide)) _ B7
theorem RD:(∀c∈F3,c.length≤20)∧∀c∈pQ,c.length≤20:=by decide
theorem zw (h:D4 z) (a:w.length≤1000) {o2:Option V}:cSs b7.tabs (N+1) (c0 b7 (N+1) (d+3)) b8 (f9 (d2 gy.body 1)) (Bf pre.length w o2) (Bs pre z l) KO=KO (.next (Bf pre.length (w++ke z) o2) (Bs pre (jT z) (l++Bp z))):=by
 have h1:=P3 (m:=2) h;by_cases O:D5 z 2=0
 ·have y1:=e8 a (b:= s!"hook ingress priority ") (n:=30) (by decide);have u:=RD.1 _ (x9 (z:=x7 z 2) (by decide));have e:uK z=true:=decide_eq_true O;rw [ke,jT,Bp,e,cond_true,cond_true,cond_true,← e7,← e7];wp_walk using gy,d2,f9,B8,A5,u9,u5,J5,C0,X0,v6,s6 h (m:=2) (by decide) (by decide),iP O,fT,s5 (cs:=F3) (vs:=cY) h1 rfl (by decide) (by decide),aB (A9 (cs:=F3) h1),e9 a (b:= s!"hook ingress priority ") (n:=30) (by decide),e9 y1 u,e9 (e8 y1 u) (F7 _ (B7 (z:=t9 (x7 z 2) F3)))
 ·have y1:=e8 a (b:= s!"devices = \{ ") (n:=30) (by decide);have u:=RD.2 _ (x9 (z:=x7 z 2) (by decide));have y:=e8 y1 u;have e:uK z=false:=decide_eq_false O;rw [ke,jT,Bp,e,cond_false,cond_false,cond_false,← e7,← e7,← e7];wp_walk using gy,d2,f9,B8,A5,u9,u5,J5,C0,X0,v6,s6 h (m:=2) (by decide) (by decide),iN O,s5 (cs:=pQ) (vs:=Uf) h1 rfl (by decide) (by decide),aB (A9 (cs:=pQ) h1),e9 a (b:= s!"devices = \{ ") (n:=30) (by decide),e9 y1 u,e9 y (b:= s!" }") (n:=2) (by decide),e9 (e8 y (b:= s!" }") (n:=2) (by decide)) (F7 _ (B7 (z:=t9 (x7 z 2) pQ)))
def Ci (V:Pen→List Nat) (S:Pen→Pen):List Internal.V→List Nat→Pen→List Nat
 | [],w,_=>w
 | _ :: L,w,z=>Ci V S L (w++V z) (S z)
def Bw (S:Pen→Pen):List Internal.V→Pen→Pen
 | [],z=>z
 | _ :: L,z=>Bw S L (S z)
section
variable {VV:Pen→List Nat} {SS:Pen→Pen} {m:Nat}
theorem jp (hS:∀z,D4 z→D4 (SS z)):∀{L z},D4 z→D4 (Bw SS L z)
 | [],_,h=>h
 | _ :: L,z,h=>jp hS (L:=L) (z:=SS z) (hS _ h)
theorem mr {P:List Nat→Prop} (hP:∀z w,P w→P (w++VV z)):∀{L w z},P w→P (Ci VV SS L w z)
 | [],_,_,h=>h
 | _ :: L,w,z,h=>mr hP (L:=L) (w:=w++VV z) (z:=SS z) (hP _ _ h)
theorem nD (hm:∀z,(VV z).length≤m):∀{L w z},(Ci VV SS L w z).length≤w.length+L.length*m
 | [],_,_=>A7 ..
 | _ :: L,w,z=>d3 (nD hm (L:=L) (w:=w++VV z) (z:=SS z)) (by rw [u3,G2,lX,A2,G3 (L.length*m)];exact X3 (T1 (hm z) _) _)
theorem pW {c:List Nat} {k:Nat} (h:w.length+(k+1)*m≤1000) (a:c.length≤m):(w++c).length+k*m≤1000:=
 d3 (by rw [u3,lX,A2,G3 (k*m)];exact X3 (T1 a _) _) h
end
theorem js:∀(L:List V) (z:Pen) (w:List Nat) (l:St) (o2:Option V),D4 z→w.length+L.length*50≤1000→∃(j:St) (o:Option V),Fl b7.tabs (N+1) (c0 b7 (N+1) (d+3)) b8 (.name 2) (f9 (d2 gy.body 1)) L (Bf pre.length w o2) (Bs pre z l)
   = .next (Bf pre.length (Ci ke jT L w z) o) (Bs pre (Bw jT L z) (l++j))
 | [],z,w,l,o2,_,_=>⟨[],o2,by rw [P0];rfl⟩
 | v :: L,z,w,l,o2,h,a=>by
  obtain ⟨j,o,c⟩:=js L (jT z) (w++ke z) (l++Bp z) (b6 v) (JO h) (pW a Qb.2);refine ⟨Bp z++j,o,iX (KO:=id) (ρ':=Bf pre.length w (b6 v)) rfl ?_⟩;rw [zw h (d3 (A7 ..) a),dx,id,c,e7];rfl
theorem mW {k:Int} (a:0≤k) (h1:k < 3):0≤1+k∧1+k≤50∧(1+k).toNat≤3:=by omega
theorem oO:eK 4 673 1:=by
 intro z h;have h1:=P3 (m:=3) h;have O:=mW (gm (z:=z) (m:=3) (by decide)) (Z2 (by decide));have a:(n4 0 (1+D5 z 3)).length≤3:=by rw [V9 O.1];exact O.2.2
 have hm:4+(n4 0 (1+D5 z 3)).length*50≤4+3*50:=X3 (jQ 50 a) _;have y:=d3 (nD (VV:=ke) (SS:=jT) (λz=>Qb.2) (L:=n4 0 (1+D5 z 3)) (w:= s!"\{ \n ") (z:=x7 z 3)) hm;refine ⟨_,_,ah (uL (mr (VV:=ke) (SS:=jT) (P:=λt=>SG (r7 1) t=true) (λz w h=>tA h Qb.1) (show SG (r7 1) s!"\{ \n "=true by decide +kernel)) (show FG (r7 1) s!"} ;"=true by decide +kernel)) (d3 (e8 y (n:=3) (by decide)) (by decide)),jp (L:=n4 0 (1+D5 z 3)) (λf=>JO) h1,λpre N d l e=>?_⟩;obtain ⟨j,o,c⟩:=js (pre:=pre) (N:=N) (d:=d) (n4 0 (1+D5 z 3)) (x7 z 3) s!"\{ \n " l b8 h1 (d3 hm (by decide));rw [d6 gy 7 rfl];rw [show gy.body= .cons (d2 gy.body 0) (.cons (.for (.name 2) (.call (.cst (.bi .range)) (.cons (.bin .add (.cst (.int 1)) (.call (.cst (.fn 617)) (.cons (.loc 0) (.cons (.cst (.int 3)) .nil)))) .nil)) (f9 (d2 gy.body 1))) (.cons (d2 gy.body 2) .nil)) from rfl];generalize f9 (d2 gy.body 1)=W at c ⊢;wp_walk using gy,d2,B8,A5,u9,u5,J5,C0,X0,v6,s6 h (m:=3) (by decide) (by decide),V6 O.1 O.2.1,kZ O.1 O.2.1 e;rw [c];wp_walk using B8,A5,u9,u5,J5,C0,X0,v6,e9 y (b:= s!"} ;") (n:=3) (by decide)
def Vg (m:Nat):List (List Nat×V):= [(s!"protocol",.ref (m+1)),(s!"dport",.ref (m+2)),(s!"timeout",.ref (m+3)),(s!"size",.ref (m+4)),(s!"l3proto",.ref (m+5))]
abbrev ng (m:Nat):St:= [.list [.str s!"protocol",.str s!"dport",.str s!"timeout",.str s!"size",.str s!"l3proto"],.list [.str s!"tcp",.str s!"17",.str s!"300",.str s!"nope"],.list [.str s!"ftp",.str s!"0x15",.str s!"70000",.str s!"!ssh"],.list [.str s!"2s",.str s!"90",.str s!"1m30s",.str [120]],.list [.str [53],.str s!"0x10",.str s!"-1",.str s!"70000"],.list [.str s!"ip",.str s!"ip6",.str s!"arp",.str s!"ip"],.dict [(s!"protocol",.ref (m+1)),(s!"dport",.ref (m+2)),(s!"timeout",.ref (m+3)),(s!"size",.ref (m+4)),(s!"l3proto",.ref (m+5))]]
def pH (c:List Nat):List (List Nat):=if c= s!"protocol" then [s!"tcp",s!"17",s!"300",s!"nope"] else if c= s!"dport" then [s!"ftp",s!"0x15",s!"70000",s!"!ssh"] else if c= s!"timeout" then [s!"2s",s!"90",s!"1m30s",[120]] else if c= s!"size" then [[53],s!"0x10",s!"-1",s!"70000"] else [s!"ip",s!"ip6",s!"arp",s!"ip"]
def Dt (c:List Nat):Nat:=if c= s!"protocol" then 1 else if c= s!"dport" then 2 else if c= s!"timeout" then 3 else if c= s!"size" then 4 else 5
theorem Ke:∀c∈rowsE,∀m,look? (Vg m) c=b6 (.ref (m+Dt c))∧(ng m)[Dt c]?=b6 (.list ((pH c).map V.str)):=by
 have h:∀{P:List Nat→Prop} {p q r s t:List Nat},P p→P q→P r→P s→P t→∀c∈ [p,q,r,s,t],P c:=λa b c d e=>uY.mpr ⟨a,uY.mpr ⟨b,uY.mpr ⟨c,uY.mpr ⟨d,List.forall_mem_singleton.mpr e⟩⟩⟩⟩;exact h (λz=>⟨rfl,rfl⟩) (λz=>⟨rfl,rfl⟩) (λz=>⟨rfl,rfl⟩) (λz=>⟨rfl,rfl⟩) (λz=>⟨rfl,rfl⟩)
theorem RY:∀i∈rowsE,pH i≠ []∧(pH i).length≤1000∧i.length≤20∧∀c∈pH i,∀e∈endsL,I8 (r7 2) ([32]++(i++([32]++(c++e))))=true∧([32]++(i++([32]++(c++e)))).length≤28∧c.length≤20:=by decide +kernel
abbrev jy (z:Pen):List Nat:=O9 z rowsE
def MX (z:Pen):Pen:=t9 (t9 z rowsE) (pH (jy z))
def rJ (z:Pen):List Nat:= [32]++(jy z++([32]++(O9 (t9 z rowsE) (pH (jy z))++O9 (MX z) endsL)))
def oY (z:Pen):Pen:=t9 (MX z) endsL
theorem Kr (h:D4 z):D4 (oY z):=A9 (A9 (A9 h))
theorem gE:jy z∈rowsE:=x9 (by decide)
theorem Fq:I8 (r7 2) (rJ z)=true∧(rJ z).length≤28∧(O9 (t9 z rowsE) (pH (jy z))).length≤20:=
 have h:=RY _ (gE (z:=z))
 h.2.2.2 _ (x9 h.1) _ B7
abbrev CL (p:Nat) (w:List Nat) (o o3 o4:Option V):Loc:= [b6 (.ref (p+1)),b6 (.str w),o,o3,o4,b8,b8,b8,b8]
theorem AV (h:D4 z) (p:w.length≤1000) {m:Nat} (hm:∀z,(Bs pre z l).length=m) {o2 q3 q4:Option V}:cSs b7.tabs (N+1) (c0 b7 (N+1) (d+3)) b8 (f9 (d2 gV.body 1)) (CL pre.length w o2 q3 q4) (Bs pre z l) KO
   =KO (.next (CL pre.length (w++rJ z) o2 (b6 (.str (jy z))) (b6 (.ref (m+Dt (jy z))))) (Bs pre (oY z) (l++ng m))):=by
 have t:=RY _ (gE (z:=z));have j:∀z l2,(Bs pre z (l++l2)).length=m+l2.length:=λz l2=>by rw [← hm z,aA,aA,u3,← A2]
 have L:∀z i,(Bs pre z (l++ng m))[m+i]?=(ng m)[i]?:=λz i=>by rw [← hm z];exact Kd
 have h1:=A9 (cs:=rowsE) h;have o:c0 b7 (N+1) (d+1+2) 624 _ _=_:=s5 (pre:=pre) (l:=l) (z0:=z) (cs:=rowsE) (vs:= [.str s!"protocol",.str s!"dport",.str s!"timeout",.str s!"size",.str s!"l3proto"]) h rfl (by decide) (by decide);rw [hm] at o;have es:∀z,s8 (.ref (m+6)) (.str (O9 z rowsE)) (Bs pre (t9 z rowsE) (l++ng m))= .ok (.ref (m+Dt (jy z))) (Bs pre (t9 z rowsE) (l++ng m)):=λz=>by
  rw [K6,L];show (match look? (Vg m) (jy z) with | some v=>Res.ok v _ | none=> .stuck)=_;rw [(Ke _ gE m).1]
 have u:c0 b7 (N+1) (d+1+2) 624 _ _=_:=pick_run (pre:=pre) (l:=l++ng m) h1 t.1 t.2.1 λz'=>(L z' (Dt (jy z))).trans (Ke _ gE m).2;have y1:=e8 p (b:= [32]) (n:=1) (by decide);have r:=e8 y1 t.2.2.1;have s:=e8 r (b:= [32]) (n:=1) (by decide);have B:=e8 s (Fq (z:=z)).2.2;have A:D4 (t9 (t9 z rowsE) (pH (jy z))):=A9 h1;have e:∀z l2,Bs pre z l++l2=Bs pre z (l++l2):=λc c=>B8;have f:∀z l2 l3,Bs pre z (l++l2)++l3=Bs pre z (l++(l2++l3)):=λc c c=>by rw [B8,e7]
 have g:∀(a:AObj) (x y:St),(a :: x)++y=a :: (x++y):=λc c c=>rfl;have k:∀y:St,[]++y=y:=λc=>rfl;delta rJ oY MX;rw [← e7,← e7,← e7,← e7];wp_walk using gV,d2,f9,e,g,k,hm,o,show ∀(q v1 v2 v3 v4:V) (st:St),E6 [.str s!"protocol",q,.str s!"dport",v1,.str s!"timeout",v2,.str s!"size",v3,.str s!"l3proto",v4] st= .ok (.ref st.length) (st++ [.dict [(s!"protocol",q),(s!"dport",v1),(s!"timeout",v2),(s!"size",v3),(s!"l3proto",v4)]]) from λc c c c c c=>rfl,j,f,G2,O2,Nat.reduceAdd,es,u,aB A,e9 p (b:= [32]) (n:=1) (by decide),e9 y1 t.2.2.1,e9 r (b:= [32]) (n:=1) (by decide),e9 s (Fq (z:=z)).2.2,e9 B (F7 _ B7)
theorem cK {v:Voc} (h1:I8 v t=true) (c:I8 v (32 :: u)=true):I8 v (t++32 :: u)=true:=by
 delta I8 at *;rw [X6,List.all_append,h1,show y9 u=y9 (32 :: u) from (X6 (s:= []) (u:=u)).symm,c];rfl
theorem hG (h:y9 (32 :: u)≠ []):y9 (t++32 :: u)≠ []:=by
 rw [X6,show y9 u=y9 (32 :: u) from (X6 (s:= []) (u:=u)).symm];intro c;exact h (FZ.mp c).2
theorem kQ:∀(L:List V) (z:Pen) (w:List Nat) (l:St) (o2 q3 q4:Option V),D4 z→w.length+L.length*28≤1000→∃(j:St) (o3 o4 o5:Option V),Fl b7.tabs (N+1) (c0 b7 (N+1) (d+3)) b8 (.name 2) (f9 (d2 gV.body 1)) L (CL pre.length w o2 q3 q4) (Bs pre z l)
   = .next (CL pre.length (Ci rJ oY L w z) o3 o4 o5) (Bs pre (Bw oY L z) (l++j))
 | [],z,w,l,o2,q3,q4,_,_=>⟨[],o2,q3,q4,by rw [P0];rfl⟩
 | v :: L,z,w,l,o2,q3,q4,h,a=>by
  have i:=λ(K:Out→Out)=>AV (pre:=pre) (l:=l) (N:=N) (d:=d) (KO:=K) (o2:=b6 v) (q3:=q3) (q4:=q4) h (d3 (A7 ..) a) (m:=(Bs pre z l).length) λb=>by rw [aA,aA]
  obtain ⟨j,o3,o4,o5,c⟩:=kQ L (oY z) (w++rJ z) (l++ng (Bs pre z l).length) _ _ _ (Kr h) (pW a Fq.2.1);refine ⟨ng (Bs pre z l).length++j,o3,o4,o5,iX (KO:=id) (ρ':=CL pre.length w (b6 v) q3 q4) rfl ?_⟩;rw [i,dx,id,c,e7];rfl
theorem tV:eK 4 680 2:=by
 intro z h;have h1:=P3 (m:=7) h;have a:=gm (z:=z) (m:=7) (by decide);have O:D5 z 7≤50∧(D5 z 7).toNat≤6:=by have:=Z2 (z:=z) (m:=7) (by decide);omega
 have c:(n4 0 (D5 z 7)).length≤6:=by rw [V9 a];exact O.2
 have hm:1+(n4 0 (D5 z 7)).length*28≤1+6*28:=X3 (jQ 28 c) _;have y:=d3 (nD (VV:=rJ) (SS:=oY) (λz=>Fq.2.1) (L:=n4 0 (D5 z 7)) (w:= [123]) (z:=x7 z 7)) hm;obtain ⟨a1,e,f⟩:I8 (r7 2) s!" } ;"=true∧y9 s!" } ;"≠ []∧I8 (r7 2) [123]=true:=by decide +kernel
 refine ⟨_,_,⟨cK (mr (VV:=rJ) (SS:=oY) (P:=λt=>I8 (r7 2) t=true) (λz w h=>cK h Fq.1) f) a1,d3 (e8 y (n:=4) (by decide)) (by decide),hG e⟩,jp (L:=n4 0 (D5 z 7)) (λk=>Kr) h1,λpre N d l g=>?_⟩;obtain ⟨j,o3,o4,o5,i⟩:=kQ (pre:=pre) (N:=N) (d:=d) (n4 0 (D5 z 7)) (x7 z 7) [123] l b8 b8 b8 h1 (d3 hm (by decide));rw [d6 gV 8 rfl];rw [show gV.body= .cons (d2 gV.body 0) (.cons (.for (.name 2) (.call (.cst (.bi .range)) (.cons (.call (.cst (.fn 617)) (.cons (.loc 0) (.cons (.cst (.int 7)) .nil))) .nil)) (f9 (d2 gV.body 1))) (.cons (d2 gV.body 2) .nil)) from rfl];generalize f9 (d2 gV.body 1)=W at i ⊢;wp_walk using gV,d2,B8,A5,u9,u5,J5,C0,X0,v6,s6 h (m:=7) (by decide) (by decide),V6 a O.1,kZ a O.1 g;rw [i];wp_walk using B8,A5,u9,u5,J5,C0,X0,v6,e9 y (b:= s!" } ;") (n:=4) (by decide)
theorem Vw {x y:AObj} {j:St}:(Bs pre z (l++x :: j)).set (Bs pre z' l).length y=Bs pre z (l++y :: j):=by
 rw [← B8,← B8,aA,← aA (z:=z) (l:=l),dY _ _ (i0 _),I3];rfl
theorem Ey {acc:List V} {v:V} {j:St} (h:acc.length < 1000) (hv:v.flat=true):o8 .append (.ref (Bs pre z' l).length) [v] (Bs pre z (l++AObj.list acc :: j))= .ok .none (Bs pre z (l++AObj.list (acc++ [v]) :: j)):=by
 refine (i7 am).trans ?_;show (if acc.length < sizeLim∧v.flat=true then Res.ok .none ((Bs pre z (l++AObj.list acc :: j)).set (Bs pre z' l).length (.list (acc++ [v]))) else .stuck)=_;rw [iP ⟨M6 h (by decide),hv⟩,Vw]
def MD:CE:=(.call (.cst (.fn 624)) (.cons (.loc 0) (.cons (.list (.cons (.cst (.str s!"ipv4_addr")) (.cons (.cst (.str s!"inet_service")) (.cons (.cst (.str s!"inet_proto")) (.cons (.cst (.str s!"foo")) (.cons (.cst (.str s!"integer")) .nil)))))) .nil)))
def Lj:CE:=(.call (.cst (.fn 624)) (.cons (.loc 0) (.cons (.list (.cons (.cst (.str s!"interval")) (.cons (.cst (.str s!"timeout")) (.cons (.cst (.str s!"constant")) (.cons (.cst (.str s!"dynamic")) (.cons (.cst (.str s!"odd")) .nil)))))) .nil)))
def rL (cs:List (List Nat)):List V→Pen→List (List Nat)
 | [],_=> []
 | _ :: L,z=>O9 z cs :: rL cs L (t9 z cs)
abbrev yi (cs:List (List Nat)):List V→Pen→Pen:=Bw λz=>t9 z cs
theorem nb {cs:List (List Nat)} (h:cs≠ []):∀{L:List V} {z:Pen},∀c∈rL cs L z,c∈cs
 | [],_,_,a=>absurd a H2
 | _ :: _,_,_,a=>(x8.mp a).elim (λe=>e▸x9 h) (nb h _)
theorem Y6 {cs:List (List Nat)}:∀{L:List V} {z:Pen},(rL cs L z).length=L.length
 | [],_=>rfl
 | _ :: L,z=>cG jM (Y6 (L:=L) (z:=t9 z cs))
abbrev zh (p:Nat) (o1 o2:Option V):Loc:= [b6 (.ref (p+1)),o1,o2,b8,b8,b8]
theorem lc {g:CE} {cs:List (List Nat)} {vs:List V} {o1 o2:Option V} {L:List V}
  (d:∀z l x,D4 z→i4 b7.tabs (N+1) Φ g (zh pre.length o1 o2++ [b6 x]) (Bs pre z l)= .ok (.str (O9 z cs)) (Bs pre (t9 z cs) (l++ [.list vs]))) :
  ∀(r:List V) (f k:Nat) (z:Pen) (acc:List V) (j:St),L.drop k=r→r.length < f→D4 z→acc.length+r.length≤999→∃c:St,
   cH (Src.fix L).at (λx st'=>(i4 b7.tabs (N+1) Φ g (zh pre.length o1 o2++ [b6 x]) st').bind λy st'=>o8 .append (.ref (Bs pre z' l).length) [y] st') (Bs pre z' l).length f k (Bs pre z (l++AObj.list acc :: j))
    = .ok (.ref (Bs pre z' l).length) (Bs pre (yi cs r z) (l++AObj.list (acc++(rL cs r z).map V.str) :: c))
 | _,0,_,_,_,_,_,h,_,_=>absurd h (P9 _)
 | [],f+1,k,z,acc,j,hdL,_,_,_=>⟨j,by
  show c8 L[k]? (Res.ok (.ref (Bs pre z' l).length) (Bs pre z (l++AObj.list acc :: j))) _=_;rw [Y3 hdL];exact cG (λa=>Res.ok _ (Bs pre z (l++AObj.list a :: j))) (P0 acc).symm⟩
 | y :: r,f+1,k,z,acc,j,hdL,e,hz,b=>by
  have b:acc.length+1+r.length≤999:=by rw [A2,G3 1];exact b
  obtain ⟨c,h⟩:=lc d r f (k+1) (t9 z cs) (acc++ [.str (O9 z cs)]) (j++ [.list vs]) (D2 hdL).2 (Z7 e) (A9 hz) (by rw [u3];exact b);refine ⟨c,?_⟩;show c8 L[k]? (Res.ok (.ref (Bs pre z' l).length) (Bs pre z (l++AObj.list acc :: j))) _=_;rw [(D2 hdL).1];show ((i4 b7.tabs (N+1) Φ g (zh pre.length o1 o2++ [b6 y]) (Bs pre z (l++AObj.list acc :: j))).bind λy st'=>o8 .append (.ref (Bs pre z' l).length) [y] st').thenN _=_;rw [d _ _ _ hz,Hr,e7,C5,Ey (d3 (d3 (A7 (acc.length+1) r.length) b) (by decide)) rfl];refine h.trans ?_;rw [e7];rfl
theorem iG {g:CE} {cs:List (List Nat)} {vs:List V} {o1 o2:Option V} {hi:Int}
  (h:∀z l x,D4 z→i4 b7.tabs (N+1) Φ g (zh pre.length o1 o2++ [b6 x]) (Bs pre z l)= .ok (.str (O9 z cs)) (Bs pre (t9 z cs) (l++ [.list vs])))
  (a:0≤hi) (h1:hi≤50) (b:299≤N) (hz:D4 z) (f:(n4 0 hi).length≤3):∃j:St,S6 b7.tabs (N+1) Φ g (zh pre.length o1 o2) (.range 0 hi) (Bs pre z l)= .ok (.ref (Bs pre z l).length) (Bs pre (yi cs (n4 0 hi) z) (l++AObj.list ((rL cs (n4 0 hi) z).map V.str) :: j)):=by
 delta S6;rw [show P7 (.range 0 hi) (Bs pre z l)=b6 (.fix (n4 0 hi)) from iP ⟨by decide,by decide,Ad (by decide) a,Gi h1 (by decide)⟩,B8];exact lc (l:=l) (z':=z) h (n4 0 hi) (N+1) 0 z [] [] rfl (J7 f (by omega)) hz (by rw [O2,gC];exact d3 f (by decide))
theorem Hm {v:Voc}:I8 v (32 :: u)=I8 v u:=by
 delta I8;rw [show y9 (32 :: u)=y9 u from X6 (s:= []) (u:=u)]
theorem eg {v:Voc} {cs:List (List Nat)} {sep:List Nat} (h:∀c∈cs,I8 v c=true) (hs:Sp sep=true) (hg:I8 v sep=true):∀{ws:List (List Nat)},(∀c∈ws,c∈cs)→I8 v (v8 (32 :: sep) ws)=true
 | [],_=>rfl
 | [c],a=>h c (a c (D6 ..))
 | c :: b :: ws,a=>by
  show I8 v (c++(32 :: sep)++v8 (32 :: sep) (b :: ws))=true;rw [e7,C5];refine cK (h c (a c (D6 ..))) ?_;rw [Hm];exact cz hs hg (eg h hs hg λz hz=>a z (F1 _ hz))
theorem mS {cs:List (List Nat)} {sep:List Nat} {m:Nat} (h:∀c∈cs,c.length≤m):∀{ws:List (List Nat)},(∀c∈ws,c∈cs)→(v8 sep ws).length≤ws.length*(m+sep.length)∧l0 ws≤ws.length*m
 | [],_=>⟨T3 _,T3 _⟩
 | [c],a=>by
  have h:=h c (a c (D6 ..));rw [lW,Nat.one_mul,Nat.one_mul];exact ⟨d3 h (A7 ..),h⟩
 | c :: b :: ws,a=>by
  have h1:=h c (a c (D6 ..));have d:=mS (sep:=sep) h (ws:=b :: ws) λz hz=>a z (F1 _ hz);rw [G2,lX,lX,G3 (_* _),G3 (_* _)];refine ⟨?_,dJ h1 d.2⟩;show (c++sep++v8 sep (b :: ws)).length≤_;rw [u3,u3];exact dJ (T1 h1 _) d.1
theorem Be (h:Sp u=true) (g:u≠ []):Sp (t++u)=true:=by
 delta Sp at *;rw [xb,decide_eq_true_eq,decide_eq_true_eq] at h ⊢;rcases h with h | h
 ·exact absurd h g
 ·right;rw [xn,h];rfl
theorem CO {ws:List (List Nat)} {j:St} (h:l0 ws+s.length*ws.length≤1000):o8 .join (.str s) [.ref (Bs pre z' l).length] (Bs pre z (l++AObj.list (ws.map V.str) :: j))= .ok (.str (v8 s ws)) (Bs pre z (l++AObj.list (ws.map V.str) :: j)):=by
 rw [vO,am];show (match strs? (ws.map V.str) with
   | some ss=>if l0 ss+s.length*ss.length≤sizeLim then Res.ok (.str (v8 s ss)) (Bs pre z (l++AObj.list (ws.map V.str) :: j)) else .stuck
   | none=> .stuck)=_
 rw [dB];exact iP (d3 h (by decide))
def ca:List (List Nat):= [s!"ipv4_addr",s!"inet_service",s!"inet_proto",s!"foo",s!"integer"]
def fh:List (List Nat):= [s!"interval",s!"timeout",s!"constant",s!"dynamic",s!"odd"]
theorem vi {cs:List (List Nat)} {vs:List V} {es:CEs} {o1 o2:Option V} (hv:vs=cs.map V.str) (a:cs≠ []) (f:cs.length≤1000) (he:∀ρ st,cEs b7.tabs (N+1) (c0 b7 (N+1) (d+3)) es ρ st=λ(K:ResL→Res)=>K (.ok vs st)) (z l x) (hz:D4 z) :
  i4 b7.tabs (N+1) (c0 b7 (N+1) (d+3)) (.call (.cst (.fn 624)) (.cons (.loc 0) (.cons (.list es) .nil))) (zh pre.length o1 o2++ [b6 x]) (Bs pre z l)= .ok (.str (O9 z cs)) (Bs pre (t9 z cs) (l++ [.list vs])):=by
 rw [iZ];wp_walk using he,B8,s5 hz hv a f,C5
theorem Bg {ws:List (List Nat)} {m k:Nat} (h:l0 ws≤ws.length*m) (f:ws.length≤3) (O:3*m+k*3≤1000):l0 ws+k*ws.length≤1000:=
 d3 (dJ (d3 h (jQ m f)) (FB k f)) O
theorem HA:(∀c∈ca,I8 (r7 7) c=true∧c.length≤12)∧(∀c∈fh,I8 (r7 7) c=true∧c.length≤8):=by decide +kernel
theorem Wg:∀e∈endsL,Sp e=true∧e≠ []∧I8 (r7 7) e=true∧e=32 :: e.tail:=by decide +kernel
theorem Wj:Sp s!". "=true∧I8 (r7 7) s!". "=true∧Sp s!", "=true∧I8 (r7 7) s!", "=true∧I8 (r7 7) s!" ;"=true∧y9 s!" ;"≠ []:=by decide +kernel
theorem nl:eK 4 706 7:=by
 intro z h;have k1:=mW (gm (z:=z) (m:=3) (by decide)) (Z2 (by decide));have t:(n4 0 (1+D5 z 3)).length≤3:=by rw [V9 k1.1];exact k1.2.2
 have h1:=P3 (m:=3) h;have g:D4 (yi ca (n4 0 (1+D5 z 3)) (x7 z 3)):=jp (λz h=>A9 h) h1;generalize k:n4 0 (1+D5 z 3)=f at t g;generalize r:yi ca f (x7 z 3)=v at g;have k2:=mW (gm (z:=v) (m:=3) (by decide)) (Z2 (by decide));have l2:(n4 0 (1+D5 v 3)).length≤3:=by rw [V9 k2.1];exact k2.2.2
 have B:=P3 (m:=3) g;have o:D4 (yi fh (n4 0 (1+D5 v 3)) (x7 v 3)):=jp (λz h=>A9 h) B;generalize e:n4 0 (1+D5 v 3)=q at l2 o;generalize u:yi fh q (x7 v 3)=p at o;obtain ⟨J,K,E,M⟩:=Wg (O9 p endsL) B7;obtain ⟨O,x,P,y,Q,R⟩:=Wj;have m1:=nb (cs:=ca) (by decide) (L:=f) (z:=x7 z 3);have m2:=nb (cs:=fh) (by decide) (L:=q) (z:=x7 v 3);have j1:=mS (sep:= s!" . ") (λc h=>(HA.1 c h).2) m1;have w:=mS (sep:= s!" , ") (λc h=>(HA.2 c h).2) m2;have y1:=e8 (d3 j1.1 (jQ (12+3) (d3 (w2 Y6) t))) (show (O9 p endsL).length≤10 from F7 _ B7);have F:=e8 y1 (d3 w.1 (jQ (8+3) (d3 (w2 Y6) l2)));have H:I8 (r7 7) (v8 s!" . " (rL ca f (x7 z 3))++O9 p endsL)=true:=by rw [M] at E ⊢;exact cK (eg (sep:= s!". ") (λc h=>(HA.1 c h).1) O x m1) E
 refine ⟨_,_,⟨cK (cz (Be J K) H (eg (sep:= s!", ") (λc h=>(HA.2 c h).1) P y m2)) Q,d3 (e8 F (n:=2) (by decide)) (by decide),hG R⟩,A9 (cs:=endsL) o,λpre N d l C=>?_⟩;have b1:=λ(z z':Pen) (l j:St)=>CO (pre:=pre) (z:=z) (z':=z') (l:=l) (s:= s!" . ") (j:=j) (Bg j1.2 (d3 (w2 Y6) t) (by decide));have G:=λ(z z':Pen) (l j:St)=>CO (pre:=pre) (z:=z) (z':=z') (l:=l) (s:= s!" , ") (j:=j) (Bg w.2 (d3 (w2 Y6) l2) (by decide));obtain ⟨D,i⟩:=iG (l:=l) (o1:=b8) (o2:=b8) (vi (pre:=pre) (N:=N) (d:=d) (cs:=ca) (vs:= [.str s!"ipv4_addr",.str s!"inet_service",.str s!"inet_proto",.str s!"foo",.str s!"integer"]) rfl (by decide) (by decide) (es:= .cons (.cst (.str s!"ipv4_addr")) (.cons (.cst (.str s!"inet_service")) (.cons (.cst (.str s!"inet_proto")) (.cons (.cst (.str s!"foo")) (.cons (.cst (.str s!"integer")) .nil))))) λA A=>rfl) k1.1 k1.2.1 C h1 (by rw [k];exact t);rw [k,r] at i;obtain ⟨I,a⟩:=iG (l:=l++AObj.list ((rL ca f (x7 z 3)).map V.str) :: D) (o1:=b6 (.ref (Bs pre (x7 z 3) l).length)) (o2:=b8) (vi (pre:=pre) (N:=N) (d:=d) (cs:=fh) (vs:= [.str s!"interval",.str s!"timeout",.str s!"constant",.str s!"dynamic",.str s!"odd"]) rfl (by decide) (by decide) (es:= .cons (.cst (.str s!"interval")) (.cons (.cst (.str s!"timeout")) (.cons (.cst (.str s!"constant")) (.cons (.cst (.str s!"dynamic")) (.cons (.cst (.str s!"odd")) .nil))))) λA A=>rfl) k2.1 k2.2.1 C B (by rw [e];exact l2);rw [e,u] at a;rw [d6 Dk 5 rfl];rw [show Dk.body= .cons (.set (.name 1) (.comp MD (.call (.cst (.bi .range)) (.cons (.bin .add (.cst (.int 1)) (.call (.cst (.fn 617)) (.cons (.loc 0) (.cons (.cst (.int 3)) .nil)))) .nil)))) (.cons (.set (.name 2) (.comp Lj (.call (.cst (.bi .range)) (.cons (.bin .add (.cst (.int 1)) (.call (.cst (.fn 617)) (.cons (.loc 0) (.cons (.cst (.int 3)) .nil)))) .nil)))) (.cons (d2 Dk.body 2) .nil)) from rfl];have i:S6 b7.tabs (N+1) (c0 b7 (N+1) (d+3)) MD _ _ _=_:=i;have a:S6 b7.tabs (N+1) (c0 b7 (N+1) (d+3)) Lj _ _ _=_:=a;generalize MD=W at i ⊢;generalize Lj=S at a ⊢;have b1:=λz0=>b1 z0 (x7 z 3) l (D++AObj.list ((rL fh q (x7 v 3)).map V.str) :: I);rw [← C5,← e7] at b1;wp_walk using Dk,d2,B8,A5,u9,u5,J5,C0,X0,v6,s6 h (m:=3) (by decide) (by decide),s6 g (m:=3) (by decide) (by decide),V6 k1.1 k1.2.1,V6 k2.1 k2.2.1,i,a,gN,b1,G,aB o,e9 (d3 j1.1 (jQ (12+3) (d3 (w2 Y6) t))) (show (O9 p endsL).length≤10 from F7 _ B7),e9 y1 (d3 w.1 (jQ (8+3) (d3 (w2 Y6) l2))),e9 F (b:= s!" ;") (n:=2) (by decide)
abbrev Pr:=List Nat×List Nat
def gq (T0:List Pr) (a way:Nat) (o:Pr):List Pr:=match way with
 | 0=>E9 a (a+1) T0
 | 1=> []
 | 2=> [(T0[a]?).getD o,(T0[a]?).getD o]
 | _=> [o]
def pj (T0:List Pr) (a way:Nat) (o:Pr):List Pr:=T0.take a++gq T0 a way o++T0.drop (a+1)
theorem HW {α β:Type} {f:α→β} {a b:Nat} {l:List α}:E9 a b (l.map f)=(E9 a b l).map f:=by
 delta E9;rw [← List.map_take,List.map_drop]
section
variable {q a k way m:Nat} {p:Pr} {T0:List Pr} {L:St} {o:Pr}
theorem ya (m:st[q]?=b6 (.list (T0.map i6))):(st++L)[q]?=b6 (.list (T0.map i6)):=by
 rw [cg (U6.mp m).1];exact m
theorem kb:(st++L)[st.length+k]?=L[k]?:=by rw [I2 (A7 ..),dR]
theorem KC (m:st[q]?=b6 (.list (T0.map i6))) (f:T0.length≤250):A1 .len [.ref q] st= .ok (.int (T0.length:Int)) st:=by
 refine (i7 m).trans ?_;show (if (T0.map i6).length≤sizeLim then Res.ok (.int ((T0.map i6).length:Int)) st else .stuck)=_;rw [u7,iP (d3 f (by decide))]
theorem JQ (m:st[q]?=b6 (.list (T0.map i6))) (f:T0.length≤250) {p:Pr} (h:T0[a]?=b6 p):s8 (.ref q) (.int (a:Int)) st= .ok (i6 p) st:=by
 rw [M4,m];show (if S7 (a:Int)=true then (match (T0.map i6)[((a:Int)).toNat]? with | some v=>Res.ok v st | none=> .stuck) else .stuck)=_;rw [iP (U0 (M6 (U6.mp h).1 (d3 f (by decide)))),jR,br,h];rfl
theorem DF (m:st[q]?=b6 (.list (T0.map i6))) (f:T0.length≤250) {lo hi:V} {x y:Nat} (h1:ub T0.length 0 lo=b6 x) (c:ub T0.length T0.length hi=b6 y):I9 (.ref q) lo hi .none (st++L)= .ok (.ref (st.length+L.length)) (st++(L++ [AObj.list ((E9 x y T0).map i6)])):=by
 refine (i7 (ya m)).trans ?_;show (if (T0.map i6).length≤sizeLim then Eh (T0.map i6).length lo hi _ else .stuck)=_;delta Eh;rw [u7,iP (d3 f (by decide)),h1,c];show Res.ok (.ref (st++L).length) (st++L++ [AObj.list (E9 x y (T0.map i6))])=_;rw [u3,e7,HW]
theorem wh {m d:Nat} (h:a≤m):ub m d (.int (a:Int))=b6 a:=by
 show (if 0≤(a:Int) then b6 (min (a:Int).toNat m) else b8)=_;rw [iP (V3 a),jR,gi h]
theorem EP {i j:Nat} {p r:List V} (h1:L[i]?=b6 (.list p)) (c:L[j]?=b6 (.list r)) (h:p.length+r.length≤1000):u6 .add (.ref (st.length+i)) (.ref (st.length+j)) (st++L)= .ok (.ref (st.length+L.length)) (st++(L++ [AObj.list (p++r)])):=by
 refine (i7 (kb.trans h1)).trans ((i7 (kb.trans c)).trans ?_);rw [u3,e7];exact iP (d3 h (by decide))
theorem ed {P:Nat→Prop} (a:P 0) (h1:P 1) (c:P 2) (o:P 3):way < 4→P way:=match way with
 | 0=>λz=>a
 | 1=>λz=>h1
 | 2=>λz=>c
 | 3=>λz=>o
 | n+4=>λh=>absurd h (ae.mpr (N7 ..))
theorem Jb (a:way < 4) {y0 y1 y g i j:AObj} {m:Nat}:s8 (.ref (st.length+6)) (.int (way:Int)) (st++ [y0,y1,y,g,i,j,.list [.ref (m+2),.ref (m+3),.ref (m+4),.ref (m+5)]])= .ok (.ref (m+(way+2))) (st++ [y0,y1,y,g,i,j,.list [.ref (m+2),.ref (m+3),.ref (m+4),.ref (m+5)]]):=by
 rw [M4,kb];exact ed (P:=λway=>(if S7 (way:Int)=true then (match [V.ref (m+2),.ref (m+3),.ref (m+4),.ref (m+5)][((way:Int)).toNat]? with | some v=>Res.ok v _ | none=> .stuck) else .stuck)=Res.ok (.ref (m+(way+2))) _) rfl rfl rfl rfl a
theorem MI (b:way < 4) (h:T0[a]?=b6 p) {y0 y1 y7:AObj}:[y0,y1,.list ((E9 a (a+1) T0).map i6),.list [],.list [i6 p,i6 p],.list [i6 o],.list [.ref (m+2),.ref (m+3),.ref (m+4),.ref (m+5)],y7][way+2]?=b6 (.list ((gq T0 a way o).map i6)):=by
 refine ed (P:=λway=> [y0,y1,.list ((E9 a (a+1) T0).map i6),.list [],.list [i6 p,i6 p],.list [i6 o],.list [.ref (m+2),.ref (m+3),.ref (m+4),.ref (m+5)],y7][way+2]?=b6 (.list ((gq T0 a way o).map i6))) rfl rfl ?_ rfl b;show _=b6 (AObj.list ([(T0[a]?).getD o,(T0[a]?).getD o].map i6));rw [h];rfl
theorem EV (h:way < 4):(gq T0 a way o).length≤250+T0.length:=
 ed (P:=λway=>(gq T0 a way o).length≤250+T0.length) (by show (Ah a (List.take (a+1) T0)).length≤_;rw [oD,gj];exact d3 (vc ..) (d3 (wZ ..) (N7 ..))) (T3 _) (d3 (show 2≤250 by decide) (A7 ..)) (d3 (show 1≤250 by decide) (A7 ..)) h
theorem nq {place:Int} (h:st[q]?=b6 (.list (T0.map i6))) (f:T0.length≤250) (C:299≤N) (s:way < 4) (D:Af place (T0.length:Int)=(a:Int)) (l:a < T0.length) (hp:T0[a]?=b6 p) (E:C2[k]?=b6 o) :
  ∃L,c0 b7 (N+1) (d+2) 713 [.ref q,.int (way:Int),.int place,.int (k:Int)] st= .ok (.ref (st.length+10)) (st++L)∧L[10]?=b6 (.list ((pj T0 a way o).map i6)):=by
 have e:c0 b7 (N+1) (d+1) 631 [.str s!"\{ } ; \n = , . type hook priority ingress devices ip inet 5 70000 tcp over bytes kbytes used +3 ct !s dport"] st= .ok (.ref st.length) (st++ [.list (C2.map i6),.list ((j3 32 s!"\{ } ; \n = , . type hook priority ingress devices ip inet 5 70000 tcp over bytes kbytes used +3 ct !s dport").map V.str)]):=wM C (by decide);generalize (j3 32 s!"\{ } ; \n = , . type hook priority ingress devices ip inet 5 70000 tcp over bytes kbytes used +3 ct !s dport").map V.str=P at e;have b:s8 (.ref st.length) (.int (k:Int)) (st++ [.list (C2.map i6),.list P])= .ok (i6 o) (st++ [.list (C2.map i6),.list P]):=JQ (T0:=C2) (kb (k:=0)) (d3 (w2 jv) (by decide)) E;have n:∀L:St,(st++L).length=st.length+L.length:=λL=>u3;have g:∀(a:AObj) (x y:St),(a :: x)++y=a :: (x++y):=λz z z=>rfl;have r:∀y:St,[]++y=y:=λz=>rfl;have c:∀x y:St,st++x++y=st++(x++y):=λz z=>e7 ..;have O:=λL=>DF (L:=L) h f (wh (d:=0) (rN l)) (wh (a:=a+1) (d:=T0.length) l);have S:=λL=>DF (L:=L) h f (lo:= .none) rfl (wh (d:=T0.length) (rN l));have T:=λL=>DF (L:=L) h f (hi:= .none) (wh (a:=a+1) (d:=0) l) rfl;have k1:((E9 0 a T0).map i6).length≤250:=by rw [u7];exact d3 (Vz ..) (d3 (rN l) f)
 have k2:((gq T0 a way o).map i6).length≤500:=by rw [u7];exact d3 (EV s) (X3 f 250)
 have k3:((E9 (a+1) T0.length T0).map i6).length≤250:=by
  rw [u7];show (Ah (a+1) (T0.take T0.length)).length≤250;rw [oD,ma];exact d3 (vc ..) f
 refine ⟨[.list (C2.map i6),.list P,.list ((E9 a (a+1) T0).map i6),.list [],.list [i6 p,i6 p],.list [i6 o],.list [.ref (st.length+2),.ref (st.length+3),.ref (st.length+4),.ref (st.length+5)],.list ((E9 0 a T0).map i6),.list ((E9 0 a T0).map i6++(gq T0 a way o).map i6),.list ((E9 (a+1) T0.length T0).map i6),.list ((E9 0 a T0).map i6++(gq T0 a way o).map i6++(E9 (a+1) T0.length T0).map i6)],?_,?_⟩
 ·have a1:=EP (st:=st) (i:=7) rfl (MI (m:=st.length) (y0:= .list (C2.map i6)) (y1:= .list P) (y7:= .list ((E9 0 a T0).map i6)) (o:=o) s hp) (d3 (dJ k1 k2) (by decide));have B:∀y0 y1 t u v w A y7,u6 .add (.ref (st.length+8)) (.ref (st.length+9)) (st++ [y0,y1,t,u,v,w,A,y7,.list ((E9 0 a T0).map i6++(gq T0 a way o).map i6),.list ((E9 (a+1) T0.length T0).map i6)])=_:=λy0 y1 t u v w A y7=>EP (i:=8) (j:=9) rfl rfl (d3 (dJ (af k1 k2) k3) (by decide));rw [d6 Qo 5 rfl];wp_walk using Qo,KC h f,qp (show (0:Int) < (T0.length:Int) from P1.mpr (J7 (T3 _) l)),D,e,b,show (a:Int)+1=((a+1:Nat):Int) from rfl,O,S,T,λL=>JQ (st:=st++L) (ya h) f hp,c,g,r,n,G2,O2,Nat.reduceAdd,Jb s,a1,B
  rfl
 ·show b6 (AObj.list _)=_;rw [pj,aP,aP];show b6 (AObj.list ((E9 0 a T0).map i6++(gq T0 a way o).map i6++(Ah (a+1) (T0.take T0.length)).map i6))=_;rw [ma];rfl
end
theorem oE {T0:List Pr} {q:Nat} {place word:Int} {way:Nat} (m:st[q]?=b6 (.list (T0.map i6))) (hp:0 < T0.length) (i:T0.length≤250) (j:way < 4) (h:0≤word) (O:word < 25) (f:299≤N) :
  ∃(a:Nat) (o:Pr) (r:Nat) (L:St),a < T0.length∧o∈C2∧c0 b7 (N+1) (d+2) 713 [.ref q,.int (way:Int),.int place,.int word] st= .ok (.ref r) (st++L)∧(st++L)[r]?=b6 (.list ((pj T0 a way o).map i6)):=by
 have g:(0:Int) < (T0.length:Int):=P1.mpr hp;obtain ⟨a,c⟩:=rY (xt place g);obtain ⟨k,rfl⟩:=rY h;have l:a < T0.length:=P1.mp (c▸wX place g);have b:k < C2.length:=M6 (P1.mp O) (w2 jv.symm);obtain ⟨L,h1,e⟩:=nq (d:=d) m i f j c l (bt l) (bt b);exact ⟨a,_,_,L,l,dX _,h1,kb.trans e⟩
theorem CC {T0:List Pr} {a way:Nat} {o p:Pr} (b:a < T0.length) (h:p∈gq T0 a way o):p∈T0∨p=o:=by
 match way,h with
 | 0,h=>exact .inl (FP (wW h))
 | 1,h=>exact absurd h H2
 | 2,h=>
  have h:p∈ [(T0[a]?).getD o,(T0[a]?).getD o]:=h;rw [bt b] at h;exact .inl ((x8.mp h).elim (λe=>e▸dX b) λh=>U5.mp h▸dX b)
 | n+3,h=>exact .inr (U5.mp h)
theorem GC {T0:List Pr} {a way:Nat} {o p:Pr} (b:a < T0.length) (h:p∈pj T0 a way o):p∈T0∨p=o:=
 (dP.mp h).elim (λh=>(dP.mp h).elim (λh=> .inl (FP h)) (CC b)) λh=> .inl (wW h)
theorem AW {T0:List Pr} {a way m:Nat} {o:Pr} (h:a < T0.length) (g:Pr→Nat) (hT:g T0[a]≤m) (b:g o≤m):((gq T0 a way o).map g).sum≤g T0[a]+m:=by
 match way with
 | 0=>
  show (((T0.take (a+1)).drop a).map g).sum≤_;rw [List.take_add_one,bt h,List.drop_append,gj,gi (rN h),I3,Ge (by rw [gj];exact JL ..)];exact X3 (T3 m) _
 | 1=>exact T3 _
 | 2=>
  show ([(T0[a]?).getD o,(T0[a]?).getD o].map g).sum≤_;rw [bt h];exact X3 hT _
 | n+3=>exact d3 b (N7 ..)
theorem vC {T0:List Pr} {a way m:Nat} {o:Pr} (h:a < T0.length) (g:Pr→Nat) (hT:∀p∈T0,g p≤m) (b:g o≤m):((pj T0 a way o).map g).sum≤(T0.map g).sum+m:=by
 have h1:(T0.map g).sum=((T0.take a).map g).sum+(g T0[a]+((T0.drop (a+1)).map g).sum):=by
  refine JK (cG (λl=>(l.map g).sum) (show T0=T0.take a++T0[a] :: T0.drop (a+1) by rw [← KH h,jL])) ?_;rw [aP,FW,Q0,rS]
 have c:=AW (way:=way) h g (hT _ (dX h)) b;rw [pj,aP,aP,FW,FW,h1];omega
def K5:Nat→Int→List Pr→List Tok
 | k,line,[]=> [⟨sEof,[],line,3*(k:Int)+1⟩]
 | k,line,p :: r=>⟨p.1,p.2,line,3*(k:Int)+1⟩ :: K5 (k+1) (line+if p.2= [10] then 1 else 0) r
theorem Qu {k:Nat} {line:Int} {p:Pr} {r:List Pr}:K5 k line (p :: r)=⟨p.1,p.2,line,3*(k:Int)+1⟩ :: K5 (k+1) (line+if p.2= [10] then 1 else 0) r:=rfl
def U3:Nat→Int→List Pr→List Tok×Int
 | k,line,[]=>([],line)
 | k,line,p :: r=>(⟨p.1,p.2,line,3*(k:Int)+1⟩ :: (U3 (k+1) (line+if p.2= [10] then 1 else 0) r).1,(U3 (k+1) (line+if p.2= [10] then 1 else 0) r).2)
theorem fw:∀(r:List Pr) (k:Nat) (line:Int),K5 k line r=(U3 k line r).1++ [⟨sEof,[],(U3 k line r).2,3*((k+r.length:Nat):Int)+1⟩]
 | [],k,line=>rfl
 | p :: r,k,line=>by
  show _ :: K5 (k+1) _ r=_ :: (_++ [_]);rw [fw r,A2,G3 1];rfl
abbrev lz:=nO
section
variable {T:Tabs} {slf:Option Nat} {c:CT} {body:CSs} {q i k:Nat} {l:List V}
theorem oX (m:st[q]?=b6 (.list l)) {x:V} (hx:l[k]?=b6 x):lz q st k=b6 (b6 (.tup [.int k,x])):=by
 refine (i7 m).trans ?_;rw [hx];rfl
theorem Hd (m:st[q]?=b6 (.list l)) (hx:l[k]?=b8):lz q st k=b6 none:=by
 refine (i7 m).trans ?_;rw [hx];rfl
theorem PD (h:ρ[i]?=b6 (b6 (.ref q))) (m:st[q]?=b6 (.list l)):exec T N Φ slf (.forEnum c (.loc i) body) ρ st=Ll T N Φ slf c body (lz q) N 0 ρ st:=by
 show (C6 ρ i st).bindO ρ _=_;rw [U4 h];exact (i7 m).trans rfl
theorem Dd {e:CE}:cS T N Φ slf (.forEnum c e body) ρ st KO=KO (exec T N Φ slf (.forEnum c e body) ρ st):=rfl
end
def Jm:CT:= .tup (.cons (.name 3) (.cons (.tup (.cons (.name 4) (.cons (.name 5) .nil))) .nil))
def xS:CSs:= .cons (.expr (.bm .append (.loc 1) (.cons (.tup (.cons (.loc 4) (.cons (.loc 5) (.cons (.loc 2) (.cons (.bin .add (.bin .mul (.cst (.int 3)) (.loc 3)) (.cst (.int 1))) .nil))))) .nil))) (.cons (.set (.name 2) (.bin .add (.loc 2) (.ite (.cmp1 .eq (.loc 5) (.cst (.str [10]))) (.cst (.int 1)) (.cst (.int 0))))) .nil)
theorem Ti {k:Nat} (O:k≤1000):u6 .mul (.int 3) (.int (k:Int)) st= .ok (.int (3*(k:Int))) st:=vg (aH (m:=3) (j:=3) (by decide) (by decide)) (aH (j:=3) (J7 (w2 (FE k)) (J7 O (by decide))) (by decide))
def zB (q m:Nat) (line:Int) (o3 o4 o5:Option V):Loc:= [b6 (.ref q),b6 (.ref m),b6 (.int line),o3,o4,o5,b8,b8]
theorem um {q:Nat} {line:Int} {k:Nat} {p:Pr} {acc:List V} (a:acc.length≤1000) (O:k≤1000) :
  cSs b7.tabs (N+1) Φ b8 xS (zB q st.length line (b6 (.int k)) (b6 (.str p.1)) (b6 (.str p.2))) (st++ [.list acc]) KO
   =KO (.next (zB q st.length (line+if p.2= [10] then 1 else 0) (b6 (.int k)) (b6 (.str p.1)) (b6 (.str p.2))) (st++ [.list (acc++ [.tup [.str p.1,.str p.2,.int line,.int (3*k+1)]])])):=by
 have g:Q5 .append (.ref st.length) (st++ [.list acc])=true:=by
  exact i7 (by rw [I2 (i0 _),I3];rfl)
 simp only [zB,xS];wp_walk using g,Ti O,bK (v:= .tup [.str p.1,.str p.2,.int line,.int (3*k+1)]) (J7 a (by decide)) rfl;by_cases h:p.2= [10]
 ·rw [iP h,iP h]
 ·rw [iN h,iN h]
theorem iC {q:Nat} {L:List Pr} (m:st[q]?=b6 (.list (L.map i6))) (hL:L.length≤260):∀(r:List Pr) (f k:Nat) (acc:List V) (line:Int) (o3 o4 o5:Option V),L.drop k=r→r.length < f→k+r.length≤260→acc.length≤k→∃o b c,
  Ll b7.tabs (N+1) Φ b8 Jm xS (lz q) f k (zB q st.length line o3 o4 o5) (st++ [.list acc])
  = .next (zB q st.length (U3 k line r).2 o b c) (st++ [.list (acc++(U3 k line r).1.map Tok.v)])
 | _,0,_,_,_,_,_,_,_,h,_,_=>absurd h (P9 _)
 | [],f+1,k,acc,line,o3,o4,o5,hdL,_,_,_=>⟨o3,o4,o5,by
  rw [au (Hd (ya m) (by rw [br,Y3 hdL];rfl))];exact cG (λa=>Out.next _ (st++ [AObj.list a])) (P0 acc).symm⟩
 | p :: r,f+1,k,acc,line,o3,o4,o5,hdL,e,O,d=>by
  have O:k+1+r.length≤260:=by rw [A2,G3 1];exact O
  have i:k≤1000:=d3 (d3 (A7 k (1+r.length)) (by rw [← A2];exact O)) (by decide);obtain ⟨o,b,c,hi⟩:=iC m hL r f (k+1) (acc++ [.tup [.str p.1,.str p.2,.int line,.int (3*k+1)]]) (line+if p.2= [10] then 1 else 0) (b6 (.int k)) (b6 (.str p.1)) (b6 (.str p.2)) (D2 hdL).2 (Z7 e) O (by rw [u3];exact Z1 d);refine ⟨o,b,c,cV (KO:=id) (x:= .tup [.int k,i6 p]) (ρ':=zB q st.length line (b6 (.int k)) (b6 (.str p.1)) (b6 (.str p.2))) (oX (ya m) (by rw [br,(D2 hdL).1];rfl)) rfl ?_⟩;rw [um (d3 d i) i,dq,id,hi,e7];rfl
theorem si:∀{r:List Pr} {k:Nat} {line:Int},(U3 k line r).1.length=r.length
 | [],k,line=>rfl
 | p :: r,k,line=>cG jM (si (r:=r) (k:=k+1) (line:=line+if p.2= [10] then 1 else 0))
theorem sV {q:Nat} {L:List Pr} (m:st[q]?=b6 (.list (L.map i6))) (hL:L.length≤250) (e:299≤N) :
  ∃(M:St),c0 b7 (N+1) (d+1) 720 [.ref q] st= .ok (.ref (st.length+2)) (st++M)∧M.length=3∧M[2]?=b6 (.list ((K5 0 1 L).map Tok.v)):=by
 obtain ⟨o3,o4,o5,f⟩:=iC (N:=N) (Φ:=c0 b7 (N+1) d) m (d3 hL (by decide)) L (N+1) 0 [] 1 b8 b8 b8 rfl (J7 hL (by omega)) (by rw [gC];exact d3 hL (by decide)) (i0 0);have O:=si (r:=L) (k:=0) (line:=1);have o:=fw L 0 1;rw [gC] at o;generalize U3 0 1 L=G at f O o;have hx:exec b7.tabs (N+1) (c0 b7 (N+1) d) b8 (.forEnum Jm (.loc 0) xS) [b6 (.ref q),b6 (.ref st.length),b6 (.int 1),b8,b8,b8,b8,b8] (st++ [.list []])= .next [b6 (.ref q),b6 (.ref st.length),b6 (.int G.2),o3,o4,o5,b8,b8] (st++ [.list (G.1.map Tok.v)]):=(PD rfl (ya m)).trans f;have O:(G.1.map Tok.v).length≤250:=by rw [u7,O];exact hL
 have n:∀L:St,(st++L).length=st.length+L.length:=λL=>u3;have g:∀(a:AObj) (x y:St),(a :: x)++y=a :: (x++y):=λz z z=>rfl;have b:∀y:St,[]++y=y:=λz=>rfl;have h:∀x y:St,st++x++y=st++(x++y):=λz z=>e7 ..;have c:∀v:V,u6 .add (.ref st.length) (.ref (st.length+1)) (st++ [.list (G.1.map Tok.v),.list [v]])=_:=λv=>EP (i:=0) (j:=1) rfl rfl (d3 (dJ O (i0 1)) (by decide));refine ⟨[.list (G.1.map Tok.v),.list [.tup [.str sEof,.str [],.int G.2,.int (3*(L.length:Int)+1)]],.list (G.1.map Tok.v++ [.tup [.str sEof,.str [],.int G.2,.int (3*(L.length:Int)+1)]])],?_,rfl,?_⟩
 ·rw [d6 xM 7 rfl];rw [show xM.body= .cons (d2 xM.body 0) (.cons (.forEnum Jm (.loc 0) xS) (.cons (d2 xM.body 2) .nil)) from rfl];generalize xS=W at hx ⊢;generalize Jm=S at hx ⊢;wp_walk using xM,d2,Dd,hx,λL=>KC (st:=st++L) (ya m) hL,Ti (d3 hL (by decide)),h,g,b,n,G2,O2,Nat.reduceAdd,c;rfl
 ·rw [o,aP];rfl
structure Toks (f:Nat) (T:List Tok):Prop where
 pos:0 < T.length
 small:T.length≤250
 total:(T.map λk=>k.text.length).sum≤250
 last:∀k,T[T.length-1]?=b6 k→k.sort=sEof
 voc:∀k∈T,(k.sort,k.text)∈r7 f∨(k.sort=sEof∧k.text= [])
theorem R3:∀{r:List Pr} {k:Nat} {line:Int},(K5 k line r).length=r.length+1
 | [],k,line=>rfl
 | p :: r,k,line=>by rw [Qu,G2,R3,G2]
theorem iJ:∀{r:List Pr} {k:Nat} {line:Int},((K5 k line r).map λk=>k.text.length).sum=(r.map λp=>p.2.length).sum
 | [],k,line=>rfl
 | p :: r,k,line=>by rw [Qu,Q0,rS,iJ,Q0,rS]
theorem ic:∀{r:List Pr} {i:Nat} {line:Int} {k:Tok},k∈K5 i line r→(k.sort,k.text)∈r∨(k.sort=sEof∧k.text= [])
 | [],i,line,k,h=>by
  rw [K5,U5] at h;rw [h];exact .inr ⟨rfl,rfl⟩
 | p :: r,i,line,k,h=>by
  rw [Qu,x8] at h;rcases h with rfl | h
  ·exact .inl (D6 ..)
  ·rcases ic h with h | h
   ·exact .inl (F1 _ h)
   ·exact .inr h
theorem pD {r:List Pr} {k:Tok} (h:(K5 0 1 r)[(K5 0 1 r).length-1]?=b6 k):k.sort=sEof:=by
 have f:=si (r:=r) (k:=0) (line:=1);rw [R3,Nat.add_sub_cancel,fw,I2 (by omega),f,I3] at h;rw [← k7 h]
theorem Hk {f:Nat} {a way:Nat} {o:Pr} (d:f < 8) (i:TextOk f t) (c:a < (y9 t).length) (j:o∈C2):Toks f (K5 0 1 (pj (y9 t) a way o)):=by
 have hv:∀p∈y9 t,p∈r7 f:=by
  have:=i.goes;unfold I8 at this;rw [aO] at this;exact λp hp=>of_decide_eq_true (this p hp)
 have g:∀p∈r7 f,p.2.length≤25:=λp hp=>by
  have:=Db f d p hp;unfold vt at this;simp only [Z6,decide_eq_true_eq] at this;exact this.1.1.1.2
 have b:=yM f d o j;have h1:((y9 t).map λp:Pr=>p.2.length).sum≤t.length:=uW (t:=t);have l:=jn (t:=t);have n:=i.len;have q:=vC (T0:=y9 t) (a:=a) (way:=way) (m:=25) (o:=o) c (λp=>p.2.length) (λp hp=>g p (hv p hp)) (g o b);have e:=vC (T0:=y9 t) (a:=a) (way:=way) (m:=1) (o:=o) c (λz=>1) (λz z=>i0 _) (i0 _);simp only [List.map_const',List.sum_replicate_nat,Nat.mul_one] at e;refine ⟨by rw [R3];omega,by rw [R3];omega,by rw [iJ];omega,λk O=>pD O,λk O=>?_⟩;rcases ic O with h | h
 ·rcases GC c h with h | h
  ·exact .inl (hv _ h)
  ·rw [h];exact .inl b
 ·exact .inr h
theorem OL {x:Bx} {f:Nat} {verb:List Nat} (b:f < 8) (hT:Toks f x.T) (h1:x.pre[x.t]?=b6 (.list (x.T.map Tok.v))) (d:x.pre[x.tg]?=b6 (.ns [(Q3,.ref x.fld),(bJ,.ref x.ty)])) (o:x.pre[x.ty]?=b6 (.dict x.types)) (e:Types x) (i:x.fam∈s7) (j:f=6→verb∈J4):Fit x f verb:=by
 have g:∀k∈x.T,(k.sort,k.text)∈r7 f→vt (k.sort,k.text)=true:=λk z h=>Db f b _ h;have a:∀k∈x.T,(∀c∈k.sort,c < 128)∧(∀c∈k.text,c < 128)∧k.text.length≤25∧(k.sort=sWord→k.text≠ [])∧(k.sort=jZ→k.text= [59]∨k.text= [10]):=λk O=>by
  rcases hT.voc k O with h | ⟨l,m⟩
  ·have:=g k O h;unfold vt at this;simp only [Z6,xb,decide_eq_true_eq,aO] at this;obtain ⟨⟨⟨⟨⟨V,Y⟩,q3⟩,q4⟩,q5⟩,n⟩:=this;refine ⟨V,Y,q3,λh=>q4.resolve_left (λc=>c h),λh=>?_⟩;rcases q5 with (q5 | q5) | q5
   ·exact absurd h q5
   ·exact .inl q5
   ·exact .inr q5
  ·rw [l,m];exact ⟨by decide,by simp,by simp,λh=>absurd h (by decide),λh=>absurd h (by decide)⟩
 refine ⟨⟨h1,d,o,hT.pos,hT.small,λk O=>d3 (a k O).2.2.1 (by decide),λk O=>(a k O).2.1,λk O=>(a k O).1,λk O=>(a k O).2.2.2.1,λk O=>(a k O).2.2.2.2,hT.total,hT.last⟩,e,i,λh k O hs=>?_,λh k O=>?_,λh=>⟨λk O=>?_,λk O=>?_⟩,j,b⟩
 ·rcases hT.voc k O with q | ⟨q,_⟩
  ·exact RM f (by omega) _ q hs
  ·rw [hs] at q;exact absurd q (by decide)
 ·rcases hT.voc k O with q | ⟨_,q⟩
  ·rw [h] at q;exact QW _ q
  ·rw [q];decide
 ·rcases hT.voc k O with q | ⟨_,q⟩
  ·rw [h] at q;exact (Kb _ q).1
  ·rw [q];decide
 ·rcases hT.voc k O with q | ⟨_,q⟩
  ·rw [h] at q;exact (Kb _ q).2
  ·rw [q];decide
def L7 (i:Nat):CS:=d2 gw.body i
def J0 (o0 o1:Option V) (p:Nat) (form:Int) (o4 o5 o6 o7:Option V) (verb:List Nat) (o9 o10 o11 o12:Option V):Loc:= [o0,o1,b6 (.ref p),b6 (.int form),o4,o5,o6,o7,b6 (.str verb),o9,o10,o11,o12,b8,b8,b8,b8,b8,b8,b8,b8,b8,b8,b8,b8,b8,b8,b8,b8,b8,b8,b8,b8,b8,b8,b8]
section
variable {o0 o1 o4 o5 o6 o7 o9 o10 o11 o12:Option V} {p:Nat} {fi:Int} {verb:List Nat} {v:V}
theorem qg:C6 (J0 o0 o1 p fi o4 o5 o6 o7 verb o9 o10 o11 o12) 2 st= .ok (.ref p) st:=rfl
theorem qf:C6 (J0 o0 o1 p fi o4 o5 o6 o7 verb o9 o10 o11 o12) 3 st= .ok (.int fi) st:=rfl
theorem rB:C6 (J0 o0 o1 p fi o4 o5 o6 o7 verb o9 o10 o11 o12) 8 st= .ok (.str verb) st:=rfl
theorem oV:C6 (J0 o0 o1 p fi (b6 v) o5 o6 o7 verb o9 o10 o11 o12) 4 st= .ok v st:=rfl
theorem rq:C6 (J0 o0 o1 p fi o4 (b6 v) o6 o7 verb o9 o10 o11 o12) 5 st= .ok v st:=rfl
theorem pB:C6 (J0 o0 o1 p fi o4 o5 (b6 v) o7 verb o9 o10 o11 o12) 6 st= .ok v st:=rfl
theorem qk:C6 (J0 o0 o1 p fi o4 o5 o6 (b6 v) verb o9 o10 o11 o12) 7 st= .ok v st:=rfl
theorem pr:C6 (J0 o0 o1 p fi o4 o5 o6 o7 verb (b6 v) o10 o11 o12) 9 st= .ok v st:=rfl
theorem jj:C6 (J0 o0 o1 p fi o4 o5 o6 o7 verb o9 (b6 v) o11 o12) 10 st= .ok v st:=rfl
theorem jb:C6 (J0 o0 o1 p fi o4 o5 o6 o7 verb o9 o10 (b6 v) o12) 11 st= .ok v st:=rfl
theorem jo:C6 (J0 o0 o1 p fi o4 o5 o6 o7 verb o9 o10 o11 (b6 v)) 12 st= .ok v st:=rfl
theorem pO:H4 (.name 8) (J0 o0 o1 p fi o4 o5 o6 o7 verb o9 o10 o11 o12) (.str w) st= .next (J0 o0 o1 p fi o4 o5 o6 o7 w o9 o10 o11 o12) st:=rfl
theorem rG:H4 (.name 9) (J0 o0 o1 p fi o4 o5 o6 o7 verb o9 o10 o11 o12) v st= .next (J0 o0 o1 p fi o4 o5 o6 o7 verb (b6 v) o10 o11 o12) st:=rfl
theorem ib:H4 (.name 10) (J0 o0 o1 p fi o4 o5 o6 o7 verb o9 o10 o11 o12) v st= .next (J0 o0 o1 p fi o4 o5 o6 o7 verb o9 (b6 v) o11 o12) st:=rfl
theorem iq:H4 (.name 11) (J0 o0 o1 p fi o4 o5 o6 o7 verb o9 o10 o11 o12) v st= .next (J0 o0 o1 p fi o4 o5 o6 o7 verb o9 o10 (b6 v) o12) st:=rfl
theorem ji:H4 (.name 12) (J0 o0 o1 p fi o4 o5 o6 o7 verb o9 o10 o11 o12) v st= .next (J0 o0 o1 p fi o4 o5 o6 o7 verb o9 o10 o11 (b6 v)) st:=rfl
end

def iB:AObj:= .idict [((0:Int),V.fn 659),(1,V.fn 673),(2,V.fn 680),(6,V.fn 701),(7,V.fn 706)]
def XE (fi:Int) (z:Pen) (t verb:List Nat) (z':Pen):Prop:=∀pre N d l o0 o1 o4 o5 o6 o7,299≤N→∃j,∀(T0:CSs) (K:Out→Res),cSs b7.tabs (N+1) (c0 b7 (N+1) (d+5)) b8 (.cons (L7 3) (.cons (L7 4) T0)) (J0 o0 o1 (pre.length+1) fi o4 o5 o6 o7 [] b8 b8 b8 b8) (Bs pre z l) K
  =cSs b7.tabs (N+1) (c0 b7 (N+1) (d+5)) b8 T0 (J0 o0 o1 (pre.length+1) fi o4 o5 o6 o7 verb (b6 (.str t)) b8 b8 b8) (Bs pre z' (l++j)) K
def wm (form:Nat):Prop:=∀z:Pen,D4 z→∃(t verb:List Nat) (z':Pen),TextOk form t∧(form=6→verb∈J4)∧D4 z'∧XE (form:Int) z t verb z'
theorem wc:E6 [.int 0,.fn 659,.int 1,.fn 673,.int 2,.fn 680,.int 6,.fn 701,.int 7,.fn 706] st= .ok (.ref st.length) (st++ [iB]):=rfl
theorem kA {fi:Int} {f:Nat} (h:look? [((0:Int),V.fn 659),(1,V.fn 673),(2,V.fn 680),(6,V.fn 701),(7,V.fn 706)] fi=b6 (.fn f)):s8 (.ref (Bs pre z l).length) (.int fi) (Bs pre z' (l++ [iB]))= .ok (.fn f) (Bs pre z' (l++ [iB])):=by
 rw [M4,am];show (match look? [((0:Int),V.fn 659),(1,V.fn 673),(2,V.fn 680),(6,V.fn 701),(7,V.fn 706)] fi with | some v=>Res.ok v _ | none=> .stuck)=_;rw [h]
theorem gI {form f c:Nat} (j:eK c f form) (k:c≤5) (o:∀st,l7 st .isin (.int (form:Int)) (.tup [.int 3,.int 4,.int 5])=b6 false) (g:¬(form:Int)=6) (m:look? [((0:Int),V.fn 659),(1,V.fn 673),(2,V.fn 680),(6,V.fn 701),(7,V.fn 706)] (form:Int)=b6 (.fn f)):wm form:=λz hz=>by
 obtain ⟨t,z',n,b,h⟩:=j z hz;refine ⟨t,[],z',n,λe=>absurd (cG JI e) g,b,λpre N d l o0 o1 o4 o5 o6 o7 i=>⟨[iB],λT0 K=>?_⟩⟩;have a:=h pre N (d+(5-c)) (l++ [iB]) i;rw [A2,Nat.sub_add_cancel k] at a;wp_walk using gw,i9,L7,qg,qf,rB,oV,rq,pB,qk,pr,jj,jb,jo,pO,rG,ib,iq,ji,d2,B8,A5,u9,u5,J5,C0,X0,v6,o,iN g,wc,kA m,a
theorem mF {form:Nat} {kind:List Nat} (f:gJ kind form) (o:∀st,l7 st .isin (.int (form:Int)) (.tup [.int 3,.int 4,.int 5])=b6 true) (a:¬(form:Int)=6) {i:Nat} (hi:(form:Int)-3=(i:Int)) (g:([[.str s!"counter",.str s!"quota",.str s!"limit"]]:List (List V))[0][i]?=b6 (.str kind)) (hs:S7 (i:Int)=true):wm form:=λz hz=>by
 obtain ⟨t,z',j,b,h⟩:=f z hz;refine ⟨t,[],z',j,λe=>absurd (cG JI e) a,b,λpre N d l o0 o1 o4 o5 o6 o7 c=>⟨[.list [.str s!"counter",.str s!"quota",.str s!"limit"]],λT0 K=>?_⟩⟩;have es:∀z0 u,s8 (.ref (Bs pre z0 l).length) (.int (i:Int)) (Bs pre u (l++ [.list [.str s!"counter",.str s!"quota",.str s!"limit"]]))= .ok (.str kind) (Bs pre u (l++ [.list [.str s!"counter",.str s!"quota",.str s!"limit"]])):=λz0 u=>by
  rw [M4,am];show (if S7 (i:Int)=true then (match ([.str s!"counter",.str s!"quota",.str s!"limit"]:List V)[((i:Int)).toNat]? with | some v=>Res.ok v _ | none=> .stuck) else .stuck)=_;rw [iP hs,jR];show (match ([[.str s!"counter",.str s!"quota",.str s!"limit"]]:List (List V))[0][i]? with | some v=>Res.ok v _ | none=> .stuck)=_;rw [g]
 wp_walk using gw,i9,L7,qg,qf,rB,oV,rq,pB,qk,pr,jj,jb,jo,pO,rG,ib,iq,ji,d2,B8,A5,u9,u5,J5,C0,X0,v6,o,iN a,hi,es,λpre d l=>h pre N (d+1) l c
theorem LA:wm 6:=λz hz=>by
 obtain ⟨t,z',i,b,h⟩:=oH (t9 z J4) (A9 hz);refine ⟨t,O9 z J4,z',i,λe=>x9 (by decide),b,λpre N d l o0 o1 o4 o5 o6 o7 c=>⟨[.list (J4.map V.str)]++ [iB],λT0 K=>?_⟩⟩;have a:∀st:St,c0 b7 (N+1) (d+5) 694 [] st= .ok (.ref st.length) (st++ [.list (J4.map V.str)]):=λst=>rfl;have f:=h pre N (d+2) (l++ [.list (J4.map V.str)]++ [iB]) c;rw [show ((6:Nat):Int)=6 from rfl];wp_walk using gw,i9,L7,qg,qf,rB,oV,rq,pB,qk,pr,jj,jb,jo,pO,rG,ib,iq,ji,d2,B8,A5,u9,u5,J5,C0,X0,v6,show ∀st,l7 st .isin (.int 6) (.tup [.int 3,.int 4,.int 5])=b6 false from λe=>rfl,if_true,a,s5 (cs:=J4) hz rfl (by decide) (by decide),wc,kA (fi:=6) rfl,f
 rw [e7]
theorem xU:∀form < 8,wm form
 | 0,_=>gI qr (by decide) (λz=>rfl) (by decide) rfl
 | 1,_=>gI oO (by decide) (λz=>rfl) (by decide) rfl
 | 2,_=>gI tV (by decide) (λz=>rfl) (by decide) rfl
 | 3,_=>mF jc (λz=>rfl) (by decide) (i:=0) rfl rfl rfl
 | 4,_=>mF nM (λz=>rfl) (by decide) (i:=1) rfl rfl rfl
 | 5,_=>mF mz (λz=>rfl) (by decide) (i:=2) rfl rfl rfl
 | 6,_=>LA
 | 7,_=>gI nl (by decide) (λz=>rfl) (by decide) rfl
 | _+8,h=>absurd h (ae.mpr (N7 ..))
theorem xW {form p:Nat} {way word:Nat} {place:Int} {verb:List Nat} {o0 o1 o4:Option V} (n:form < 8) (i:TextOk form t) (w:way < 4) (O:word < 25) (c:299≤N) :
  ∃(r:Nat) (L:St) (T:List Tok),Toks form T∧(st++L)[r]?=b6 (.list (T.map Tok.v))∧
   ∀(T0:CSs) (K:Out→Res),cSs b7.tabs (N+1) (c0 b7 (N+1) (d+5)) b8 (.cons (L7 5) T0) (J0 o0 o1 p (form:Int) o4 (b6 (.int (way:Int))) (b6 (.int place)) (b6 (.int (word:Int))) verb (b6 (.str t)) b8 b8 b8) st K
    =cSs b7.tabs (N+1) (c0 b7 (N+1) (d+5)) b8 T0 (J0 o0 o1 p (form:Int) o4 (b6 (.int (way:Int))) (b6 (.int place)) (b6 (.int (word:Int))) verb (b6 (.str t)) (b6 (.ref r)) b8 b8) (st++L) K:=by
 have f:=wM (N:=N) (d:=d+4) (st:=st) (t:=t) c (d3 i.len (by decide));have u:(st++ [AObj.list ((y9 t).map i6),AObj.list ((j3 32 t).map V.str)])[st.length]?=b6 (.list ((y9 t).map i6)):=kb (k:=0);have q:=d3 (jn (t:=t)) (Z1 i.len);obtain ⟨a,o,y,e,m,s,g,l⟩:=oE (N:=N) (d:=d+3) (place:=place) (word:=(word:Int)) (way:=way) u (KI.mpr i.ne) (d3 q (by decide)) w (V3 _) (P1.mpr O) c;have hT:=Hk (way:=way) n i m s;have b:=hT.small;rw [R3] at b;obtain ⟨M,j,x,h⟩:=sV (N:=N) (d:=d+4) l (dO b) c;refine ⟨(st++ [AObj.list ((y9 t).map i6),AObj.list ((j3 32 t).map V.str)]++e).length+2,[AObj.list ((y9 t).map i6),AObj.list ((j3 32 t).map V.str)]++e++M,K5 0 1 (pj (y9 t) a way o),hT,?_,λT0 K=>?_⟩
 ·rw [← e7,← e7,kb,h]
 ·wp_walk using gw,i9,L7,qg,qf,rB,oV,rq,pB,qk,pr,jj,jb,jo,pO,rG,ib,iq,ji,d2,f,g,j;rw [e7,e7]
theorem Y1 {c:Nat} {name:List Nat} {v:V} {slf:Option Nat} {es es':List (List Nat×V)} {r:St} (h:(c,name)∈b7.tabs.attrs) (f:es.length < 1000) (hv:v.flat=true∨slf=b6 st.length) (he:A4 es name v=es') :
  Internal.setAttr b7.tabs slf name (.inst c st.length) v (st++ .ns es :: r)=b6 (st++ .ns es' :: r):=by
 subst he;refine (iP h).trans ?_;refine (be (l:=es) (by rw [I2 (i0 _),I3];rfl)).trans ?_;show (if (v.flat=true∨slf=b6 st.length)∧es.length < 1000 then b6 ((st++AObj.ns es :: r).set st.length (.ns (A4 es name v))) else b8)=_;rw [iP ⟨hv,f⟩,dY _ _ (i0 _),I3];rfl
def TJ (a n:Nat) (o:Out):Res:=qb a n (Kend o)
theorem GX {P:Prog} {N d a i:Nat} {f:CFn} {args:List V} (b:C7 P.fns a=b8) (h1:C7 P.clss a=b6 i) (c:C7 P.fns i=b6 f) :
  c0 P N (d+1) a args st=qb a st.length (P6 P N (c0 P N d) (b6 st.length) f (V.inst a st.length :: args) (st++ [AObj.ns []])):=by
 have l:∀{o:Option CFn} {A:CFn→Res} {B:Res},o=b8→(match o with | some f=>A f | none=>B)=B:=λh=>by subst h;rfl
 have k1:∀{o:Option Nat} {A:Nat→Res} {B:Res},o=b6 i→(match o with | some f=>A f | none=>B)=A i:=λh=>by subst h;rfl
 refine (l b).trans ((k1 h1).trans ?_);rw [c];rfl
theorem wt {P:Prog} {N d a i:Nat} {f:CFn} {args:List V} (h:C7 P.fns a=b8) (h1:C7 P.clss a=b6 i) (c:C7 P.fns i=b6 f) (b:F8 f (.inst a st.length :: args)=b6 ρ) :
  c0 P N (d+1) a args st=cSs P.tabs N (c0 P N d) (b6 st.length) f.body ρ (st++ [.ns []]) (TJ a st.length):=by
 rw [GX h h1 c,mR b,cSs_eq,cSs_eq];rfl
theorem Bn {a n:Nat}:TJ a n (.next ρ st)= .ok (.inst a n) st:=rfl
theorem sA {v1 v2:V}:c0 b7 (N+1) (d+1) 599 [v1,v2] st= .ok (.inst 599 st.length) (st++ [.ns [(Q3,v1),(bJ,v2)]]):=by
 rw [wt (i:=596) (f:=Qi) (ρ:= [b6 (.inst 599 st.length),b6 v1,b6 v2]) rfl rfl rfl rfl];wp_walk using Qi,Bn,bA (Y1 (slf:=b6 st.length) (c:=599) (name:=Q3) (v:=v1) (es:= []) (es':= [(Q3,v1)]) (r:= []) (st:=st) (by decide) (show 1≤1000 by decide) (.inr rfl) rfl),bA (Y1 (slf:=b6 st.length) (c:=599) (name:=bJ) (v:=v2) (es:= [(Q3,v1)]) (es':= [(Q3,v1),(bJ,v2)]) (r:= []) (st:=st) (by decide) (show 2≤1000 by decide) (.inr rfl) rfl)
theorem sL {v1 v2:V}:c0 b7 (N+1) (d+1) 280 [v1,v2] st= .ok (.inst 280 st.length) (st++ [.ns [(p8,v1),(S4,.int 0),(B4,v2),(J9,.ref (st.length+1)),(w9,.str []),(U7,.str [])],.dict []]):=by
 rw [wt (i:=213) (f:=Lr) (ρ:= [b6 (.inst 280 st.length),b6 v1,b6 v2]) rfl rfl rfl rfl];have h:∀x:List AObj,(st++x).length=st.length+x.length:=λz=>u3;have a:∀x y:List AObj,st++x++y=st++(x++y):=λz z=>e7 ..;wp_walk using Lr,Bn,show ∀st:St,E6 [] st= .ok (.ref st.length) (st++ [.dict []]) from λz=>rfl,h,a,C5,H1,G2,O2,gC,bA (Y1 (slf:=b6 st.length) (c:=280) (name:=p8) (v:=v1) (es:= []) (es':= [(p8,v1)]) (r:= []) (st:=st) (by decide) (show 1≤1000 by decide) (.inr rfl) rfl),bA (Y1 (slf:=b6 st.length) (c:=280) (name:=S4) (v:= .int 0) (es:= [(p8,v1)]) (es':= [(p8,v1),(S4,.int 0)]) (r:= []) (st:=st) (by decide) (show 2≤1000 by decide) (.inr rfl) rfl),bA (Y1 (slf:=b6 st.length) (c:=280) (name:=B4) (v:=v2) (es:= [(p8,v1),(S4,.int 0)]) (es':= [(p8,v1),(S4,.int 0),(B4,v2)]) (r:= []) (st:=st) (by decide) (show 3≤1000 by decide) (.inr rfl) rfl),bA (Y1 (slf:=b6 st.length) (c:=280) (name:=J9) (v:= .ref (st.length+1)) (es:= [(p8,v1),(S4,.int 0),(B4,v2)]) (es':= [(p8,v1),(S4,.int 0),(B4,v2),(J9,.ref (st.length+1))]) (r:= [.dict []]) (st:=st) (by decide) (show 4≤1000 by decide) (.inr rfl) rfl),bA (Y1 (slf:=b6 st.length) (c:=280) (name:=w9) (v:= .str []) (es:= [(p8,v1),(S4,.int 0),(B4,v2),(J9,.ref (st.length+1))]) (es':= [(p8,v1),(S4,.int 0),(B4,v2),(J9,.ref (st.length+1)),(w9,.str [])]) (r:= [.dict []]) (st:=st) (by decide) (show 5≤1000 by decide) (.inr rfl) rfl),bA (Y1 (slf:=b6 st.length) (c:=280) (name:=U7) (v:= .str []) (es:= [(p8,v1),(S4,.int 0),(B4,v2),(J9,.ref (st.length+1)),(w9,.str [])]) (es':= [(p8,v1),(S4,.int 0),(B4,v2),(J9,.ref (st.length+1)),(w9,.str []),(U7,.str [])]) (r:= [.dict []]) (st:=st) (by decide) (show 6≤1000 by decide) (.inr rfl) rfl)
def ak (k:Nat):St:= [.dict [(s!"tcp",.int 6),(s!"udp",.int 17)],.dict [(s!"ftp",.int 21),(s!"ssh",.int 22)],.dict [],.dict [],.dict [(s!"inet_proto",.tup [.int 8,.str s!"big",.str s!"number",.ref k]),(s!"inet_service",.tup [.int 16,.str s!"big",.str s!"number",.ref (k+1)]),
   (s!"ipv4_addr",.tup [.int 32,.str s!"big",.str s!"ip4",.ref (k+2)]),(s!"integer",.tup [.int 0,.str s!"big",.str s!"number",.ref (k+3)])]]
theorem yO:c0 b7 (N+1) (d+1) 936 [] st= .ok (.ref (st.length+4)) (st++ak st.length):=rfl
theorem Ca {form:Nat} {p r:Nat} {T:List Tok} {fam verb:List Nat} {o0 o1 o5 o6 o7 o9:Option V} (k:st[r]?=b6 (.list (T.map Tok.v))) (s:form < 8) (hT:Toks form T) (a:fam∈s7) (hv:form=6→verb∈J4) :
  ∃(x:Bx),Fit x form verb∧(∃j,x.pre=st++j)∧∀N d (T0:CSs) (K:Out→Res),cSs b7.tabs (N+1) (c0 b7 (N+1) (d+5)) b8 (.cons (L7 6) (.cons (L7 7) T0)) (J0 o0 o1 p (form:Int) (b6 (.str fam)) o5 o6 o7 verb o9 (b6 (.ref r)) b8 b8) st K
   =cSs b7.tabs (N+1) (c0 b7 (N+1) (d+5)) b8 T0 (J0 o0 o1 p (form:Int) (b6 (.str fam)) o5 o6 o7 verb o9 (b6 (.ref r)) (b6 (rd x)) (b6 (bk x))) (S x 0 0 []) K:=by
 have f:r < st.length:=(U6.mp k).1;let t:List (List Nat×V):= [(s!"inet_proto",.tup [.int 8,.str s!"big",.str s!"number",.ref (st.length+1)]),(s!"inet_service",.tup [.int 16,.str s!"big",.str s!"number",.ref (st.length+1+1)]),
   (s!"ipv4_addr",.tup [.int 32,.str s!"big",.str s!"ip4",.ref (st.length+1+2)]),(s!"integer",.tup [.int 0,.str s!"big",.str s!"number",.ref (st.length+1+3)])]
 let pre:=st++(.dict [] :: ak (st.length+1)++ [.ns [(Q3,.ref st.length),(bJ,.ref (st.length+5))]]);have h:∀i,pre[st.length+i]?=(.dict [] :: ak (st.length+1)++ [AObj.ns [(Q3,.ref st.length),(bJ,.ref (st.length+5))]])[i]?:=λi=>kb;have e:pre.length=st.length+7:=u3;let x:Bx:=⟨pre,T,r,st.length+6,st.length+5,st.length,fam,t⟩
 have c:Types x:=⟨st.length+1,st.length+1+1,st.length+1+2,st.length+1+3,rfl,h 1,h 2⟩
 have b:Fit x form verb:=OL s hT (by show (st++_)[r]?=_;rw [cg f];exact k) (h 6) (h 5) c a hv;refine ⟨x,b,⟨_,rfl⟩,λN d T0 K=>?_⟩;have l:c0 b7 (N+1) (d+5) 936 [] (st++ [.dict []])= .ok (.ref (st.length+5)) (st++(.dict [] :: ak (st.length+1))):=by
  rw [yO (d:=d+4),u3,e7];rfl
 have m:c0 b7 (N+1) (d+5) 599 [.ref st.length,.ref (st.length+5)] (st++(.dict [] :: ak (st.length+1)))= .ok (.inst 599 (st.length+6)) pre:=by
  rw [sA (d:=d+4),u3,e7];rfl
 have n:c0 b7 (N+1) (d+5) 280 [.ref r,.inst 599 (st.length+6)] pre= .ok (.inst 280 pre.length) (pre++ [.ns [(p8,.ref r),(S4,.int 0),(B4,.inst 599 (st.length+6)),(J9,.ref (pre.length+1)),(w9,.str []),(U7,.str [])],.dict []]):=sL (d:=d+4);have o:E6 [.str p8,.ref r,.str S4,.int 0,.str w9,.str fam] (pre++ [.ns [(p8,.ref r),(S4,.int 0),(B4,.inst 599 (st.length+6)),(J9,.ref (pre.length+1)),(w9,.str []),(U7,.str [])],.dict []])
   = .ok (.ref (pre.length+2)) (pre++ [.ns [(p8,.ref r),(S4,.int 0),(B4,.inst 599 (st.length+6)),(J9,.ref (pre.length+1)),(w9,.str []),(U7,.str [])],.dict [],.dict [(p8,.ref r),(S4,.int 0),(w9,.str fam)]]):=by
  show Res.ok (.ref (pre++_).length) (pre++_++ [AObj.dict [(p8,.ref r),(S4,.int 0),(w9,.str fam)]])=_;rw [u3,e7];rfl
 have g:Internal.setAttr b7.tabs b8 w9 (.inst 280 pre.length) (.str fam) (pre++ [.ns [(p8,.ref r),(S4,.int 0),(B4,.inst 599 (st.length+6)),(J9,.ref (pre.length+1)),(w9,.str []),(U7,.str [])],.dict [],.dict [(p8,.ref r),(S4,.int 0),(w9,.str fam)]])=b6 (S x 0 0 []):=
  Y1 (by decide) (show 7≤1000 by decide) (.inl rfl) rfl
 have O:rd x= .inst 280 pre.length:=rfl;have q:bk x= .ref (pre.length+2):=rfl;rw [O,q];generalize S x 0 0 []=u at g ⊢
 clear_value pre
 wp_walk using gw,i9,L7,qg,qf,rB,oV,rq,pB,qk,pr,jj,jb,jo,pO,rG,ib,iq,ji,d2,show ∀st:St,E6 [] st= .ok (.ref st.length) (st++ [.dict []]) from λz=>rfl,l,m,n,o,bA g
def EQ (i:Nat) (K:Out→γ):Out→γ
 | .next ρ st=>K (.next (ρ.set i b8) st)
 | .ret v st=>K (.ret v st)
 | _=>K .stuck
def GG (T:Tabs) (slf:Option Nat) (i:Nat) (h:CSs) (K:Out→γ):Out→γ
 | .bad e ρ st=>if i < ρ.length then cSs T 0 (λz z z=> .stuck) slf h (ρ.set i (b6 (.exc st.length))) (st++ [D7 e]) (EQ i K) else K .stuck
 | .next ρ st=>K (.next ρ st)
 | .ret v st=>K (.ret v st)
 | _=>K .stuck
section
variable {T:Tabs} {slf:Option Nat} {i:Nat} {b h:CSs} {v:V} {e:Exc}
theorem JU:cS T N Φ slf (.try b i h) ρ st KO=cSs T N Φ slf b ρ st (GG T slf i h KO):=by
 rw [cSs_eq];show KO ((execs T N Φ slf b ρ st).caught _)=_;cases execs T N Φ slf b ρ st with
 | bad e ρ' st'=>
  show KO (if i < ρ'.length then (execs T 0 (λz z z=> .stuck) slf h (ρ'.set i (b6 (.exc st'.length))) (st'++ [D7 e])).unset i else .stuck)=if i < ρ'.length then cSs T 0 (λz z z=> .stuck) slf h (ρ'.set i (b6 (.exc st'.length))) (st'++ [D7 e]) (EQ i KO) else KO .stuck
  rw [apply_ite KO,cSs_eq]
  cases execs T 0 (λz z z=> .stuck) slf h (ρ'.set i (b6 (.exc st'.length))) (st'++ [D7 e]) <;> rfl
 | _=>rfl
theorem Nc:GG T slf i h KO (.next ρ st)=KO (.next ρ st):=rfl
theorem Kh:GG T slf i h KO (.ret v st)=KO (.ret v st):=rfl
theorem Iv {a0 a1 g m n o i j k l a b c d f:Option V} {r:Loc}:GG T slf 14 h KO (.bad e (a0 :: a1 :: g :: m :: n :: o :: i :: j :: k :: l :: a :: b :: c :: d :: f :: r) st)=cSs T 0 (λz z z=> .stuck) slf h (a0 :: a1 :: g :: m :: n :: o :: i :: j :: k :: l :: a :: b :: c :: d :: b6 (.exc st.length) :: r) (st++ [D7 e]) (EQ 14 KO):=
 iP (e:=KO .stuck) (M6 (show 14 < 15 by decide) (N7 15 r.length))
theorem Fs {a0 a1 e m n o g h k l a b c d f:Option V} {r:Loc}:EQ 14 KO (.next (a0 :: a1 :: e :: m :: n :: o :: g :: h :: k :: l :: a :: b :: c :: d :: f :: r) st)=KO (.next (a0 :: a1 :: e :: m :: n :: o :: g :: h :: k :: l :: a :: b :: c :: d :: b8 :: r) st):=rfl
theorem Vv:EQ i KO (.ret v st)=KO (.ret v st):=rfl
end
theorem pf (v:V):∀D,v.data D=true→V.beq v v=true:=
 V.rec (motive_1:=λv=>∀D,v.data D=true→V.beq v v=true) (motive_2:=λl=>∀D,V.datas D l=true→V.beqs l l=true)
  (λz z=>rfl) (λb z z=>by cases b <;> rfl) (λz z z=>decide_eq_true rfl) (λz z z=>decide_eq_true rfl)
  (λl ih D h=>by cases D with | zero=>exact absurd h O0 | succ D=>exact ih D h)
  (λz z z h=>absurd h O0) (λz z h=>absurd h O0) (λz z z h=>absurd h O0) (λz z h=>absurd h O0) (λz z h=>absurd h O0) (λz z h=>absurd h O0) (λz z h=>absurd h O0)
  (λz z=>rfl) (λa r i c D h=>
   have h:=q7.mp (show (a.data D&&V.datas D r)=true from h)
   q7.mpr ⟨i D h.1,c D h.2⟩) v
theorem zE (v:V):∀D,v.data D=true→v.data (D+1)=true:=
 V.rec (motive_1:=λv=>∀D,v.data D=true→v.data (D+1)=true) (motive_2:=λl=>∀D,V.datas D l=true→V.datas (D+1) l=true)
  (λz h=>h) (λz z h=>h) (λz z h=>h) (λz z h=>h)
  (λl ih D h=>by cases D with | zero=>exact absurd h O0 | succ D=>exact ih D h)
  (λz z z h=>h) (λz z h=>h) (λz z z h=>h) (λz z h=>h) (λz z h=>h) (λz z h=>h) (λz z h=>h)
  (λz h=>h) (λa r i c D h=>
   have h:=q7.mp (show (a.data D&&V.datas D r)=true from h)
   q7.mpr ⟨i D h.1,c D h.2⟩) v
theorem AS {l:List V} (h:V.datas 19 l=true):l7 st .eq (.tup l) (.tup l)=b6 true:=by
 have h1:(V.tup l).data 20=true:=w3 h;show (if (V.tup l).data 20&&(V.tup l).data 20 then b6 (V.beq (.tup l) (.tup l)) else b8)=_;rw [h1,pf _ 20 h1];rfl
theorem sR {e:Exc} {name:List Nat} {v:V} (h:name∈b7.tabs.xattrs) (f:look? (fW e) name=b6 v):getAttr b7.tabs name (.exc st.length) (st++ [D7 e])= .ok v (st++ [D7 e]):=by
 refine (iP h).trans ((be (l:=fW e) (by rw [I2 (i0 _),I3];rfl)).trans ?_);rw [f];rfl
theorem Pc {e:Exc}:getAttr b7.tabs s!"why" (.exc st.length) (st++ [D7 e])= .ok (.str e.why) (st++ [D7 e]):=sR (by decide) rfl
theorem Np {e:Exc}:getAttr b7.tabs s!"row" (.exc st.length) (st++ [D7 e])= .ok (.int e.row) (st++ [D7 e]):=sR (by decide) rfl
theorem PB {e:Exc}:getAttr b7.tabs s!"column" (.exc st.length) (st++ [D7 e])= .ok (.int e.col) (st++ [D7 e]):=sR (by decide) rfl
theorem PU {x:Bx} {a b:Nat} {ext:St} {e:Exc}:getAttr b7.tabs s!"why" (.exc (S x a b ext).length) (S x a b (ext++ [D7 e]))= .ok (.str e.why) (S x a b (ext++ [D7 e])):=by rw [← cP];exact Pc
theorem Qg {x:Bx} {a b:Nat} {ext:St} {e:Exc}:getAttr b7.tabs s!"row" (.exc (S x a b ext).length) (S x a b (ext++ [D7 e]))= .ok (.int e.row) (S x a b (ext++ [D7 e])):=by rw [← cP];exact Np
theorem Nm {x:Bx} {a b:Nat} {ext:St} {e:Exc}:getAttr b7.tabs s!"column" (.exc (S x a b ext).length) (S x a b (ext++ [D7 e]))= .ok (.int e.col) (S x a b (ext++ [D7 e])):=by rw [← cP];exact PB
theorem HG {x:Bx} {form p:Nat} {verb:List Nat} {o0 o1 o4 o5 o6 o7 o9 o10:Option V} (hx:Fit x form verb) (i:299≤N) (h:N≤700) :
  ∃b ext,∀K:Out→Res,cSs b7.tabs (N+1) (c0 b7 (N+1) (d+11)) b8 (.cons (L7 8) (.cons (L7 9) .nil)) (J0 o0 o1 p (form:Int) o4 o5 o6 o7 verb o9 o10 (b6 (rd x)) (b6 (bk x))) (S x 0 0 []) K=K (.ret (.bool true) (S x b b ext)):=by
 have g:=Nt (a:=0) hx i;have c:=Qt (N:=N) (d:=d) (a:=0) (b:=0) (ext:= []) hx i h;have f:=λb ext=>PV (N:=N) (d:=d) (a:=0) (b:=b) (ext:=ext) hx i h;generalize lJ x N form verb 0=r at g c f;cases r with
 | stuck=>exact absurd g id
 | ok v b=>
  have c:_=Res.ok v _:=c;have f:∀b ext,_=Res.ok v _:=f;have j:=λst=>AS (st:=st) (l:= [.str s!"read",v,.int (b:Int)]) (d8 (r9 (by decide)) (d8 (zE v 18 g.2) (d8 C4 t8)));refine ⟨b,[],λK=>?_⟩;wp_walk using gw,L7,J0,d2,JU,c,Nc,f,j,Kh
 | bad e b=>
  have c:_=Res.bad e _:=c;have f:∀b ext,_=Res.bad e _:=f;have j:=λst=>AS (st:=st) (l:= [.str s!"bad",.str e.why,.tup [.int e.row,.int e.col]]) (d8 (r9 (by decide)) (d8 (r9 g) (d8 (w3 (d8 C4 (d8 C4 t8))) t8)));refine ⟨b,[D7 e,D7 e],λK=>?_⟩;wp_walk using gw,L7,J0,d2,JU,c,Iv,f,j,Kh,PU,Qg,Nm,lS,pS,Fs,Vv;rfl
theorem tS {r:Nat} {b:List Int} {m:Int} (e:st[r]?=b6 (.list (b.map V.int))) (w:b.length≤1000) :
  ∃(form way word:Nat) (place:Int) (fam:List Nat) (z':Pen),form < 8∧way < 4∧word < 25∧fam∈s7∧D4 z'∧∀N d (T0:CSs) (K:Out→Res),
   cSs b7.tabs (N+1) (c0 b7 (N+1) (d+5)) b8 (.cons (L7 0) (.cons (L7 1) (.cons (L7 2) T0))) [b6 (.ref r),b6 (.int m),b8,b8,b8,b8,b8,b8,b8,b8,b8,b8,b8,b8,b8,b8,b8,b8,b8,b8,b8,b8,b8,b8,b8,b8,b8,b8,b8,b8,b8,b8,b8,b8,b8,b8] st K
    =cSs b7.tabs (N+1) (c0 b7 (N+1) (d+5)) b8 T0 (J0 (b6 (.ref r)) (b6 (.int m)) (st.length+1) (form:Int) (b6 (.str fam)) (b6 (.int (way:Int))) (b6 (.int place)) (b6 (.int (word:Int))) [] b8 b8 b8 b8) (Bs st z' [.list (s7.map V.str)]) K:=by
 have t:D4 (b,m):=w;have g:=λN d=>s6 (pre:=st) (l:= []) (N:=N) (d:=d) t (m:=8) (by decide) (by decide);obtain ⟨form,A⟩:=rY (gm (z:=(b,m)) (m:=8) (by decide));have f:=Z2 (z:=(b,m)) (m:=8) (by decide);have h1:=P3 (m:=8) t;rw [A] at g f;generalize x7 (b,m) 8=u at g h1;have k2:=gm (z:=u) (m:=6) (by decide);have i:=Z2 (z:=u) (m:=6) (by decide);have c:=P3 (m:=6) h1;have k:=λN d=>s6 (pre:=st) (l:= [.list (s7.map V.str)]) (N:=N) (d:=d) h1 (m:=6) (by decide) (by decide);have es:s8 (.ref (Bs st u []).length) (.int (D5 u 6)) (Bs st (x7 u 6) [.list (s7.map V.str)])=_:=cv (cs:=s7) (by decide) k2 i (am (l:= []) (l2:= [.list (s7.map V.str)]));have m2:=gF (cs:=s7) k2 i;generalize x7 u 6=v at k c es;have p:=λN d=>s6 (pre:=st) (l:= [.list (s7.map V.str)]) (N:=N) (d:=d) c (m:=4) (by decide) (by decide);obtain ⟨way,B⟩:=rY (gm (z:=v) (m:=4) (by decide));have j:=Z2 (z:=v) (m:=4) (by decide);have o:=P3 (m:=4) c;rw [B] at p j;generalize x7 v 4=x at p o;have q:=λN d=>s6 (pre:=st) (l:= [.list (s7.map V.str)]) (N:=N) (d:=d) o (m:=40) (by decide) (by decide);have h:=P3 (m:=40) o;generalize x7 x 40=a at q h;have s:=λN d=>s6 (pre:=st) (l:= [.list (s7.map V.str)]) (N:=N) (d:=d) h (m:=25) (by decide) (by decide);obtain ⟨word,C⟩:=rY (gm (z:=a) (m:=25) (by decide));have n:=Z2 (z:=a) (m:=25) (by decide);rw [C] at s n;refine ⟨form,way,word,D5 x 40,ph s7 (D5 u 6),x7 a 25,P1.mp f,P1.mp j,P1.mp n,m2,P3 h,λN d T0 K=>?_⟩;have y:A1 .list [.ref r] st= .ok (.ref st.length) (st++ [.list (b.map V.int)]):=by
  refine (i7 e).trans ?_;exact iP (by rw [u7];exact d3 w (by decide))
 have E:E6 [.str s!"row",.ref st.length,.str s!"rest",.int m] (st++ [AObj.list (b.map V.int)])= .ok (.ref (st.length+1)) (Bs st (b,m) []):=by
  show Res.ok (.ref (st++ [AObj.list (b.map V.int)]).length) (st++ [AObj.list (b.map V.int)]++ [AObj.dict [(s!"row",.ref st.length),(s!"rest",.int m)]])=_;rw [u3,e7];rfl
 have D:∀st,c0 b7 (N+1) (d+5) 638 [] st= .ok (.ref st.length) (st++ [.list (s7.map V.str)]):=λst=>rfl;wp_walk using gw,i9,L7,d2,B8,A5,u9,u5,J5,C0,X0,v6,y,E,g,D,H1,k,es,p,q,s;rfl
theorem zL {r:Nat} {a:List Int} {m:Int} (l:st[r]?=b6 (.list (a.map V.int))) (w:a.length≤1000) (c:299≤N) (e:N≤700):c0 b7 (N+1) (d+12) 957 [.ref r,.int m] st= .ok (.bool true) st:=by
 obtain ⟨form,way,word,place,fam,z,g,B,O,h,hz,n⟩:=tS (m:=m) l w;obtain ⟨t,verb,z',A,hv,D,i⟩:=xU form g z hz;obtain ⟨j,i⟩:=i st N (d+6) [.list (s7.map V.str)] (b6 (.ref r)) (b6 (.int m)) (b6 (.str fam)) (b6 (.int (way:Int))) (b6 (.int place)) (b6 (.int (word:Int))) c;obtain ⟨q,L,T,hT,v,o⟩:=xW (N:=N) (d:=d+6) (p:=st.length+1) (place:=place) (verb:=verb) (o0:=b6 (.ref r)) (o1:=b6 (.int m)) (o4:=b6 (.str fam)) (st:=Bs st z' ([.list (s7.map V.str)]++j)) g A B O c;obtain ⟨x,hx,⟨E,k⟩,s⟩:=Ca (p:=st.length+1) (verb:=verb) (o0:=b6 (.ref r)) (o1:=b6 (.int m)) (o5:=b6 (.int (way:Int))) (o6:=b6 (.int place)) (o7:=b6 (.int (word:Int))) (o9:=b6 (.str t)) v g hT h hv;obtain ⟨b,ext,u⟩:=HG (N:=N) (d:=d) (p:=st.length+1) (o0:=b6 (.ref r)) (o1:=b6 (.int m)) (o4:=b6 (.str fam)) (o5:=b6 (.int (way:Int))) (o6:=b6 (.int place)) (o7:=b6 (.int (word:Int))) (o9:=b6 (.str t)) (o10:=b6 (.ref q)) hx c e;rw [wa (f:=gw) (ρ:= [b6 (.ref r),b6 (.int m),b8,b8,b8,b8,b8,b8,b8,b8,b8,b8,b8,b8,b8,b8,b8,b8,b8,b8,b8,b8,b8,b8,b8,b8,b8,b8,b8,b8,b8,b8,b8,b8,b8,b8]) rfl rfl rfl,show gw.body= .cons (L7 0) (.cons (L7 1) (.cons (L7 2) (.cons (L7 3) (.cons (L7 4) (.cons (L7 5) (.cons (L7 6) (.cons (L7 7) (.cons (L7 8) (.cons (L7 9) .nil))))))))) from rfl,
  n N (d+6),i,o,s N (d+6),u]
 have hz:∃y,S x b b ext=st++y:=by
  delta S;rw [k];delta Bs;exact ⟨_,by rw [e7,e7,e7]⟩
 obtain ⟨y,C⟩:=hz;rw [C];exact cG (Res.ok _) rX
def kinds10:List (List Nat):= [s!"rule",s!"set",s!"chain",s!"counter",s!"element",s!"map",s!"rule",s!"flowtable",s!"chain",s!"limit"]
def R5 (c s:List Nat):V:= .tup [.str s!"add",.str c,.str s!"ip",.str [116],.str s,.tup []]
def rc (K:List V):Prop:=∀v∈K,∃c∈kinds10,∃s,asc s∧v=R5 c s
def kindOf:V→List Nat
 | .tup (_ :: .str c :: _)=>c
 | _=> []
theorem rE {l:List V} {q:Nat} (m:st[q]?=b6 (.list l)):P7 (.ref q) st=b6 (.live q):=by
 exact i7 m
theorem keep {l:List V} {q:Nat} {L:St} (m:st[q]?=b6 (.list l)):(st++L)[q]?=b6 (.list l):=by
 rw [cg (U6.mp m).1];exact m
theorem tF {g cond:CE} {l:List V} {q:Nat} {p:V→Bool} (m:st[q]?=b6 (.list l)) (a:l.length < N) (h:N≤sizeLim)
  (c:∀x∈l,x.flat=true) (b:∀x∈l,∀acc,i4 T N Φ cond (ρ++ [b6 x]) (st++ [.list acc])= .ok (.bool (p x)) (st++ [.list acc]))
  (he:∀x∈l,∀acc,i4 T N Φ g (ρ++ [b6 x]) (st++ [.list acc])= .ok x (st++ [.list acc])) :
  V2 T N Φ g cond ρ (.ref q) st= .ok (.ref st.length) (st++ [.list (l.filter p)]):=lf (rE m) (λz z=>S5 (keep m)) a h c b he
theorem lT {slf:Option Nat} {c:CT} {body:CSs} {l:List V} {q:Nat} (m:st[q]?=b6 (.list l)):ff T N Φ slf c body ρ (.ref q) st=Ll T N Φ slf c body (Src.live q).at N 0 ρ st:=by
 delta ff;rw [rE m];rfl
def w5:List (List Nat×V):= [(s!"chain",.int 1),(s!"set",.int 2),(s!"map",.int 2),(s!"element",.int 3),(s!"rule",.int 4)]
def ey (c:List Nat):Int:=if c= s!"chain" then 1 else if c= s!"set" then 2 else if c= s!"map" then 2 else if c= s!"element" then 3 else if c= s!"rule" then 4 else 0
def E4 (k:Int) (v:V):Bool:=decide (ey (kindOf v)=k)
theorem sJ {c:List Nat}:(look? w5 c).getD (.int 0)= .int (ey c):=by
 show (if s!"chain"=c then b6 (V.int 1) else if s!"set"=c then b6 (V.int 2) else if s!"map"=c then b6 (V.int 2) else if s!"element"=c then b6 (V.int 3) else if s!"rule"=c then b6 (V.int 4) else b8).getD (.int 0)=_;delta ey;rw [t7 eq_comm,t7 (p:= s!"set"=c) eq_comm,t7 (p:= s!"map"=c) eq_comm,t7 (p:= s!"element"=c) eq_comm,t7 (p:= s!"rule"=c) eq_comm]
 repeat' split
 all_goals rfl
theorem na {L:St} {i:Nat}:(st++L)[st.length+i]?=L[i]?:=kb
theorem gL {L:St}:(st++L)[st.length]?=L[0]?:=kb (k:=0)
def AU:CSs:= .cons (.ite (.cmp1 .eq (.bm .get (.loc 1) (.cons (.sub (.loc 4) (.cst (.int 1))) (.cons (.cst (.int 0)) .nil))) (.loc 3)) (.cons (.expr (.bm .append (.loc 2) (.cons (.loc 4) .nil))) .nil) .nil) .nil
abbrev kp (q m:Nat) (o3 o4:Option V):Loc:= [b6 (.ref q),b6 (.ref m),b6 (.ref (m+1)),o3,o4]
theorem zA {q:Nat} {k:Int} {acc:List V} {c:List Nat} {s:List Nat} (f:acc.length < 1000) :
  cSs b7.tabs (N+1) Φ b8 AU (kp q st.length (b6 (.int k)) (b6 (R5 c s))) (st++ [.dict w5,.list acc]) KO
   =KO (.next (kp q st.length (b6 (.int k)) (b6 (R5 c s))) (st++ [.dict w5,.list (acc++bif E4 k (R5 c s) then [R5 c s] else [])])):=by
 have h1:∀st,s8 (R5 c s) (.int 1) st= .ok (.str c) st:=λz=>rfl;have b:o8 .get (.ref st.length) [.str c,.int 0] (st++ [.dict w5,.list acc])= .ok (.int (ey c)) (st++ [.dict w5,.list acc]):=by
  rw [gP,gL];show Res.ok ((look? w5 c).getD (.int 0)) _=_;rw [sJ]
 have o:Q5 .get (.ref st.length) (st++ [.dict w5,.list acc])=true:=by
  rw [aD,gL];rfl
 have d:Q5 .append (.ref (st.length+1)) (st++ [.dict w5,.list acc])=true:=by
  rw [ql,na];rfl
 have e:o8 .append (.ref (st.length+1)) [R5 c s] (st++ [.dict w5,.list acc])= .ok .none (st++ [.dict w5,.list (acc++ [R5 c s])]):=by
  refine (i7 na).trans ?_;show (if acc.length < sizeLim∧(R5 c s).flat=true then Res.ok .none ((st++ [AObj.dict w5,AObj.list acc]).set (st.length+1) (.list (acc++ [R5 c s]))) else .stuck)=_;rw [iP ⟨M6 f (by decide),rfl⟩,dY _ _ (A7 ..),dR];rfl
 simp only [AU];wp_walk using h1,b,o,d,e;by_cases h:ey c=k
 ·rw [iP h,show E4 k (R5 c s)=true from decide_eq_true h];rfl
 ·rw [iN h,show E4 k (R5 c s)=false from decide_eq_false h];exact cG (λa=>KO (.next _ (st++ [AObj.dict w5,AObj.list a]))) (P0 acc).symm
theorem ez {p:V→Bool} {l:List V}:(l.filter p).length≤l.length:=FY _ _
theorem iL {K:List V} {q:Nat} {k:Int} (hK:rc K) (m:st[q]?=b6 (.list K)):∀(r:List V) (f j:Nat) (acc:List V) (o4:Option V),K.drop j=r→r.length < f→acc.length+r.length≤1000→∃b,
  Ll b7.tabs (N+1) Φ b8 (.name 4) AU (Src.live q).at f j (kp q st.length (b6 (.int k)) o4) (st++ [.dict w5,.list acc])
   = .next (kp q st.length (b6 (.int k)) b) (st++ [.dict w5,.list (acc++r.filter (E4 k))])
 | _,0,_,_,_,_,h,_=>absurd h (P9 _)
 | [],f+1,j,acc,o4,hdL,_,_=>⟨o4,by
  rw [au ((S5 (keep m)).trans (by rw [Y3 hdL]))];exact cG (λa=>Out.next _ (st++ [AObj.dict w5,AObj.list a])) (P0 acc).symm⟩
 | v :: r,f+1,j,acc,o4,hdL,i,d=>by
  have hv:=(D2 hdL).1;obtain ⟨n,l⟩:=U6.mp hv;obtain ⟨c,_,s,_,rfl⟩:=hK v (l▸dX n);have d:acc.length+1+r.length≤1000:=by rw [A2,G3 1];exact d
  have g:(bif E4 k (R5 c s) then [R5 c s] else []).length≤1:=by cases E4 k (R5 c s) <;> first | exact T3 1 | exact i0 1
  obtain ⟨b,e⟩:=iL hK m r f (j+1) (acc++bif E4 k (R5 c s) then [R5 c s] else []) (b6 (R5 c s)) (D2 hdL).2 (Z7 i) (d3 (T1 (af (i0 _) g) _) d);refine ⟨b,cV (KO:=id) (x:=R5 c s) (ρ':=kp q st.length (b6 (.int k)) (b6 (R5 c s))) ((S5 (keep m)).trans (by rw [hv])) rfl ?_⟩;rw [zA (M6 (oC _) (d3 (A7 ..) d)),dq,id,e,e7,dU]
  cases E4 k (R5 c s) <;> rfl
def yJ:CSs:= .cons (.for (.name 4) (.loc 0) AU) .nil
theorem ip {K:List V} {q:Nat} (hK:rc K) (f:K.length≤8) (m:st[q]?=b6 (.list K)) (g:299≤N):∀(L:List Int) (acc:List V) (o3 o4:Option V),acc.length+L.length*8≤100→∃b c,
  Fl b7.tabs (N+1) Φ b8 (.name 3) yJ (L.map V.int) (kp q st.length o3 o4) (st++ [.dict w5,.list acc])
   = .next (kp q st.length b c) (st++ [.dict w5,.list (acc++L.flatMap λk=>K.filter (E4 k))])
 | [],acc,o3,o4,_=>⟨o3,o4,cG (λa=>Out.next _ (st++ [AObj.dict w5,AObj.list a])) (P0 acc).symm⟩
 | k :: L,acc,o3,o4,h=>by
  have h:acc.length+8+L.length*8≤100:=by rw [G2,lX,G3 (L.length*8),← A2] at h;exact h
  obtain ⟨o,e⟩:=iL (N:=N) (Φ:=Φ) (k:=k) hK m K (N+1) 0 acc o4 rfl (J7 f (by omega)) (d3 (X3 f _) (d3 (A7 ..) (d3 h (by decide))));obtain ⟨b,c,i⟩:=ip hK f m g L (acc++K.filter (E4 k)) (b6 (.int k)) o (d3 (T1 (af (i0 _) (d3 ez f)) _) h);refine ⟨b,c,iX (KO:=id) (ρ':=kp q st.length (b6 (.int k)) o4) rfl ?_⟩;have d:ff b7.tabs (N+1) Φ b8 (.name 4) AU (kp q st.length (b6 (.int k)) o4) (.ref q) (st++ [.dict w5,.list acc])=_:=(lT (keep m)).trans e;have step:∀K':Out→Out,cSs b7.tabs (N+1) Φ b8 yJ (kp q st.length (b6 (.int k)) o4) (st++ [.dict w5,.list acc]) K'=K' _:=λK'=>cG K' d;rw [step,dx,id,i,e7];rfl
theorem zV {K:List V} {q:Nat} (hK:rc K) (b:K.length≤8) (m:st[q]?=b6 (.list K)) (h:299≤N) :
  c0 b7 (N+1) (d+1) 582 [.ref q] st= .ok (.ref (st.length+1)) (st++ [.dict w5,.list (([0,1,2,3,4]:List Int).flatMap λk=>K.filter (E4 k))]):=by
 obtain ⟨o3,o4,e⟩:=ip (N:=N) (Φ:=c0 b7 (N+1) d) hK b m h [0,1,2,3,4] [] b8 b8 (by decide);have a:∀ρ st,ff b7.tabs (N+1) (c0 b7 (N+1) d) b8 (.name 3) yJ ρ (.tup [.int 0,.int 1,.int 2,.int 3,.int 4]) st=Fl b7.tabs (N+1) (c0 b7 (N+1) d) b8 (.name 3) yJ (([0,1,2,3,4]:List Int).map V.int) ρ st:=λρ st=>lw.trans<|R0 (f:=N+1) (M6 (show 5 < 299 by decide) (fy h))
 have n:(st++ [AObj.dict w5]).length=st.length+1:=u3;have c:∀x y:St,st++x++y=st++(x++y):=λz z=>e7 ..;rw [d6 tB 4 rfl];rw [show tB.body= .cons (d2 tB.body 0) (.cons (d2 tB.body 1) (.cons (.for (.name 3) (.tup (.cons (.cst (.int 0)) (.cons (.cst (.int 1)) (.cons (.cst (.int 2)) (.cons (.cst (.int 3)) (.cons (.cst (.int 4)) .nil)))))) yJ) (.cons (d2 tB.body 3) .nil))) from rfl];generalize yJ=W at a e ⊢;wp_walk using tB,d2,show E6 [.str s!"chain",.int 1,.str s!"set",.int 2,.str s!"map",.int 2,.str s!"element",.int 3,.str s!"rule",.int 4] st= .ok (.ref st.length) (st++ [.dict w5]) from rfl,n,c,C5,H1,a,e
 rfl
def Y7:List (List (List Nat)):= [[s!"counter",s!"flowtable",s!"limit"],[s!"chain"],[s!"set",s!"map"],[s!"element"],[s!"rule"]]
def bo (g:List (List Nat)) (v:V):Bool:=decide (kindOf v∈g)
theorem tm {K:List V} (hK:rc K):(([0,1,2,3,4]:List Int).flatMap λk=>K.filter (E4 k))=Y7.flatMap λg=>K.filter (bo g):=by
 have h:∀(k:Int) (g:List (List Nat)),(∀c∈kinds10,decide (ey c=k)=decide (c∈g))→K.filter (E4 k)=K.filter (bo g):=λk g O=>by
  refine List.filter_congr λv hv=>?_;obtain ⟨c,a,s,_,rfl⟩:=hK v hv;exact O c a
 show K.filter (E4 0)++(K.filter (E4 1)++(K.filter (E4 2)++(K.filter (E4 3)++(K.filter (E4 4)++ []))))=_;rw [h 0 [s!"counter",s!"flowtable",s!"limit"] (by decide),h 1 [s!"chain"] (by decide),h 2 [s!"set",s!"map"] (by decide),h 3 [s!"element"] (by decide),h 4 [s!"rule"] (by decide)];rfl
def ug (n i:Int):List Nat:=ph kinds10 (Af (i+rO n (10 ^ i.toNat)) 10)
def rk (n:Int):V→V
 | .int i=>R5 (ug n i) ([110]++p6 i)
 | _=> .none
theorem Aa {n i:Int}:ug n i∈kinds10:=gF (xt _ (by decide)) (wX _ (by decide))
theorem n8:∀k < 8,asc ([110]++p6 ((k:Nat):Int))∧(p6 ((k:Nat):Int)).length≤5∧0 < (10:Int) ^ k∧(10:Int) ^ k < 1000000000:=by decide
theorem Pq:∀y∈n4 0 8,∃k:Nat,k < 8∧y= .int (k:Int):=by
 intro y a;obtain ⟨k,O,rfl⟩:=O1.mp a;exact ⟨k,List.mem_range.mp O,cG V.int (Int.zero_add _)⟩
theorem Iw:rc ((n4 0 8).map (rk n)):=by
 intro v hv;obtain ⟨y,a,rfl⟩:=O1.mp hv;obtain ⟨k,O,rfl⟩:=Pq y a;exact ⟨_,Aa,_,(n8 k O).1,rfl⟩
def Jd:CE:= .tup (.cons (.cst (.str s!"add")) (.cons (.sub (.loc 1) (.bin .mod (.bin .add (.loc 7) (.bin .fdiv (.loc 0) (.bin .pow (.cst (.int 10)) (.loc 7)))) (.cst (.int 10)))) (.cons (.cst (.str s!"ip")) (.cons (.cst (.str [116])) (.cons (.bin .add (.cst (.str [110])) (.call (.cst (.bi .str)) (.cons (.loc 7) .nil))) (.cons (.tup .nil) .nil))))))
theorem yX (q:299≤N) (b:N≤700):S6 b7.tabs (N+1) Φ Jd [b6 (.int n),b6 (.ref 0),b8,b8,b8,b8,b8] (.range 0 8) [.list (kinds10.map V.str)]
  = .ok (.ref 1) [.list (kinds10.map V.str),.list ((n4 0 8).map (rk n))]:=by
 refine qM (l:=n4 0 8) rfl (M6 (show 8 < 299 by decide) (fy q)) (d3 (Z1 b) (by decide)) (λy c=>?_) (λy c acc=>?_)
 ·obtain ⟨k,O,rfl⟩:=Pq y c;rfl
 ·obtain ⟨k,O,rfl⟩:=Pq y c;obtain ⟨_,d,o,g⟩:=n8 k O;have f:k≤7:=QF O;have p:∀st,u6 .pow (.int 10) (.int (k:Int)) st= .ok (.int (10 ^ k)) st:=λst=>iP (decide_eq_true ⟨V3 k,fx.mpr (d3 f (by decide)),by decide,by decide⟩);have e:∀acc,s8 (.ref 0) (.int (Af ((k:Int)+rO n (10 ^ k)) 10)) [.list (kinds10.map V.str),.list acc]= .ok (.str (ug n k)) [.list (kinds10.map V.str),.list acc]:=λacc=>cv (cs:=kinds10) (by decide) (xt _ (by decide)) (wX _ (by decide)) rfl;have h:∀st,A1 .str [.int (k:Int)] st= .ok (.str (p6 k)) st:=λst=>iP (aH (j:=3) (J7 f (by decide)) (by decide));rw [iZ];simp only [Jd];wp_walk using C5,H1,p,λst=>sO (st:=st) (i:=n) o g,λst=>qp (st:=st) (i:=(k:Int)+rO n (10 ^ k)) (m:=10) (by decide),e,h,e9 (a:= [110]) (m:=1) (by decide) d;rfl
def yA:CSs:= .cons (.set (.name 3) (.bin .add (.loc 3) (.compIf (.loc 7) (.loc 2) (.cmp1 .isin (.sub (.loc 7) (.cst (.int 1))) (.loc 4))))) .nil
abbrev tE (n:Int) (j:Nat) (o4:Option V):Loc:= [b6 (.int n),b6 (.ref 0),b6 (.ref 1),b6 (.ref j),o4,b8,b8]
theorem tY {K:List V} {j:Nat} {D:List V} {g:List (List Nat)} (hK:rc K) (f:K.length≤8) (m:st[1]?=b6 (.list K)) (hD:st[j]?=b6 (.list D)) (h:D.length≤100) (d:299≤N) (b:N≤700) :
  cSs b7.tabs (N+1) Φ b8 yA (tE n j (b6 (.tup (g.map V.str)))) st KO
   =KO (.next (tE n (st.length+1) (b6 (.tup (g.map V.str)))) (st++ [.list (K.filter (bo g)),.list (D++K.filter (bo g))])):=by
 have i:V2 b7.tabs (N+1) Φ (.loc 7) (.cmp1 .isin (.sub (.loc 7) (.cst (.int 1))) (.loc 4)) (tE n j (b6 (.tup (g.map V.str)))) (.ref 1) st= .ok (.ref st.length) (st++ [.list (K.filter (bo g))]):=by
  refine tF m (J7 f (M6 (show 8 < 299 by decide) (fy d))) (d3 (Z1 b) (by decide)) (λy a=>?_) (λy a acc=>?_) (λy a acc=>rfl)
  ·obtain ⟨c,_,s,_,rfl⟩:=hK y a;rfl
  ·obtain ⟨c,_,s,_,rfl⟩:=hK y a;rw [iZ];wp_walk using C5,H1,show ∀st,s8 (R5 c s) (.int 1) st= .ok (.str c) st from λz=>rfl
   rfl
 have e:u6 .add (.ref j) (.ref st.length) (st++ [.list (K.filter (bo g))])= .ok (.ref (st.length+1)) (st++ [.list (K.filter (bo g)),.list (D++K.filter (bo g))]):=by
  refine (i7 (keep hD)).trans ((i7 gL).trans ?_);refine (iP (d3 (dJ h (d3 ez f)) (by decide))).trans ?_;rw [e7,u3];rfl
 simp only [yA];wp_walk using i,e
def zD (g:List (List Nat)):V:= .tup (g.map V.str)
def lh (K:List V):St:= [.list (kinds10.map V.str),.list K,.list [],.list (Y7.map zD)]
theorem fA {K:List V} (hK:rc K) (l:K.length≤8) (m:299≤N) (i:N≤700):∀(r:List (List (List Nat))) (f j c:Nat) (o4:Option V) (st:St) (D:List V),Y7.drop j=r→r.length < f→st[1]?=b6 (.list K)→st[3]?=b6 (.list (Y7.map zD))→st[c]?=b6 (.list D)→D.length+r.length*8≤100→
  ∃(d:Nat) (o:Option V) (J:St),(st++J)[d]?=b6 (.list (D++r.flatMap λg=>K.filter (bo g)))∧Ll b7.tabs (N+1) Φ b8 (.name 4) yA (Src.live 3).at f j (tE n c o4) st= .next (tE n d o) (st++J)
 | _,0,_,_,_,_,_,_,h,_,_,_,_=>absurd h (P9 _)
 | [],f+1,j,c,o4,st,D,hdL,_,_,k,hD,_=>⟨c,o4,[],by rw [P0,hD];exact cG (λa=>b6 (AObj.list a)) (P0 D).symm,by
  rw [au ((S5 k).trans (by rw [br,Y3 hdL];rfl)),P0]⟩
 | g :: r,f+1,j,c,o4,st,D,hdL,p,h1,k,hD,b=>by
  have b:D.length+8+r.length*8≤100:=by rw [G2,lX,G3 (r.length*8),← A2] at b;exact b
  obtain ⟨d,o,J,u,e⟩:=fA hK l m i r f (j+1) (st.length+1) (b6 (zD g)) (st++ [.list (K.filter (bo g)),.list (D++K.filter (bo g))]) (D++K.filter (bo g)) (D2 hdL).2 (Z7 p) (keep h1) (keep k) na (d3 (T1 (af (i0 _) (d3 ez l)) _) b);refine ⟨d,o,[.list (K.filter (bo g)),.list (D++K.filter (bo g))]++J,by rw [← e7,u,e7];rfl,cV (KO:=id) (x:=zD g) (ρ':=tE n c (b6 (zD g))) ((S5 k).trans (by rw [br,(D2 hdL).1];rfl)) rfl ?_⟩;rw [show zD g= .tup (g.map V.str) from rfl,tY hK l h1 hD (d3 (d3 (A7 ..) (A7 ..)) b) m i,dq,id];refine e.trans ?_;rw [e7]
theorem lA {D:Nat}:∀{L:List V},(∀v∈L,v.data D=true)→V.datas D L=true
 | [],_=>t8
 | v :: L,h=>d8 (h v (D6 ..)) (lA λv hv=>h v (F1 _ hv))
theorem oK:∀c∈kinds10,asc c:=by decide
theorem Ax {K:List V} (hK:rc K):∀v∈K,v.data 20=true:=by
 intro v hv;obtain ⟨c,a,s,hs,rfl⟩:=hK v hv;exact w3 (d8 (r9 (by decide)) (d8 (r9 (oK c a)) (d8 (r9 (by decide)) (d8 (r9 (by decide)) (d8 (r9 hs) (d8 (w3 t8) t8))))))
theorem zT {i j:Nat} {F:List V} (h1:st[i]?=b6 (.list F)) (c:st[j]?=b6 (.list F)) (a:V.datas 20 F=true):l7 st .eq (.ref i) (.ref j)=b6 true:=by
 refine (i7 h1).trans ((i7 c).trans ?_);show (if V.datas 20 F&&V.datas 20 F then b6 (V.beqs F F) else b8)=_;rw [a,show V.beqs F F=true from pf (.tup F) 21 (w3 a)];rfl
theorem ud (k:299≤N) (a:N≤700):c0 b7 (N+1) (d+2) 962 [.int n] st= .ok (.bool true) st:=by
 have e:=yX (n:=n) (Φ:=c0 b7 (N+1) (d+1)) k a;have hK:=Iw (n:=n);have o:((n4 0 8).map (rk n)).length≤8:=w2 ((u7 (rk n)).trans rfl);generalize (n4 0 8).map (rk n)=K at e hK o;obtain ⟨s,o4,J,c,p⟩:=fA (n:=n) (Φ:=c0 b7 (N+1) (d+1)) hK o k a Y7 (N+1) 0 2 b8 (lh K) [] rfl (M6 (show 5 < 299 by decide) (fy k)) rfl rfl rfl (by decide);have j:=zV (N:=N) (d:=d) (st:=lh K++J) (q:=1) hK o (keep rfl) k;have m:V.datas 20 (Y7.flatMap λg=>K.filter (bo g))=true:=lA λv hv=>by
  obtain ⟨g,_,hv⟩:=List.mem_flatMap.mp hv;exact Ax hK v ((xB.mp hv).1)
 rw [tm hK] at j;rw [H1] at c;have h:=zT (na (st:=lh K++J) (L:= [.dict w5,.list _]) (i:=1)) (keep c) m;have l:ff b7.tabs (N+1) (c0 b7 (N+1) (d+1)) b8 (.name 4) yA (tE n 2 b8) (.ref 3) (lh K)=_:=(lT rfl).trans p;generalize (Y7.flatMap λg=>K.filter (bo g))=F at j h;rw [bz (f:=sZ) (ρ:= [b6 (.int n),b8,b8,b8,b8,b8,b8]) rfl rfl rfl];rw [show sZ.body= .cons (d2 sZ.body 0) (.cons (.set (.name 2) (.comp Jd (.call (.cst (.bi .range)) (.cons (.cst (.int 8)) .nil)))) (.cons (d2 sZ.body 2) (.cons (.for (.name 4) (.list (.cons (.tup (.cons (.cst (.str s!"counter")) (.cons (.cst (.str s!"flowtable")) (.cons (.cst (.str s!"limit")) .nil)))) (.cons (.tup (.cons (.cst (.str s!"chain")) .nil)) (.cons (.tup (.cons (.cst (.str s!"set")) (.cons (.cst (.str s!"map")) .nil))) (.cons (.tup (.cons (.cst (.str s!"element")) .nil)) (.cons (.tup (.cons (.cst (.str s!"rule")) .nil)) .nil)))))) yA) (.cons (d2 sZ.body 4) .nil)))) from rfl];have b:lh K= [.list [.str s!"rule",.str s!"set",.str s!"chain",.str s!"counter",.str s!"element",.str s!"map",.str s!"rule",.str s!"flowtable",.str s!"chain",.str s!"limit"],.list K,.list [],.list [(.tup [.str s!"counter",.str s!"flowtable",.str s!"limit"]),(.tup [.str s!"chain"]),(.tup [.str s!"set",.str s!"map"]),(.tup [.str s!"element"]),(.tup [.str s!"rule"])]]:=rfl;have e:S6 _ _ _ _ _ _ [.list [.str s!"rule",.str s!"set",.str s!"chain",.str s!"counter",.str s!"element",.str s!"map",.str s!"rule",.str s!"flowtable",.str s!"chain",.str s!"limit"]]=Res.ok _ [.list [.str s!"rule",.str s!"set",.str s!"chain",.str s!"counter",.str s!"element",.str s!"map",.str s!"rule",.str s!"flowtable",.str s!"chain",.str s!"limit"],.list K]:=e;generalize yA=W at l ⊢;generalize Jd=r at e ⊢;generalize lh K=B at b l j h;wp_walk using sZ,d2,V6 (i:=8) (by decide) (by decide),e,H1,C5,O2,G2,Nat.reduceAdd,(b).symm,l,j,h
def qe:List (List Int):= [[0,0,0,0,0,1,4,1,2],[1,1,0,0,0,1,2,0,0,1,1,2],[2,2,0,0,0,5,0,0,1,1,2,2,3,0,4,1],[3,0,0,0,0,1,1,2,1,3],[4,0,0,0,0,1,3,1,2],[5,1,0,0,0,7,1,1],[6,0,0,0,0,2,0,1,2,1,3],[0,3,0,0,0,0,0,0,8]]
def K3 (ns:List Int):St:= [.list (ns.map V.int)]++qe.map (λr=>AObj.list (r.map V.int))++ [.list [.ref 1,.ref 2,.ref 3,.ref 4,.ref 5,.ref 6,.ref 7,.ref 8]]
theorem DU {ns:List Int}:c0 b7 (N+1) (d+1) 610 [] [.list (ns.map V.int)]= .ok (.ref 9) (K3 ns):=rfl
theorem wT:∀{L:List V},(∀v∈L,∃i,v= .int i)→∃is,ints? L=b6 is
 | [],_=>⟨[],rfl⟩
 | v :: L,h=>by
  obtain ⟨i,rfl⟩:=h v (D6 ..);obtain ⟨is,e⟩:=wT (L:=L) λv hv=>h v (F1 _ hv);exact ⟨i :: is,cG (λr=>r.map (FK i)) e⟩
theorem pU:∀{ns:List Int},ints? (ns.map V.int)=b6 ns
 | []=>rfl
 | i :: _=>cG (λr=>r.map (FK i)) pU
theorem vU {q:Nat} {L:List V} {is:List Int} (m:st[q]?=b6 (.list L)) (h:ints? L=b6 is) (f:L.length≤1000):A1 .sum [.ref q] st= .ok (.int is.sum) st:=by
 refine (i7 m).trans ?_;rw [h];exact iP f
theorem zl {ns:List Int} {k:Nat}:∃is,ints? (bu 8 k (ns.map V.int))=b6 is:=by
 refine wT λv hv=>?_;obtain ⟨j,_,a⟩:=Le.mp hv;obtain ⟨i,_,e⟩:=O1.mp (xq a);exact ⟨i,e.symm⟩
theorem CQ {ns:List Int} {k:Nat} (g:ns.length≤63):(bu 8 k (ns.map V.int)).length≤1000:=by
 refine d3 (KZ _ _) ?_;rw [u7,FM,u7]
 split <;> omega
theorem ur:∀r∈qe,r.length≤1000:=by decide
def zC:CSs:= .cons (.ite (.not (.call (.cst (.fn 957)) (.cons (.loc 2) (.cons (.call (.cst (.bi .sum)) (.cons (.slice (.loc 0) (.loc 1) (.cst .none) (.cst (.int 8))) .nil)) .nil)))) (.cons (.ret (.cst (.bool false))) .nil) .nil) .nil
abbrev Et (o1 o2:Option V):Loc:= [b6 (.ref 0),o1,o2,b8,b8,b8,b8,b8]
theorem Bu {ns:List Int} {k:Nat} {J:St} (g:ns.length≤63) (O:k < 8) :
  cSs b7.tabs 300 (c0 b7 300 14) b8 zC (Et (b6 (.int (k:Int))) (b6 (.ref (k+1)))) (K3 ns++J) KO
   =KO (.next (Et (b6 (.int (k:Int))) (b6 (.ref (k+1)))) (K3 ns++(J++ [.list (bu 8 k (ns.map V.int))]))):=by
 obtain ⟨is,f⟩:=zl (ns:=ns) (k:=k);have h1:I9 (.ref 0) (.int (k:Int)) .none (.int 8) (K3 ns++J)= .ok (.ref (K3 ns++J).length) (K3 ns++J++ [.list (bu 8 k (ns.map V.int))]):=
  (iP (by rw [u7];exact d3 g (by decide))).trans (show (if 0 < (8:Int)∧0≤(k:Int) then Res.ok (.ref (K3 ns++J).length) (K3 ns++J++ [.list (bu 8 k (ns.map V.int))]) else Res.stuck)=_ from iP ⟨by decide,V3 k⟩)
 have c:=vU (gL (st:=K3 ns++J) (L:= [.list (bu 8 k (ns.map V.int))])) f (CQ g);have j:∀L,(K3 ns++L)[k+1]?=(qe.map (λr=>AObj.list (r.map V.int)))[k]?:=λL=>by
  show (qe.map (λr=>AObj.list (r.map V.int))++ [AObj.list [.ref 1,.ref 2,.ref 3,.ref 4,.ref 5,.ref 6,.ref 7,.ref 8]]++L)[k]?=_;rw [e7,cg O]
 have h:k < qe.length:=O;rw [br,bt h] at j;have e:=zL (N:=299) (d:=2) (m:=is.sum) (j (J++ [.list (bu 8 k (ns.map V.int))])) (ur _ (dX h)) (by decide) (by decide);rw [← e7] at e ⊢;simp only [zC];generalize K3 ns++J=B at h1 c e ⊢;wp_walk using h1,c,e
def Kq:List V:= [.ref 1,.ref 2,.ref 3,.ref 4,.ref 5,.ref 6,.ref 7,.ref 8]
theorem Cg:∀k < 8,Kq[k]?=b6 (.ref (k+1))
 | 0,_=>rfl
 | 1,_=>rfl
 | 2,_=>rfl
 | 3,_=>rfl
 | 4,_=>rfl
 | 5,_=>rfl
 | 6,_=>rfl
 | 7,_=>rfl
 | _+8,h=>by omega
def IP:CT:= .tup (.cons (.name 1) (.cons (.name 2) .nil))
theorem qu {ns:List Int} (g:ns.length≤63):∀(r f k:Nat) (o1 o2:Option V) (J:St),k+r=8→r < f→∃(o a:Option V) (c:St),
  Ll b7.tabs 300 (c0 b7 300 14) b8 IP zC (lz 9) f k (Et o1 o2) (K3 ns++J)= .next (Et o a) (K3 ns++c)
 | _,0,_,_,_,_,_,h=>absurd h (P9 _)
 | 0,f+1,k,o1,o2,J,O,_=>⟨o1,o2,J,by obtain rfl:k=8:=O;exact au rfl⟩
 | r+1,f+1,k,o1,o2,J,O,d=>by
  have b:k < 8:=O▸Lf (uZ r);obtain ⟨o,a,c,e⟩:=qu g r f (k+1) (b6 (.int (k:Int))) (b6 (.ref (k+1))) (J++ [.list (bu 8 k (ns.map V.int))]) (by rw [A2,G3 1];exact O) (Z7 d);refine ⟨o,a,c,cV (KO:=id) (x:= .tup [.int k,.ref (k+1)]) (ρ':=Et (b6 (.int (k:Int))) (b6 (.ref (k+1)))) (oX (l:=Kq) rfl (Cg k b)) rfl ?_⟩;rw [Bu g b,dq,id,e]
theorem HM {T:Tabs} {slf:Option Nat} {c:CT} {body:CSs} {e:CE} {q:Nat} {l:List V} {st':St} (he:i4 T N Φ e ρ st= .ok (.ref q) st') (m:st'[q]?=b6 (.list l)):exec T N Φ slf (.forEnum c e body) ρ st=Ll T N Φ slf c body (lz q) N 0 ρ st':=by
 show (i4 T N Φ e ρ st).bindO ρ _=_;rw [he];exact i7 m
theorem the_law (ns:List Int) (g:ns.length≤63):∃st',execs b7.tabs 300 (c0 b7 300 14) b8 (match nG.body with | .cons _ r=>r | .nil=> .nil) (b6 (.ref 0) :: dW 7 b8) [.list (ns.map .int)]= .ret (.bool true) st':=by
 obtain ⟨o1,o2,J,e⟩:=qu g 8 300 0 b8 b8 [] rfl (by decide);rw [P0] at e;have b:c0 b7 300 14 610 [] [.list (ns.map V.int)]= .ok (.ref 9) (K3 ns):=DU (N:=299) (d:=13);have a:i4 b7.tabs 300 (c0 b7 300 14) (.call (.cst (.fn 610)) .nil) [b6 (.ref 0),b8,b8,b8,b8,b8,b8,b8] [.list (ns.map V.int)]= .ok (.ref 9) (K3 ns):=by
  rw [iZ];wp_walk using b
 have hx:exec b7.tabs 300 (c0 b7 300 14) b8 (.forEnum IP (.call (.cst (.fn 610)) .nil) zC) [b6 (.ref 0),b8,b8,b8,b8,b8,b8,b8] [.list (ns.map V.int)]=_:=(HM a rfl).trans e;have es:A1 .sum [.ref 0] (K3 ns++J)= .ok (.int ns.sum) (K3 ns++J):=vU rfl pU (by rw [u7];exact d3 g (by decide));refine ⟨K3 ns++J,?_⟩;have h:(match nG.body with | .cons _ r=>r | .nil=> .nil)= .cons (.forEnum IP (.call (.cst (.fn 610)) .nil) zC) (.cons (d2 nG.body 2) .nil):=rfl;rw [h,show (b6 (V.ref 0) :: dW 7 b8)= [b6 (V.ref 0),b8,b8,b8,b8,b8,b8,b8] from rfl,Vi];generalize zC=W at hx ⊢;generalize IP=S at hx ⊢;generalize K3 ns++J=B at hx es ⊢;wp_walk using nG,d2,Dd,hx,es,show ∀st,u6 .pow (.int 10) (.int 8) st= .ok (.int 100000000) st from λz=>rfl,λst=>qp (st:=st) (i:=ns.sum) (m:=100000000) (by decide),λm st=>show c0 b7 300 14 962 [.int m] st= .ok (.bool true) st from ud (N:=299) (d:=12) (by decide) (by decide)
end
end Mine.Internal
theorem PySem.Challenge.cw_pq1113_01_holds : PySem.Challenge.rw_pq1113_01.Holds := by
  exact Mine.Internal.claim_of Mine.Internal.the_law
