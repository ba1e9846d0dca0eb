import PyProof.Rows.All
import HandS.ForMost
import HandS.ForExc
import HandS.Codes
import HandS.Lambda
import HandS.TupAny
import HandS.TupMul
import HandS.Deep
import KE.SortData
import KE.DataCmp
import HandS.IsInst
import HandS.SortRule
import PyProof.Rows.SortStr
import HandS.StrMore
import PyProof.Rows.StrCut
import HandS.Replace
import HandS.RaiseMore
import HandS.Flow
import HandS.Star
import HandS.More
import HandS.Exc
import HandS.ExcCtx
import HandS.Defaults
import KE.KExcSuper
import HandS.ExcInit
import HandS.ExcSuper
import HandS.ExcInitHot
import HandS.TryMany
import KE.KDflt
import HandS.Iter
import KE.GoesEnum
import HandS.Comp
import HandS.TryOnly
import HandS.ExcField
import HandS.Style
import HandS.HotCalls
import HandS.Property
import HandS.ClsMeth
import HandS.HeadNt
import HandS.FStr
import OpenK.KOps
import HandS.GenList
import HandS.GenYield
import HandS.DictComp
import HandS.Set
import HandS.TupSets
import HandS.SetKeys
import HandS.DictTup
import HandS.SetBool
import PyProof.RulesMatch
import HandS.Conv
import KE.SortKeyHeap
import HandS.SortKw
import KE.KWithOwn
import HandS.Finally
import HandS.SuiteRaise
import HandS.RaiseFrom
import HandS.Ends
import HandS.EndTab
import HandS.HeadHook1
import HandS.HeadHook2
import KE.KNestM
import PyProof.InstStoreFacts
import PyProof.ExcBaseAll.ValueError
import PyProof.ExcBaseAll.LookupError
import PyProof.ExcBaseAll.IndexError
import KE.KExcInit
import HandS.HeadHook3
import PyProof.FString
import HandS.Head0
import HandS.Head1
import HandS.Head2
import Open.Row
import PySem.Challenge.RW_rivalkeys_k56_keys_that_are_near
set_option Elab.async false
set_option linter.all false
set_option maxRecDepth 100000
/-! Rk.A:plain data,a small language,its evaluator. -/
namespace Rk
def Zaa:=@Bool.and_eq_true
def Zab:=@decide_eq_true_eq
def Zac:=@List.length_map
def Zad:=@List.getElem?_eq_getElem
def Zae:=@List.length_cons
def Zaf:=@List.mem_cons_of_mem
def Zag:=@List.mem_cons_self
def Zah:=@List.mem_map
def Zai:=@Nat.le_refl
def Zaj:=@List.all_eq_true
def Zak:=@List.mem_cons
def Zal:=@List.length_append
def Zam:=@List.mem_append_left
def Zan:=@Option.map_eq_some_iff
def Zao:=@List.mem_of_getElem?
def Zap:=@List.map_cons
def Zaq:=@List.getElem?_cons_succ
def Zar:=@List.mem_singleton
def Zas:=@List.set_cons_zero
def Zat:=@List.length_nil
def Zau:=@Bool.false_eq_true
def Zav:=@List.set_cons_succ
def Zaw:=@List.append_nil
def Zax:=@List.contains_iff_mem
def Zay:=@List.getElem?_eq_some_iff
def Zaz:=@Option.map_some
def ZaA:=@List.getElem?_cons_zero
def ZaB:=@beq_self_eq_true
def ZaC:=@of_decide_eq_true
def ZaD:=@List.mem_append_right
def ZaE:=@Option.bind_some
def ZaF:=@List.cons_append
def ZaG:=@List.nil_append
def ZaH:=@List.mem_append
def ZaI:=@Nat.le_trans
def ZaJ:=@decide_eq_true
def ZaK:=@List.getElem?_map
def ZaL:=@List.eq_nil_of_length_eq_zero
def ZaM:=@Bool.not_true
def ZaN:=@List.mem_range
def ZaO:=@decide_eq_false
def ZaP:=@Bool.or_eq_true
def ZaT:=@Nat.lt_of_lt_of_le
def ZaU:=@beq_eq_false_iff_ne
def ZaV:=@Bool.eq_iff_iff
def ZaW:=@List.map_nil
def ZaX:=@List.forall_mem_cons
def ZaY:=@Bool.and_eq_true_iff
def ZaZ:=@List.lookup_cons
def Za0:=@List.length_take
def Za3:=@Option.isNone_iff_eq_none
def Za8:=@Option.isSome_some
def Za9:=@Option.bind_eq_some_iff
def Zbc:=@Nat.lt_succ_self
def Zbe:=@List.getElem?_append_left
def Zbf:=@Bool.not_false
def Zbg:=@Nat.ne_of_lt
def Zbi:=@beq_iff_eq
def Zbj:=@List.mem_filter
def Zbl:=@Option.map_none
def Zbm:=@List.drop_eq_getElem_cons
def Zbn:=@Nat.not_lt_of_le
def Zbr:=@Nat.lt_of_le_of_lt
def Zbs:=@List.map_append
def Zbt:=@Nat.zero_add
def Zbu:=@List.filter_cons
def Zby:=@List.length_range
def Zbz:=@Bool.not_eq_true'
def ZbA:=@List.all_cons
def ZbD:=@List.pairwise_cons
def ZbE:=@Nat.le_succ
def ZbH:=@List.append_assoc
def ZbI:=@List.getElem?_set_self
def ZbO:=@List.not_mem_nil
def ZbP:=@List.length_drop
def ZbQ:=@List.length_replicate
def ZbR:=@List.getElem?_eq_none
def ZbS:=@Int.emod_lt_of_pos
def ZbY:=@Nat.lt_of_succ_lt
def ZbZ:=@Nat.le_of_lt_succ
def Zb3:=@List.map_map
def Zb8:=@List.getElem?_replicate
def Zci:=@Nat.pow_succ
def Zcj:=@List.foldl_cons
def Zck:=@Int.emod_nonneg
def Zcl:=@Nat.lt_succ_of_lt
def Zco:=@Nat.pow_le_pow_right
def Zcp:=@List.mem_of_mem_take
def Zcq:=@List.getElem?_set_ne
def Zcv:=@List.getElem?_eq_none_iff
def Zcx:=@List.isEmpty_iff
def ZcF:=@Nat.not_lt_zero
def ZcM:=@Int.toNat_natCast
def ZcS:=@List.take_append_drop
def Zds:=@List.replicate_succ
def Zdt:=@List.map_congr_left
def Zdu:=@List.length_pos_iff
def ZdJ:=@List.getElem?_append_right
def Zd3:=@List.map_inj_left
def Zd4:=@List.filterMap_cons_some
def Zd5:=@List.ext_getElem?
def ZeB:=@Nat.zero_le
def ZeC:=@List.pairwise_singleton
def ZeE:=@Bool.true_and
def ZeH:=@List.take_length
def ZeI:=@List.mem_flatMap
def ZeJ:=@List.getElem_mem
def ZeU:=@List.pairwise_lt_range
def ZeV:=@List.drop_eq_nil_of_le
def ZfS:=@eq_of_beq
def Zf0:=@Nat.ne_of_gt
def Zf1:=@List.length_filter_le
def ZgI:=@List.mem_iff_getElem
def ZgJ:=@List.getElem?_append
def ZgL:=@Nat.mul_le_mul
def Zhu:=@Int.toNat_of_nonneg
def ZiZ:=@Nat.mul_assoc
def Zi0:=@List.mem_filterMap
def Zi1:=@List.map_drop
def Zi2:=@List.any_cons
def Zi4:=@Bool.false_ne_true
def Zk6:=@List.pairwise_map
def Zk7:=@List.flatten_cons
def Zlg:=@Nat.succ_pos
def Zlh:=@Nat.mul_comm
def ZmG:=@Nat.le_of_not_lt
def ZmH:=@Nat.le_add_right
def ZpS:=@Nat.mul_one
def ZpT:=@Nat.mul_add
def ZpV:=@List.of_mem_zip
def ZpW:=@List.nodup_cons
open PySem
inductive D where
 |non |bl (b:Bool) |int (i:Int) |str (s:List Nat)
 |tup (l:List D) |lst (l:List D) |dct (t:Bool) (l:List (D × D)) |set (l:List D)
 |ref (n:Nat) |ins (c:Nat) (fs:List (Nat × D)) |exc (c:Nat) (fs:List (Nat × D)) |scr (l:List Int) |ktp (l:List D) |kdt (l:List (D × D))
 deriving Inhabited
inductive ZeW where
 |no |lst (l:List D) |dct (t:Bool) (l:List (D × D)) |ins (c:Nat) (fs:List (Nat × D)) |tdc (l:List (D × D))
 deriving Inhabited
structure AH where
 nx:Nat
 cell:Nat→ZeW
def AH.put (h:AH) (n:Nat) (c:ZeW):AH:=⟨h.nx,fun k=>if k=n then c else h.cell k⟩
def AH.new (h:AH) (c:ZeW):AH:=⟨h.nx+1,fun k=>if k=h.nx then c else h.cell k⟩
inductive Sl where
 |no |v (d:D) |exc (c:Nat) (fs:List (Nat × D)) |lams (ks:List Nat) |me
 deriving Inhabited
abbrev Env:=List Sl
def Zd1 (i:Nat) (d:D):List (Nat × D)→List (Nat × D)
 |[]=>[(i,d)]
 |(j,e)::r=>if j=i then (j,d)::r else (j,e)::Zd1 i d r
def lkN (i:Nat):List (Nat × D)→Option D
 |[]=>none
 |(j,e)::r=>if j=i then some e else lkN i r
inductive Res (α:Type) where
 |ok (a:α) (h:AH) |exc (x:D) (h:AH) |stuck
def Res.bind {α β:Type} (r:Res α) (f:α→AH→Res β):Res β:=match r with
 | .ok a h=>f a h
 | .exc x h=>.exc x h
 | .stuck=>.stuck
@[simp] theorem bind_ok {α β:Type} (a:α) (h:AH) (f:α→AH→Res β):(Res.ok a h).bind f=f a h:=rfl
inductive Bi where
 |len |all |any |tuple |list |int |str |abs |sorted |sum |max
 deriving DecidableEq
inductive Mt where
 |join |split |index |rstrip |starts
 deriving DecidableEq
inductive Mm where
 |append |insert |zfill |extend
 deriving DecidableEq
inductive IK where
 |int |str |bool |tuple |list |seq |cls (c:Nat)
 deriving DecidableEq
inductive Du where
 |len |repr |eq |ne |bool |has |call |enter |exit
 deriving DecidableEq
mutual
inductive E where
 |var (i:Nat) |cst (d:D) |glb (g:Nat)
 |bin (o:Operator) (a b:E) |neg (a:E) |not (a:E) |and (es:Es) |or (es:Es) |ife (c a b:E)
 |cmp (o:CmpOp) (a b:E) |cmp2 (o1 o2:CmpOp) (a b c:E) |isn (a:E) |isnn (a:E)
 |tup (es:Es) |lst (es:Es) |hls (es:Es) |tupf (es:Es) (fl:List Bool) |lstf (es:Es) (fl:List Bool)
 |idx (a i:E) |slc (a:E) (lo hi:Op)
 |cal (f:Nat) (args kws:Es) (sel:List Nat) |cald (f:Nat) (args kws:Es) (sel:List Nat)
 |bi (b:Bi) (a:E) |isi (a:E) (k:IK) |mt (m:Mt) (o a:E) |mm (m:Mm) (o:E) (args:Es) |same (i j:Nat)
 |cmpr (elt:E) (tg:List Nat) (it:It) (ifs:Es)
 |cmpr2 (elt:E) (tg:List Nat) (it:It) (ifs:Es) (tg1:List Nat) (it1:It) (ifs1:Es)
 |xfld (i f:Nat) |xcal (f i:Nat) |why (k:Nat) |whysl (ks:List Nat) |whysv (i:Nat)
 |cav (f k:Nat) (args:Es) (fl:List Bool) |fld (a:E) (f:Nat) |con (k f:Nat)
 |mk (k:Nat) (args kws:Es) (sel:List Nat) |mkv (k:Nat) (args:Es) (fl:List Bool)
 |mth (o:E) (m:Nat) (args kws:Es) (sel:List Nat) |stt (k m:Nat) (args kws:Es) (sel:List Nat)
 |isc (a:E) (k:Nat) |dun (d:Du) (o:E) (args:Es) |fst (es:Es) |cao (o:E) (args kws:Es) (sel:List Nat)
 |hlst (a:E) |frz (a:E) |clr (o:E)
 |cmprg (elt:E) (tg:List Nat) (f:Nat) (args kws:Es) (sel:List Nat)
 |dsp (es:Es) |dst (a b:E) |dsk (a k v:E) |dcm (kx vx:E) (tg:List Nat) (it:It) (ifs:Es)
 |dcp (a:E) |dpr (a:E) |dls (a:E) |dln (a:E)
 |dix (o k:E) |dget (o k d:E) |ind (neg:Bool) (k o:E)
 |srd (a:E) |srk (r:Nat) (a:E) |mx2 (a b:E) |lix (o a:E)
 |lrg (a:E) |inr (neg:Bool) (a b:E) |had (a b:E)
 |hmk (k:Nat) (args kws:Es) (sel:List Nat) |srt (s:SE) |hst (s:SE) |lse (s:SE)
 |tds (es:Es) |tix (o k:E) |tin (neg:Bool) (k o:E) |tgt (o k d:E)
 |lsg (f:Nat) (args kws:Es) (sel:List Nat)
 |isb (neg b:Bool) (a:E) |isr (a:E) (k:IK) |hcm (elt:E) (tg:List Nat) (it:It) (ifs:Es)
 |cgi (cell:Bool) (elt:E) (tg:List Nat) (f:Nat) (args kws:Es) (sel:List Nat) (ifs:Es)
 |rfl (a:E) (f:Nat) |rmt (o:E) (m:Nat) (args kws:Es) (sel:List Nat) |rmv (o:E) (m k:Nat) (args:Es) (fl:List Bool)
 |rdu (d:Du) (o:E) (args:Es) |rin (neg:Bool) (k o:E) |ric (a:E) (k:Nat) |rca (o:E) (args kws:Es) (sel:List Nat)
 |hnw (k:Nat) (args kws:Es) (sel:List Nat) |kgt (n:Nat) (k d:E) |pad (rgt:Bool) (w:Nat) (a:E)
 |mkt (k:Nat) (args kws:Es) (sel:List Nat) |hsr (a:E) |hdl (a:E) |mn2 (a b:E) |fri (a:E)
 |cgm (cell:Bool) (elt:E) (tg:List Nat) (o:E) (m:Nat) |lzg (f1:Nat) (a1:Es) (s1:List Nat) (f2:Nat) (a2:Es) (s2:List Nat)
inductive Es where
 |nil |cons (e:E) (r:Es)
inductive Op where
 |no |so (e:E)
inductive It where
 |seq (e:E) |rng (a:E) |rng2 (a b:E) |enum (e:E) |zip (a b:E)
 |zipg (f:Nat) (args kws:Es) (sel:List Nat)
 |itm (e:E) |vls (e:E) |dky (e:E)
inductive SE where
 |of (a:E) |cmp (sc:Bool) (elt:E) (tg:List Nat) (it:It) (ifs:Es) |or (a b:SE)
end
inductive Hd where
 |ret (e:E) |rsn (c:Nat) (args:Es) |asg (j:Nat) (e:E)
mutual
inductive S where
 |expr (e:E) |asg (i:Nat) (e:E) |asgt (is:List Nat) (e:E) |aug (i:Nat) (o:Operator) (e:E)
 |ret (e:E) |retn |ifs (c:E) (a b:Ss) |for (tg:List Nat) (it:It) (b:Ss) |whl (c:E) (b:Ss)
 |brk |cnt |pass |never |seti (o i e:E)
 |forg (tg:List Nat) (f:Nat) (args kws:Es) (sel:List Nat) (b:Ss)
 |trm (k:Nat) (args kws:Es) (sel:List Nat) (xc yc:Nat)
 |rse (c:Nat) (args:Es) |try1 (b:Ss) (cs:List Nat) (i:Option Nat) (hd:Hd) |lasg (i:Nat) (ks:List Nat) |ladd (i:Nat) (ks:List Nat)
 |setd (o k e:E) |sta (o:E) (f:Nat) (e:E) |still (i:Nat) |mch (e:E) (cs:Ms) |rsf (k f:Nat) (es:Es) |sett (o k e:E)
 |aua (i f:Nat) (o:Operator) (e:E) |stp (o:E) (f:Nat) (e:E) |sat (i:Nat) (fs:List Nat) (es:Es) |wth (e:E) (b:Ss)
 |fgm (tg:List Nat) (o:E) (m:Nat) (b:Ss) |asx (is:List Nat) (i:Nat) (js:List Nat) (e:E) |sli (i:Nat)
inductive Ss where
 |nil |cons (s:S) (r:Ss)
inductive Ms where
 |nil |cons (t:List Nat) (b:Ss) (r:Ms)
end
mutual
inductive Gn where
 |pl (s:S) |yld (e:E) |yfr (e:E) |for (tg:List Nat) (it:It) (b:Gns)
 |forg (tg:List Nat) (f:Nat) (args kws:Es) (sel:List Nat) (b:Gns)
inductive Gns where
 |nil |cons (s:Gn) (r:Gns)
end
structure GnD where
 np:Nat
 nb:Nat
 body:Gns
 pre:Ss:=.nil
structure FnD where
 np:Nat
 nb:Nat
 body:Ss
inductive BI where
 |reg (s:S) |sto (f:Nat) (e:E) |sup (b:Nat) (args:Es)
structure CtD where
 np:Nat
 nb:Nat
 items:List BI
inductive At where
 |no |fld |con (d:D) |prp (f:Nat)
structure G where
 fn:Nat→Option FnD
 glb:Nat→D
 dfl:Nat→List D
 dfs:Nat→List D
 lam:Nat→E
 lamw:Nat→List Nat
 fld:Nat
 cod:Nat
 xcl:Nat→Option (List Nat × Option Nat)
 sub:Nat→Nat→Bool
 atr:Nat→Nat→At
 mtd:Nat→Nat→Option Nat
 dmt:Nat→Du→Option Nat
 sta:Nat→Nat→Option Nat
 ctr:Nat→Option CtD
 cdf:Nat→List D
 isa:Nat→Nat→Bool
 clc:Nat→Nat→D
 gn:Nat→Option GnD
 pst:Nat→Nat→Option Nat
 ctt:Nat→Option (CtD × Nat × E)
/-! ### operations -/
mutual
def deq:D→D→Bool
 | .non,.non=>true
 | .bl a,.bl b=>a == b
 | .bl a,.int j=>(if a then 1 else 0) == j
 | .int i,.bl b=>i == (if b then 1 else 0)
 | .int i,.int j=>i == j
 | .str x,.str y=>x == y
 | .tup l,.tup m=>deqs l m
 | .lst l,.lst m=>deqs l m
 |_,_=>false
def deqs:List D→List D→Bool
 |[],[]=>true
 |x::l,y::m=>deq x y&&deqs l m
 |_,_=>false
end
mutual
def Zbb:D→D→Bool
 | .non,.non=>true
 | .bl a,.bl b=>a == b
 | .int i,.int j=>i == j
 | .str x,.str y=>x == y
 | .tup l,.tup m=>dsames l m
 | .lst l,.lst m=>dsames l m
 |_,_=>false
def dsames:List D→List D→Bool
 |[],[]=>true
 |x::l,y::m=>Zbb x y&&dsames l m
 |_,_=>false
end
mutual
def wt:D→Option Nat
 | .non=>some 1
 | .bl _=>some 1
 | .int i=>if i.natAbs < 1000000000000 then some 1 else none
 | .str s=>some (s.length+1)
 | .tup l=>(wts l).map (· +1)
 | .lst l=>(wts l).map (· +1)
 |_=>none
def wts:List D→Option Nat
 |[]=>some 0
 |x::l=>match wt x,wts l with
  |some a,some b=>some (a+b)
  |_,_=>none
end
mutual
def dpt:Nat→D→Bool
 |_,.non=>true
 |_,.bl _=>true
 |_,.int _=>true
 |_,.str _=>true
 |0,.tup _=>false
 |0,.lst _=>false
 |n+1,.tup l=>dpts n l
 |n+1,.lst l=>dpts n l
 |_,_=>false
def dpts:Nat→List D→Bool
 |_,[]=>true
 |n,x::l=>dpt n x&&dpts n l
end
def ltS (a b:Str):Bool:=decide (a.cps.toList < b.cps.toList)
/-! ### orders -/
mutual
def ltD:D→D→Option Bool
 | .int a,.int b=>some (decide (a < b))
 | .str a,.str b=>some (ltS ⟨a.toArray⟩ ⟨b.toArray⟩)
 | .tup l,.tup m=>ltDs l m
 |_,_=>none
def ltDs:List D→List D→Option Bool
 |[],[]=>some false
 |[],_::_=>some true
 |_::_,[]=>some false
 |x::l,y::m=>if Zbb x y then ltDs l m else ltD x y
end
mutual
def kin:D→D→Bool
 | .int _,.int _=>true
 | .str _,.str _=>true
 | .tup l,.tup m=>kins l m
 |_,_=>false
def kins:List D→List D→Bool
 |[],[]=>true
 |x::l,y::m=>kin x y&&kins l m
 |[],_=>true
 |_,[]=>true
end
def ltB (x y:D):Bool:=(ltD x y).getD false
def line:Nat:=16777216
def Zcn (o:Operator) (x y:D) (h:AH):Res D:=match o,x,y with
 | .Add,.int i,.int j=>.ok (.int (i+j)) h
 | .Add,.str a,.str b=>if a.length+b.length≤line then .ok (.str (a++b)) h else .stuck
 | .Add,.lst a,.lst b=>if a.length+b.length≤line then .ok (.lst (a++b)) h else .stuck
 | .Add,.tup a,.tup b=>if a.length+b.length≤line then .ok (.tup (a++b)) h else .stuck
 | .Sub,.int i,.int j=>.ok (.int (i - j)) h
 | .Mult,.int i,.int j=>if (-(2 ^ 64) < i∧i < 2 ^ 64)∨(-(2 ^ 64) < j∧j < 2 ^ 64) then .ok (.int (i * j)) h else .stuck
 | .Mult,.str s,.int k=>if -1000≤k∧k≤1000∧s.length≤1000 then .ok (.str (List.replicate k.toNat s).flatten) h else .stuck
 | .Mult,.tup l,.int k=>if l.isEmpty=false∧ -1000≤k∧k≤1000∧l.length≤1000 then .ok (.tup (List.replicate k.toNat l).flatten) h else .stuck
 | .Mult,.lst l,.int k=>if -1000≤k∧k≤1000∧l.length≤1000 then .ok (.lst (List.replicate k.toNat l).flatten) h else .stuck
 | .Mod,.int i,.int j=>if 0 < j then .ok (.int (i % j)) h else .stuck
 | .FloorDiv,.int i,.int j=>if 0 < j∧j < 1073741824 then .ok (.int (i / j)) h else .stuck
 | .Pow,.int i,.int j=>if 0≤j∧j≤1000000∧i.natAbs < 2 ^ 64 then .ok (.int (i ^ j.toNat)) h else .stuck
 |_,_,_=>.stuck
def ZcB (o:CmpOp) (x y:D):Option Bool:=match o with
 | .Eq=>if dpt 60 x&&dpt 60 y then some (deq x y) else none
 | .NotEq=>if dpt 60 x&&dpt 60 y then some (!deq x y) else none
 | .Lt=>match x,y with
  | .int i,.int j=>some (decide (i < j))
  |x,y=>if (dpt 60 x&&dpt 60 y)&&kin x y then some (ltB x y) else none
 | .LtE=>match x,y with
  | .int i,.int j=>some (decide (i≤j))
  |_,_=>none
 | .Gt=>match x,y with
  | .int i,.int j=>some (decide (j < i))
  |_,_=>none
 | .GtE=>match x,y with
  | .int i,.int j=>some (decide (j≤i))
  |_,_=>none
 | .In=>match x,y with
  | .str [c],.str s=>some (decide (c∈s))
  |x,.tup l=>if dpt 60 x&&dpts 60 l then some (l.any fun z=>deq z x) else none
  |x,.lst l=>if dpt 60 x&&dpts 60 l then some (l.any fun z=>deq z x) else none
  |x,.ktp l=>if dpt 60 x&&dpts 60 l then some (l.any fun z=>deq z x) else none
  |_,_=>none
 | .NotIn=>match x,y with
  | .str [c],.str s=>some (!decide (c∈s))
  |x,.tup l=>if dpt 60 x&&dpts 60 l then some (!l.any fun z=>deq z x) else none
  |x,.lst l=>if dpt 60 x&&dpts 60 l then some (!l.any fun z=>deq z x) else none
  |x,.ktp l=>if dpt 60 x&&dpts 60 l then some (!l.any fun z=>deq z x) else none
  |_,_=>none
 |_=>none
def ZbM:D→Option Bool
 | .non=>some false
 | .bl b=>some b
 | .int i=>some (i != 0)
 | .str s=>if s.length≤line then some (!s.isEmpty) else none
 | .tup l=>some (!l.isEmpty)
 | .lst l=>some (!l.isEmpty)
 |_=>none
def isN:D→Bool
 | .non=>true
 |_=>false
def Zbv {α:Type} (o:Option α) (h:AH):Res α:=match o with
 |some a=>.ok a h
 |none=>.stuck
def ZfI (x i:D) (h:AH):Res D:=match x,i with
 | .lst l,.int i=>Zbv (L2.atI l i) h
 | .tup l,.int i=>Zbv (L2.atI l i) h
 | .str s,.int i=>if s.length≤line then Zbv ((L2.atI s i).map fun c=>.str [c]) h else .stuck
 | .ref n,.int i=>match h.cell n with
  | .lst l=>Zbv (L2.atI l i) h
  |_=>.stuck
 |_,_=>.stuck
def cut {α:Type} (l:List α) (lo hi:Option Int):List α:=(l.drop (HT.sIx l.length 0 lo)).take (HT.sIx l.length l.length hi - HT.sIx l.length 0 lo)
def Zfo (x:D) (a b:Option Int) (h:AH):Res D:=match x with
 | .str s=>if s.length≤line then .ok (.str (cut s a b)) h else .stuck
 | .lst l=>.ok (.lst (cut l a b)) h
 | .tup l=>.ok (.tup (cut l a b)) h
 | .scr l=>.ok (.lst ((cut l a b).map .int)) h
 | .ref n=>match h.cell n with
  | .lst l=>.ok (.lst (cut l a b)) h
  |_=>.stuck
 |_=>.stuck
def isk:D→IK→Option Bool
 | .ref _,_=>none
 | .ins _ _,_=>none
 | .exc _ _,_=>none
 | .scr _,_=>none
 | .dct _ _,_=>none
 | .set _,_=>none
 | .ktp _,_=>none
 | .kdt _,_=>none
 |_,.cls _=>none
 | .bl _,.int=>some true
 | .bl _,.bool=>some true
 | .int _,.int=>some true
 | .str _,.str=>some true
 | .tup _,.tuple=>some true
 | .tup _,.seq=>some true
 | .lst _,.list=>some true
 | .lst _,.seq=>some true
 |_,_=>some false
def iskH (x:D) (k:IK) (h:AH):Option Bool:=match x with
 | .ref n=>(match h.cell n with
  | .lst _=>(match k with
   | .list=>some true
   | .seq=>some true
   | .cls _=>none
   |_=>some false)
  |_=>none)
 |x=>isk x k
def bls:List D→Option (List Bool)
 |[]=>some []
 | .bl b::r=>(bls r).map (b:: ·)
 |_=>none
def Zi5:List D→Option (List (List Nat))
 |[]=>some []
 | .str s::r=>(Zi5 r).map (s:: ·)
 |_=>none
/-! ### dicts -/
def Zh3:D→Bool
 | .int _=>true
 | .str _=>true
 |_=>false
def Zcu (t:Bool) (k:D):Bool:=match t with
 |false=>Zh3 k
 |true=>(match k with
  | .tup l=>l.all Zh3
  |_=>false)
def lkD (k:D):List (D × D)→Option D
 |[]=>none
 |p::r=>if Zbb p.1 k then some p.2 else lkD k r
def repD (k v:D):List (D × D)→List (D × D)
 |[]=>[]
 |p::r=>(if Zbb p.1 k then (p.1,v) else p)::repD k v r
def ZmY (k v:D) (l:List (D × D)):List (D × D):=if (lkD k l).isSome then repD k v l else l++[(k,v)]
def mrgD (l m:List (D × D)):List (D × D):=m.foldl (fun acc p=>ZmY p.1 p.2 acc) l
def ZfW (x:D) (h:AH):Option (Bool × List (D × D)):=match x with
 | .dct t l=>some (t,l)
 | .ref n=>(match h.cell n with
  | .dct t l=>some (t,l)
  |_=>none)
 |_=>none
def dixop (x k:D) (h:AH):Res D:=match ZfW x h with
 |some (t,l)=>if Zcu t k then Zbv (lkD k l) h else .stuck
 |none=>.stuck
def Znv (x k d:D) (h:AH):Res D:=match ZfW x h with
 |some (t,l)=>if Zcu t k then .ok ((lkD k l).getD d) h else .stuck
 |none=>.stuck
def indop (neg:Bool) (k x:D) (h:AH):Res D:=match ZfW x h with
 |some (t,l)=>if Zcu t k then .ok (.bl ((lkD k l).isSome != neg)) h else .stuck
 |none=>.stuck
def ZmT (x k v:D) (h:AH):Option AH:=match x with
 | .ref n=>(match h.cell n with
  | .dct t l=>if Zcu t k&&l.length < line then some (h.put n (.dct t (ZmY k v l))) else none
  |_=>none)
 |_=>none
def isRefN (n:Nat):D→Bool
 | .ref m=>m == n
 |_=>false
def ZjY (n:Nat) (x:D) (h:AH):Res D:=if isRefN n x=true then .stuck else match ZfW x h,h.cell n with
 |some (false,l),.dct false acc=>if acc.length+l.length < line then .ok .non (h.put n (.dct false (if acc.isEmpty then l else mrgD acc l))) else .stuck
 |_,_=>.stuck
def dspop (n:Nat) (l m:List D) (h:AH):Res D:=match h.cell n with
 | .dct false []=>if l.all Zh3&&l.length≤15&&l.length == m.length then .ok (.ref n) (h.put n (.dct false (mrgD [] (l.zip m)))) else .stuck
 |_=>.stuck
def putop (n:Nat) (k v:D) (h:AH):Res D:=match ZmT (.ref n) k v h with
 |some h=>.ok .non h
 |none=>.stuck
def dcpop (x:D) (h:AH):Res D:=match ZfW x h with
 |some (false,l)=>.ok (.ref h.nx) (h.new (.dct false l))
 |_=>.stuck
def prsOf:List D→Option (List (D × D))
 |[]=>some []
 | .tup [k,v]::r=>if Zh3 k then (prsOf r).map ((k,v):: ·) else none
 |_=>none
def dprop (x:D) (h:AH):Res D:=match x with
 | .lst l=>(match prsOf l with
  |some ps=>.ok (.ref h.nx) (h.new (.dct false (mrgD [] ps)))
  |none=>.stuck)
 |_=>.stuck
def dlsop (x:D) (h:AH):Res D:=match ZfW x h with
 |some (false,l)=>.ok (.lst (l.map (·.1))) h
 |_=>.stuck
def dlnop (x:D) (h:AH):Res D:=match ZfW x h with
 |some (_,l)=>.ok (.int l.length) h
 |none=>.stuck
def tdOf (x:D) (h:AH):Option (List (D × D)):=match x with
 | .ref n=>(match h.cell n with
  | .tdc l=>some l
  |_=>none)
 |_=>none
def tixop (x k:D) (h:AH):Res D:=match tdOf x h with
 |some l=>if Zcu true k then Zbv (lkD k l) h else .stuck
 |none=>.stuck
def tinop (neg:Bool) (k x:D) (h:AH):Res D:=match tdOf x h with
 |some l=>if Zcu true k then .ok (.bl ((lkD k l).isSome != neg)) h else .stuck
 |none=>.stuck
def tgetop (x k d:D) (h:AH):Res D:=match tdOf x h with
 |some l=>if Zcu true k then .ok ((lkD k l).getD d) h else .stuck
 |none=>.stuck
def ZmM (x k v:D) (h:AH):Option AH:=match x with
 | .ref n=>(match h.cell n with
  | .tdc l=>if Zcu true k&&l.length < line then some (h.put n (.tdc (ZmY k v l))) else none
  |_=>none)
 |_=>none
inductive Src where
 |fix (l:List D) |cell (n:Nat) |ecell (n:Nat)
def Src.get (s:Src) (i:Nat) (h:AH):Option (Option D):=match s with
 | .fix l=>some l[i]?
 | .cell n=>match h.cell n with
  | .lst l=>some l[i]?
  |_=>none
 | .ecell n=>match h.cell n with
  | .lst l=>some (l[i]?.map fun d=>.tup [.int i,d])
  |_=>none
def Src.len (s:Src) (h:AH):Nat:=match s with
 | .fix l=>l.length
 | .cell n=>match h.cell n with
  | .lst l=>l.length
  |_=>0
 | .ecell n=>match h.cell n with
  | .lst l=>l.length
  |_=>0
def Zlw (x:D) (h:AH):Option Src:=match x with
 | .lst l=>some (.fix l)
 | .tup l=>some (.fix l)
 | .ktp l=>some (.fix l)
 | .str s=>some (.fix (s.map fun c=>.str [c]))
 | .ref n=>match h.cell n with
  | .lst _=>some (.cell n)
  |_=>none
 |_=>none
def Zgo:Nat→List D→List D
 |_,[]=>[]
 |i,x::l=>.tup [.int i,x]::Zgo (i+1) l
def zips:List D→List D→List D
 |x::l,y::m=>.tup [x,y]::zips l m
 |_,_=>[]
def enumOf (x:D) (h:AH):Option Src:=match x with
 | .lst l=>some (.fix (Zgo 0 l))
 | .tup l=>some (.fix (Zgo 0 l))
 | .str s=>some (.fix (Zgo 0 (s.map fun c=>.str [c])))
 | .ref n=>match h.cell n with
  | .lst _=>some (.ecell n)
  |_=>none
 |_=>none
def itmOf (x:D):Option Src:=match x with
 | .dct false l=>some (.fix (l.map fun p=>.tup [p.1,p.2]))
 |_=>none
def vlsOf (x:D):Option Src:=match x with
 | .dct false l=>some (.fix (l.map (·.2)))
 |_=>none
def dkyOf (x:D):Option Src:=match x with
 | .dct false l=>some (.fix (l.map (·.1)))
 |_=>none
def zipOf (x y:D):Option Src:=match x,y with
 | .lst l,.lst m=>some (.fix (zips l m))
 |_,_=>none
def Zn9:List (List Nat)→Nat
 |[]=>0
 |x::r=>x.length+Zn9 r
def Zl4 (x:Str):List Str→List Str
 |[]=>[x]
 |y::r=>if ltS y x then y::Zl4 x r else x::y::r
def ZiA:List Str→List Str
 |[]=>[]
 |x::r=>Zl4 x (ZiA r)
def intL:List D→Option (List Int)
 |[]=>some []
 | .int i::r=>(intL r).map (i:: ·)
 |_=>none
def ZoN (n:Int):List Int→Int
 |[]=>n
 |m::r=>ZoN (if n < m then m else n) r
def ZeT (b:Bi) (x:D) (h:AH):Res D:=match b with
 | .sum=>match x with
  | .lst l=>Zbv ((intL l).map fun b=>.int b.sum) h
  |_=>.stuck
 | .max=>match x with
  | .lst l=>(match intL l with
   |some (n::r)=>.ok (.int (ZoN n r)) h
   |_=>.stuck)
  |_=>.stuck
 | .len=>match x with
  | .str s=>if s.length≤line then .ok (.int s.length) h else .stuck
  | .lst l=>.ok (.int l.length) h
  | .tup l=>.ok (.int l.length) h
  | .ref n=>match h.cell n with
   | .lst l=>.ok (.int l.length) h
   |_=>.stuck
  |_=>.stuck
 | .all=>match x with
  | .lst l=>Zbv ((bls l).map fun b=>.bl (b.all id)) h
  |_=>.stuck
 | .any=>match x with
  | .lst l=>Zbv ((bls l).map fun b=>.bl (b.any id)) h
  |_=>.stuck
 | .tuple=>match x with
  | .lst l=>.ok (.tup l) h
  | .tup l=>.ok (.tup l) h
  |_=>.stuck
 | .list=>match x with
  | .lst l=>.ok (.lst l) h
  | .tup l=>.ok (.lst l) h
  | .str s=>if s.length≤line then .ok (.lst (s.map fun c=>.str [c])) h else .stuck
  | .ref n=>match h.cell n with
   | .lst l=>.ok (.lst l) h
   |_=>.stuck
  |_=>.stuck
 | .int=>match x with
  | .int i=>.ok (.int i) h
  | .bl b=>.ok (.int (if b then 1 else 0)) h
  | .str s=>if s.all (fun c=>decide (48≤c)&&decide (c≤57))=true∧s.isEmpty=false∧s.length≤640 then .ok (.int (NumText.digitsVal s:Nat)) h else .stuck
  |_=>.stuck
 | .str=>match x with
  | .str s=>.ok (.str s) h
  | .int i=>if 0≤i∧i < 1000000000000 then .ok (.str (TL.numL i.toNat)) h else .stuck
  |_=>.stuck
 | .abs=>.stuck
 | .sorted=>match x with
  | .lst l=>(match Zi5 l with
   |some ys=>.ok (.lst ((ZiA (ys.map fun s=>(⟨s.toArray⟩:Str))).map fun s=>.str s.cps.toList)) h
   |none=>.stuck)
  |_=>.stuck
def Zla (m:Mt) (o a:D) (h:AH):Res D:=match m with
 | .join=>match o,a with
  | .str s,.lst l=>match Zi5 l with
   |some ys=>if Zn9 ys+ys.length * s.length≤line then .ok (.str (TL.joinL s ys)) h else .stuck
   |none=>.stuck
  | .str s,.tup l=>match Zi5 l with
   |some ys=>if Zn9 ys+ys.length * s.length≤line then .ok (.str (TL.joinL s ys)) h else .stuck
   |none=>.stuck
  |_,_=>.stuck
 | .split=>match o,a with
  | .str s,.str b=>if b.isEmpty=false∧b.all (· < 256)=true∧s.length+2≤line then .ok (.lst ((TL.spl b 0 [] s).map .str)) h else .stuck
  |_,_=>.stuck
 | .index=>match o,a with
  | .str s,.str b=>(match Builtin.Str.occurrences ⟨s.toArray⟩ ⟨b.toArray⟩ 0 s.length 1 with
   |i::_=>.ok (.int (i:Nat)) h
   |[]=>.stuck)
  |_,_=>.stuck
 | .starts=>match o,a with
  | .str s,.str b=>if s.length≤line then .ok (.bl (b.isPrefixOf s)) h else .stuck
  |_,_=>.stuck
 | .rstrip=>match o,a with
  | .str s,.str b=>if s.length≤line then .ok (.str (s.take (PySem.stripHi (⟨b.toArray⟩:Str).cps.contains true ⟨s.toArray⟩ 0))) h else .stuck
  |_,_=>.stuck
def Zlb (m:Mm) (x:D) (h:AH):Bool:=match m with
 | .zfill=>(match x with
  | .str _=>true
  |_=>false)
 |_=>(match x with
  | .ref n=>(match h.cell n with
   | .lst _=>true
   |_=>false)
  |_=>false)
def ZjZ (m:Mm) (x:D) (l:List D) (h:AH):Res D:=match m with
 | .append=>match x,l with
  | .ref n,[y]=>(match h.cell n with
   | .lst xs=>if xs.length < line then .ok .non (h.put n (.lst (xs++[y]))) else .stuck
   |_=>.stuck)
  |_,_=>.stuck
 | .insert=>match x,l with
  | .ref n,[.int i,y]=>(match h.cell n with
   | .lst xs=>if xs.length < line∧0≤i∧i < 2 ^ 63 then .ok .non (h.put n (.lst (xs.take i.toNat++[y]++xs.drop i.toNat))) else .stuck
   |_=>.stuck)
  |_,_=>.stuck
 | .extend=>match x,l with
  | .ref n,[.lst ys]=>(match h.cell n with
   | .lst xs=>if xs.length+ys.length < line then .ok .non (h.put n (.lst (xs++ys))) else .stuck
   |_=>.stuck)
  |_,_=>.stuck
 | .zfill=>match x,l with
  | .str (c::s),[.int i]=>if (48≤c∧c≤57)∧0≤i∧i≤1000 then .ok (.str (List.replicate (i.toNat - (s.length+1)) 48++c::s)) h else .stuck
  |_,_=>.stuck
def Zl5 (lt:D→D→Bool) (x:D):List D→List D
 |[]=>[x]
 |y::r=>if lt y x then y::Zl5 lt x r else x::y::r
def Zd0 (lt:D→D→Bool):List D→List D
 |[]=>[]
 |x::r=>Zl5 lt x (Zd0 lt r)
def Zfc:List D→Bool
 |[]=>true
 |x::l=>kin x x&&l.all (fun y=>kin x y&&kin y y)&&Zfc l
def Zkh:D→Bool
 | .tup []=>true
 |_=>false
def Zeg (l:List D):Bool:=Zfc l&&dpts 60 l&&l.all fun x=> !Zkh x
def ZfU (l:List D):List D:=l.foldl (fun acc x=>if acc.any (Zbb x) then acc else acc++[x]) []
def ZoO (x:D) (h:AH):Option (List D):=match x with
 | .lst l=>some l
 | .ref n=>(match h.cell n with
  | .lst l=>some l
  |_=>none)
 |_=>none
def srdop (x:D) (h:AH):Res D:=match ZoO x h with
 |some l=>if Zeg l then .ok (.lst (Zd0 ltB l)) h else .stuck
 |none=>.stuck
def ZnJ:List D→Bool
 |[]=>true
 |x::l=>l.all (fun y=> !Zbb x y)&&ZnJ l
def insK (lt:D→D→Bool) (p:D × D):List (D × D)→List (D × D)
 |[]=>[p]
 |q::r=>if lt q.1 p.1 then q::insK lt p r else p::q::r
def sortK (lt:D→D→Bool):List (D × D)→List (D × D)
 |[]=>[]
 |p::r=>insK lt p (sortK lt r)
def ZdD (sc:Bool) (x:D):Bool:=if sc then Zh3 x else Zcu true x
def Zfr (l:List D):Bool:=(l.all Zh3||l.all (Zcu true))&&l.length < 480
def seT:SE→Bool
 | .of _=>true
 | .cmp sc _ _ _ _=> !sc
 | .or _ _=>true
def Zjw (x:D) (h:AH):Res (List D):=match x with
 | .lst l=>if Zfr l then .ok l h else .stuck
 | .tup l=>if Zfr l then .ok l h else .stuck
 |_=>.stuck
def seOr (l m:List D) (h:AH):Res (List D):=if (l.all (Zcu true)&&m.all (Zcu true))&&l.length+m.length < 900 then .ok (l++m) h else .stuck
def ZeM (l:List D) (h:AH):Res D:=if Zeg l then .ok (.lst (Zd0 ltB (ZfU l))) h else .stuck
def lseop (l:List D) (h:AH):Res D:=if Zeg l then .ok (.int ((ZfU l).length:Nat)) h else .stuck
def Zjo (rs:List D):List D→Option (List (D × D))
 |[]=>some []
 | .int j::r=>if 0≤j then (match rs[j.toNat]? with
  |some (.tup (_::t::_))=>(Zjo rs r).map ((.tup [t,.int j],.int j):: ·)
  |_=>none) else none
 |_=>none
def srkop (rows x:D) (h:AH):Res D:=match rows,x with
 | .lst rs,.lst js=>(match Zjo rs js with
  |some ps=>if Zeg (ps.map (·.1))&&ZnJ (ps.map (·.1)) then .ok (.lst ((sortK ltB ps).map (·.2))) h else .stuck
  |none=>.stuck)
 |_,_=>.stuck
def Zmw (r:Res D):Res D:=r.bind fun x h=>match x with
 | .lst l=>.ok (.ref h.nx) (h.new (.lst l))
 |_=>.stuck
def mn2op (x y:D) (h:AH):Res D:=match x,y with
 | .int i,.int j=>.ok (.int (if j < i then j else i)) h
 |_,_=>.stuck
def mx2op (x y:D) (h:AH):Res D:=match x,y with
 | .int i,.int j=>.ok (.int (if i < j then j else i)) h
 |_,_=>.stuck
def lixop (x a:D) (h:AH):Res D:=match x with
 | .lst l=>if dpt 60 a&&dpts 60 l then (match l.findIdx? (fun z=>deq z a) with
   |some i=>.ok (.int (i:Nat)) h
   |none=>.stuck) else .stuck
 |_=>.stuck
def isFld:At→Bool
 | .fld=>true
 |_=>false
def Zoc (g:G) (x:D) (f:Nat) (v:D) (h:AH):Option AH:=match x with
 | .ref n=>(match h.cell n with
  | .ins c fs=>if fs.length < 900&&isFld (g.atr c f) then some (h.put n (.ins c (Zd1 f v fs))) else none
  |_=>none)
 |_=>none
def Zc1 (x:D) (h:AH):Option (Nat × List (Nat × D)):=match x with
 | .ins c fs=>some (c,fs)
 | .ref n=>(match h.cell n with
  | .ins c fs=>some (c,fs)
  |_=>none)
 |_=>none
def satop (g:G) (x:D):List Nat→List D→AH→Option AH
 |[],[],h=>some h
 |f::fs,v::vs,h=>match Zoc g x f v h with
  |some h=>satop g x fs vs h
  |none=>none
 |_,_,_=>none
def hmkop (r:Res D):Res D:=r.bind fun v h=>match v with
 | .ins c fs=>.ok (.ref h.nx) (h.new (.ins c fs))
 |_=>.stuck
def hlstop (x:D) (h:AH):Res D:=match x with
 | .lst l=>.ok (.ref h.nx) (h.new (.lst l))
 | .tup l=>.ok (.ref h.nx) (h.new (.lst l))
 | .ref n=>(match h.cell n with
  | .lst l=>.ok (.ref h.nx) (h.new (.lst l))
  |_=>.stuck)
 |_=>.stuck
def ZaR:List D→AH→List D × AH
 |[],h=>([],h)
 |x::l,h=>match x with
  | .ref n=>(match h.cell n with
   | .lst m=>(match ZaR l (h.put n .no) with
    |(r,h')=>(.lst m::r,h'))
   | .dct t m=>(match ZaR l (h.put n .no) with
    |(r,h')=>(.dct t m::r,h'))
   |_=>(match ZaR l h with
    |(r,h')=>(x::r,h')))
  |_=>(match ZaR l h with
   |(r,h')=>(x::r,h'))
def ZfL (x:D) (h:AH):Res D:=match x with
 | .lst l=>(match ZaR l h with
  |(r,h')=>.ok (.lst r) h')
 | .ref n=>(match h.cell n with
  | .lst l=>(match ZaR l (h.put n .no) with
   |(r,h')=>.ok (.lst r) h')
  |_=>.stuck)
 |_=>.stuck
def ZeS (x:D) (h:AH):Res D:=match x with
 | .ref n=>(match h.cell n with
  | .lst l=>.ok (.lst l) (h.put n .no)
  | .dct t l=>.ok (.dct t l) (h.put n .no)
  | .ins c fs=>.ok (.ins c fs) (h.put n .no)
  |_=>.stuck)
 |_=>.stuck
def clrop (x:D) (h:AH):Res D:=match x with
 | .ref n=>(match h.cell n with
  | .lst _=>.ok .non (h.put n (.lst []))
  |_=>.stuck)
 |_=>.stuck
def ZeF (x:D) (h:AH):D:=match x with
 | .ref n=>(match h.cell n with
  | .lst l=>.lst l
  |_=>.ref n)
 |x=>x
def Zmt (x:D) (h:AH):D:=match x with
 | .lst l=>.lst (l.map fun y=>ZeF y h)
 |x=>ZeF x h
def Zdg (x y:D) (h:AH):Res D:=
 if Zbb x y then match wt x with
  |some w=>if w≤60000∧dpt 60 x then .ok (.bl true) h else .stuck
  |none=>.stuck
 else if Zbb (Zmt x h) (Zmt y h) then match wt (Zmt x h) with
  |some w=>if w≤60000∧dpt 60 (Zmt x h) then .ok (.bl true) h else .stuck
  |none=>.stuck
 else .stuck
def ZbB (tg:List Nat) (v:D) (env:Env):Option Env:=match tg with
 |[i]=>some (env.set i (.v v))
 |_=>match v with
  | .tup l=>if l.length=tg.length then some ((tg.zip l).foldl (fun e p=>e.set p.1 (.v p.2)) env) else none
  | .lst l=>if l.length=tg.length then some ((tg.zip l).foldl (fun e p=>e.set p.1 (.v p.2)) env) else none
  |_=>none
def bindN (is:List Nat) (l:List D) (env:Env):Env:=(is.zip l).foldl (fun e p=>e.set p.1 (.v p.2)) env
def Zcm (a b:Int):List D:=(List.range (b - a).toNat).map fun k=>.int (a+(k:Nat))
inductive Fl where
 |nx (e:Env) |rt (d:D) |bk (e:Env) |ct (e:Env) |xc (x:D) (e:Env)
def Res.bindX {α:Type} (r:Res α) (env:Env) (f:α→AH→Res Fl):Res Fl:=match r with
 | .ok a h=>f a h
 | .exc x h=>.ok (.xc x env) h
 | .stuck=>.stuck
@[simp] theorem bindX_ok {α:Type} (a:α) (h:AH) (env:Env) (f:α→AH→Res Fl):(Res.ok a h).bindX env f=f a h:=rfl
def ZiU (s:Src) (f:D→Env→AH→Res Fl):Nat→Nat→Env→AH→Res Fl
 |0,_,_,_=>.stuck
 |k+1,i,env,h=>match s.get i h with
  |none=>.stuck
  |some none=>.ok (.nx env) h
  |some (some x)=>(f x env h).bind fun r h'=>match r with
   | .nx e=>ZiU s f k (i+1) e h'
   | .ct e=>ZiU s f k (i+1) e h'
   | .bk e=>.ok (.nx e) h'
   |r=>.ok r h'
def ZiT (f:D→Env→AH→Res Fl):List D→Env→AH→Res Fl
 |[],env,h=>.ok (.nx env) h
 |x::l,env,h=>(f x env h).bind fun r h'=>match r with
  | .nx e=>ZiT f l e h'
  | .ct e=>ZiT f l e h'
  | .bk e=>.ok (.nx e) h'
  |r=>.ok r h'
theorem Zie (l:List D) (f:D→Env→AH→Res Fl):∀(k i:Nat) (env:Env) (h:AH),k+i=l.length→ZiU (.fix l) f (k+1) i env h=ZiT f (l.drop i) env h
 |k,i,env,h,e=>by
  by_cases hi:i < l.length
  ·obtain⟨j,rfl⟩:∃j,k=j+1:=⟨k - 1,by omega⟩
   rw[Zbm hi]
   unfold ZiU ZiT
   simp only[Src.get,Zad hi]
   congr 1
   funext r h'
   cases r<;>first
    |rfl
    |exact Zie l f j (i+1) _ h' (by omega)
  ·have:l.length≤i:=by omega
   rw[ZeV this]
   unfold ZiU ZiT
   simp only[Src.get,ZbR this]
def Zjd (t:Env→AH→Res Bool) (f:Env→AH→Res Fl):Nat→Env→AH→Res Fl
 |0,_,_=>.stuck
 |k+1,env,h=>(t env h).bindX env fun b h'=>if b then (f env h').bind fun r h''=>match r with
   | .nx e=>Zjd t f k e h''
   | .ct e=>Zjd t f k e h''
   | .bk e=>.ok (.nx e) h''
   |r=>.ok r h''
  else .ok (.nx env) h'
def push (o:Option D) (r:List D):List D:=match o with
 |some y=>y::r
 |none=>r
/-! ### generators -/
mutual
def ZlM:D→Bool
 | .ref _=>false
 | .scr _=>false
 | .dct _ l=>norefd l
 | .set _=>false
 | .exc _ _=>false
 | .tup l=>norefs l
 | .lst l=>norefs l
 | .ktp l=>norefs l
 | .ins _ fs=>noreff fs
 |_=>true
def norefs:List D→Bool
 |[]=>true
 |x::l=>ZlM x&&norefs l
def noreff:List (Nat × D)→Bool
 |[]=>true
 |p::l=>ZlM p.2&&noreff l
def norefd:List (D × D)→Bool
 |[]=>true
 |p::l=>ZlM p.2&&norefd l
end
def stillC:ZeW→ZeW
 | .ins _ _=>.no
 |c=>c
def ZmQ (h:AH):AH:=⟨h.nx,fun k=>stillC (h.cell k)⟩
def AH.none:AH:=⟨0,fun _=>.no⟩
def Zmg (f:D→Env→AH→Res Fl):List D→Option D→Env→AH→Res Fl
 |[],none,env,h=>.ok (.nx env) h
 |[],some x,env,h=>.ok (.xc x env) h
 |x::l,fin,env,h=>(f x env h).bind fun r h'=>match r with
  | .nx e=>Zmg f l fin e h'
  | .ct e=>Zmg f l fin e h'
  | .bk e=>.ok (.nx e) h'
  |r=>.ok r h'
def Zo7 (s:Src) (f:D→Env→AH→Res (List D × Fl)):Nat→Nat→Env→AH→Res (List D × Fl)
 |0,_,_,_=>.stuck
 |k+1,i,env,h=>match s.get i h with
  |none=>.stuck
  |some none=>.ok ([],.nx env) h
  |some (some x)=>(f x env h).bind fun p h'=>match p.2 with
   | .nx e=>(Zo7 s f k (i+1) e h').bind fun q h''=>.ok (p.1++q.1,q.2) h''
   | .ct e=>(Zo7 s f k (i+1) e h').bind fun q h''=>.ok (p.1++q.1,q.2) h''
   | .bk e=>.ok (p.1,.nx e) h'
   |r=>.ok (p.1,r) h'
def Zko (f:D→Env→AH→Res (List D × Fl)):List D→Option D→Env→AH→Res (List D × Fl)
 |[],none,env,h=>.ok ([],.nx env) h
 |[],some x,env,h=>.ok ([],.xc x env) h
 |x::l,fin,env,h=>(f x env h).bind fun p h'=>match p.2 with
  | .nx e=>(Zko f l fin e h').bind fun q h''=>.ok (p.1++q.1,q.2) h''
  | .ct e=>(Zko f l fin e h').bind fun q h''=>.ok (p.1++q.1,q.2) h''
  | .bk e=>.ok (p.1,.nx e) h'
  |r=>.ok (p.1,r) h'
def gyfR (re:Env→AH→Res D):Env→AH→Res (List D × Fl):=fun env h=>match re env h with
 | .ok (.lst l) h=>if norefs l=true then .ok (l,.nx env) (ZmQ h) else .stuck
 | .ok _ _=>.stuck
 | .exc x h=>.ok ([],.xc x env) h
 | .stuck=>.stuck
def lrgop (x:D) (h:AH):Res D:=match x with
 | .int i=>if 0≤i∧i≤16777216 then .ok (.lst (Zcm 0 i)) h else .stuck
 |_=>.stuck
def inrB (neg:Bool) (x y:D) (h:AH):Option Bool:=match y with
 | .ref n=>(match h.cell n with
  | .lst l=>if dpt 60 x&&dpts 60 l then some ((l.any fun z=>deq z x) != neg) else none
  |_=>none)
 |_=>none
def hadop (x y:D) (h:AH):Res D:=match ZoO x h,ZoO y h with
 |some a,some b=>if a.length+b.length≤line then .ok (.ref h.nx) (h.new (.lst (a++b))) else .stuck
 |_,_=>.stuck
def Zeb (s:Src) (f:D→AH→Res (Option D)):Nat→Nat→AH→Res (List D)
 |0,_,_=>.stuck
 |k+1,i,h=>match s.get i h with
  |none=>.stuck
  |some none=>.ok [] h
  |some (some x)=>(f x h).bind fun o h'=>(Zeb s f k (i+1) h').bind fun r h''=>.ok (push o r) h''
def ZgK (f:D→AH→Res (Option D)):List D→AH→Res (List D)
 |[],h=>.ok [] h
 |x::l,h=>(f x h).bind fun o h'=>(ZgK f l h').bind fun r h''=>.ok (push o r) h''
theorem ZhW (l:List D) (f:D→AH→Res (Option D)):∀(k i:Nat) (h:AH),k+i=l.length→Zeb (.fix l) f (k+1) i h=ZgK f (l.drop i) h
 |k,i,h,e=>by
  by_cases hi:i < l.length
  ·obtain⟨j,rfl⟩:∃j,k=j+1:=⟨k - 1,by omega⟩
   rw[Zbm hi]
   unfold Zeb ZgK
   simp only[Src.get,Zad hi]
   congr 1
   funext r h'
   rw[ZhW l f j (i+1) h' (by omega)]
  ·have:l.length≤i:=by omega
   rw[ZeV this]
   unfold Zeb ZgK
   simp only[Src.get,ZbR this]
def dcmI (n:Nat) (s:Src) (f:D→AH→Res (Option (D × D))):Nat→Nat→AH→Res D
 |0,_,_=>.stuck
 |k+1,i,h=>match s.get i h with
  |none=>.stuck
  |some none=>.ok (.ref n) h
  |some (some x)=>(f x h).bind fun o h'=>match o with
   |some p=>(putop n p.1 p.2 h').bind fun _ h''=>dcmI n s f k (i+1) h''
   |none=>dcmI n s f k (i+1) h'
def flatI (s:Src) (f:D→AH→Res (List D)):Nat→Nat→AH→Res (List D)
 |0,_,_=>.stuck
 |k+1,i,h=>match s.get i h with
  |none=>.stuck
  |some none=>.ok [] h
  |some (some x)=>(f x h).bind fun l h'=>(flatI s f k (i+1) h').bind fun r h''=>.ok (l++r) h''
def wipeE (tg:List Nat) (env:Env):Env:=tg.foldl (fun e i=>e.set i .no) env
def Za6 {α:Type} (r:Res α):Res α:=match r with
 | .exc _ _=>.stuck
 |r=>r
def ldV (env:Env) (i:Nat) (h:AH):Res D:=match env[i]? with
 |some (.v d)=>.ok d h
 |_=>.stuck
def Zm5 (env:Env) (i:Nat):Option (List Nat):=match env[i]? with
 |some (.lams ks)=>some ks
 |_=>none
def Zo4 (f:D→AH→Res D):List D→Option D→AH→Res (List D)
 |[],none,h=>.ok [] h
 |[],some x,h=>.exc x h
 |y::l,fin,h=>(Za6 (f y h)).bind fun o h'=>(Zo4 f l fin h').bind fun r h''=>.ok (o::r) h''
def gitm (tgs:List Nat) (re:Env→AH→Res D) (env:Env):D→AH→Res D:=fun x h=>match ZbB tgs x env with
 |some e=>re e h
 |none=>.stuck
def cmprgR (callg:List D→Option (List D × Option D)) (rg:Env→AH→Res (List D)) (tgs:List Nat) (re:Env→AH→Res D):Env→AH→Res D:=fun env h=>(rg env h).bind fun vs h=>if norefs vs=true then match callg vs with
 |some r=>if r.1.length≤line then (Zo4 (gitm tgs re env) r.1 r.2 h).bind fun l h=>.ok (.lst l) h else .stuck
 |none=>.stuck else .stuck
def gmapI (f:D→AH→Res (Option D)):List D→Option D→AH→Res (List D)
 |[],none,h=>.ok [] h
 |[],some x,h=>.exc x h
 |y::l,fin,h=>(Za6 (f y h)).bind fun o h'=>(gmapI f l fin h').bind fun r h''=>.ok (push o r) h''
def gitmI (tgs:List Nat) (rf:Env→AH→Res Bool) (re:Env→AH→Res D) (env:Env):D→AH→Res (Option D):=fun x h=>match ZbB tgs x env with
 |some e=>(rf e h).bind fun b h=>if b then (re e h).bind fun y h=>.ok (some y) h else .ok none h
 |none=>.stuck
def lstR (cell:Bool) (l:List D) (h:AH):Res D:=if cell then .ok (.ref h.nx) (h.new (.lst l)) else .ok (.lst l) h
def cgiR (cell:Bool) (callg:List D→Option (List D × Option D)) (rg:Env→AH→Res (List D)) (tgs:List Nat) (rf:Env→AH→Res Bool) (re:Env→AH→Res D):Env→AH→Res D:=fun env h=>(rg env h).bind fun vs h=>if norefs vs=true then match callg vs with
 |some r=>if r.1.length≤line then (gmapI (gitmI tgs rf re env) r.1 r.2 h).bind fun l h=>lstR cell l h else .stuck
 |none=>.stuck else .stuck
def padS (rgt:Bool) (w:Nat) (s:List Nat):List Nat:=if rgt then List.replicate (w - s.length) 32++s else s++List.replicate (w - s.length) 32
def lsgR (callg:List D→Option (List D × Option D)) (rg:Env→AH→Res (List D)):Env→AH→Res D:=fun env h=>(rg env h).bind fun vs h=>if norefs vs=true then match callg vs with
  |some r=>if r.1.length≤line then (match r.2 with
   |none=>.ok (.lst r.1) h
   |some x=>.exc x h) else .stuck
  |none=>.stuck else .stuck
def zipgR (callg:List D→Option (List D × Option D)) (rg:Env→AH→Res (List D)):Env→AH→Res Src:=fun env h=>(rg env h).bind fun vs h=>if norefs vs=true then match callg vs with
 |some _=>.ok (.fix []) h
 |none=>.stuck else .stuck
structure Cl where
 f:Bool→Nat→List D→AH→Res D
 x:Nat→Nat→List (Nat × D)→AH→Res D
 why:Nat→Env→AH→Res D
 make:Nat→List D→AH→Res D
 ini:Nat→List D→AH→Res D
 pr:Nat→List D→AH→Res D
 gn:Nat→List D→Option (List D × Option D)
 gen:Nat→List D→Option (List D × Option D)
 mkc:Nat→List D→AH→Res D
 inc:Nat→List D→AH→Res D
 hm:Nat→List D→AH→Res D
 hn:Nat→List D→AH→Res D
 ex:Nat→D→AH→Res D
 exn:Nat→D→AH→Res D
 mht:Nat→List D→AH→Res D
 iht:Nat→List D→AH→Res D
 gmm:Nat→D→Option (List D × Option D)
 gmn:Nat→D→Option (List D × Option D)
def Zji (call:Cl) (kk fm:Nat):Env→AH→Res D:=fun env h=>match env with
 | .v (.ins c fs)::_=>if c=kk then call.f true fm [.ins c fs] h else .stuck
 |_=>.stuck
def ZnW (why:Nat→Env→AH→Res D):List Nat→Env→AH→Res (List D)
 |[],_,h=>.ok [] h
 |k::ks,env,h=>(why k env h).bind fun x h=>(ZnW why ks env h).bind fun l h=>.ok (x::l) h
def mkX (g:G) (c:Nat) (l:List D):Option D:=match g.xcl c,l with
 |some (cd,none),[]=>some (.exc c [(g.cod,.str cd)])
 |some (cd,some f),[v]=>some (.exc c [(g.cod,.str cd),(f,v)])
 |_,_=>none
def dunR (d:Du) (v:D) (h:AH):Res D:=match d,v with
 | .len,.int i=>if 0≤i∧i < 1000000000000 then .ok (.int i) h else .stuck
 | .repr,.str s=>.ok (.str s) h
 | .eq,.bl b=>.ok (.bl b) h
 | .ne,.bl b=>.ok (.bl !b) h
 | .bool,.bl b=>.ok (.bl b) h
 | .has,.bl b=>.ok (.bl b) h
 |_,_=>.stuck
def dunN (d:Du) (l:List D) (h:AH):Res D:=match d,l with
 | .eq,[y]=>Zbv ((ZcB .Eq .non y).map .bl) h
 | .ne,[y]=>Zbv ((ZcB .NotEq .non y).map .bl) h
 |_,_=>.stuck
def Zmk:D→Option (List Nat)
 | .str s=>some s
 | .int i=>if 0≤i∧i < 1000000000000 then some (TL.numL i.toNat) else none
 |_=>none
def nins:D→Bool
 | .non=>true
 | .bl _=>true
 | .int _=>true
 | .str _=>true
 | .tup _=>true
 | .lst _=>true
 |_=>false
def duArg (d:Du) (l:List D):Bool:=match d,l with
 | .len,[]=>true
 | .repr,[]=>true
 | .bool,[]=>true
 | .eq,[.ins _ _]=>true
 | .ne,[.ins _ _]=>true
 | .eq,[x]=>nins x
 | .ne,[x]=>nins x
 | .has,[_]=>true
 |_,_=>false
def rduArg (d:Du) (l:List D) (h:AH):Bool:=match d,l with
 | .eq,[x]=>nins x||(Zc1 x h).isSome
 | .ne,[x]=>nins x||(Zc1 x h).isSome
 |d,l=>duArg d l
def told:List Nat:=[116,111,108,100]
def ZbU {α:Type} (sel:List Nat) (l:List α):Option (List α):=match sel with
 |[]=>some []
 |i::r=>match l[i]?,ZbU r l with
  |some d,some s=>some (d::s)
  |_,_=>none
def Zgv (dfl:List D) (sel:List Nat) (rs rk:Env→AH→Res (List D)):Env→AH→Res (List D):=fun env h=>(rs env h).bind fun l h=>(rk env h).bind fun m h=>match ZbU sel (l++m++dfl) with
 |some vs=>.ok vs h
 |none=>.stuck
def gmOf (g:G) (gmm:Nat→D→Option (List D × Option D)) (m:Nat) (x:D) (h:AH):Option (List D × Option D):=match x with
 | .ref n=>(match h.cell n with
  | .ins c fs=>if noreff fs then (match g.mtd c m with
   |some f=>gmm f (.ins c fs)
   |none=>none) else none
  |_=>none)
 |_=>none
section
variable (g:G) (call:Cl) (c:Bool)
mutual
def evE:E→Env→AH→Res D
 | .var i,env,h=>ldV env i h
 | .cst d,_,h=>.ok d h
 | .glb n,_,h=>.ok (g.glb n) h
 | .bin o a b,env,h=>(evE a env h).bind fun x h=>(evE b env h).bind fun y h=>Zcn o x y h
 | .neg a,env,h=>(evE a env h).bind fun x h=>match x with
  | .int i=>.ok (.int (-i)) h
  |_=>.stuck
 | .not a,env,h=>(evE a env h).bind fun x h=>Zbv ((ZbM x).map fun b=>.bl !b) h
 | .and es,env,h=>evAnd es env h
 | .or es,env,h=>evOr es env h
 | .ife t a b,env,h=>(evE t env h).bind fun x h=>match ZbM x with
  |some true=>evE a env h
  |some false=>evE b env h
  |none=>.stuck
 | .cmp o a b,env,h=>(evE a env h).bind fun x h=>(evE b env h).bind fun y h=>Zbv ((ZcB o x y).map .bl) h
 | .cmp2 o1 o2 a b d,env,h=>(evE a env h).bind fun x h=>(evE b env h).bind fun y h=>match ZcB o1 x y with
  |some true=>(evE d env h).bind fun z h=>Zbv ((ZcB o2 y z).map .bl) h
  |some false=>.ok (.bl false) h
  |none=>.stuck
 | .isn a,env,h=>(evE a env h).bind fun x h=>.ok (.bl (isN x)) h
 | .isnn a,env,h=>(evE a env h).bind fun x h=>.ok (.bl (!isN x)) h
 | .tup es,env,h=>(evEs es env h).bind fun l h=>if l.length≤line then .ok (.tup l) h else .stuck
 | .lst es,env,h=>(evEs es env h).bind fun l h=>if l.length≤line then .ok (.lst l) h else .stuck
 | .hls es,env,h=>(evEs es env h).bind fun l h=>if l.length≤line then .ok (.ref h.nx) (h.new (.lst l)) else .stuck
 | .tupf es fl,env,h=>(evDs es fl env h).bind fun l h=>if l.length≤line then .ok (.tup l) h else .stuck
 | .lstf es fl,env,h=>(evDs es fl env h).bind fun l h=>if l.length≤line then .ok (.lst l) h else .stuck
 | .idx a i,env,h=>(evE a env h).bind fun x h=>(evE i env h).bind fun y h=>ZfI x y h
 | .slc a lo hi,env,h=>(evE a env h).bind fun x h=>(evOp lo env h).bind fun l h=>(evOp hi env h).bind fun u h=>Zfo x l u h
 | .cal f args kws sel,env,h=>(evEs args env h).bind fun l h=>(evEs kws env h).bind fun m h=>match ZbU sel (l++m++g.dfl f) with
  |some vs=>call.f c f vs h
  |none=>.stuck
 | .cald f args kws sel,env,h=>(evEs args env h).bind fun l h=>(evEs kws env h).bind fun m h=>match ZbU sel (l++m++g.dfs f) with
  |some vs=>call.f c f vs h
  |none=>.stuck
 | .bi b a,env,h=>(evE a env h).bind fun x h=>ZeT b x h
 | .isi a k,env,h=>(evE a env h).bind fun x h=>Zbv ((isk x k).map .bl) h
 | .mt m o a,env,h=>(evE o env h).bind fun x h=>match x with
  | .str s=>(evE a env h).bind fun y h=>Zla m (.str s) y h
  |_=>.stuck
 | .mm m o args,env,h=>(evE o env h).bind fun x h=>if Zlb m x h then (evEs args env h).bind fun l h=>ZjZ m x l h else .stuck
 | .same i j,env,h=>(ldV env i h).bind fun x h=>(ldV env j h).bind fun y h=>Zdg x y h
 | .cmpr elt tg it ifs,env,h=>(evIt it env h).bind fun s h=>if s.len h≤line then
   (Za6 (Zeb s (fun x h=>match ZbB tg x env with
    |some e=>(evIfs ifs e h).bind fun b h=>if b then (evE elt e h).bind fun y h=>.ok (some y) h else .ok none h
    |none=>.stuck) (s.len h+1) 0 h)).bind fun r h=>.ok (.lst r) h
  else .stuck
 | .cmpr2 elt tg it ifs tg1 it1 ifs1,env,h=>(evIt it env h).bind fun s h=>(Za6 (flatI s (fun x h=>match ZbB tg x (wipeE tg1 env) with
   |some e=>(evIfs ifs e h).bind fun b h=>if b then (evIt it1 e h).bind fun s1 h=>Zeb s1 (fun y h=>match ZbB tg1 y e with
     |some e=>(evIfs ifs1 e h).bind fun b h=>if b then (evE elt e h).bind fun z h=>.ok (some z) h else .ok none h
     |none=>.stuck) (s1.len h+1) 0 h else .ok [] h
   |none=>.stuck) (s.len h+1) 0 h)).bind fun r h=>if r.length≤line then .ok (.lst r) h else .stuck
 | .xfld i f,env,h=>match env[i]? with
  |some (.exc _ fs)=>Zbv (lkN f fs) h
  |_=>.stuck
 | .xcal f i,env,h=>match env[i]? with
  |some (.exc c fs)=>call.x f c fs h
  |_=>.stuck
 | .why k,env,h=>call.why k env h
 | .whysl ks,env,h=>(ZnW call.why ks env h).bind fun l h=>.ok (.lst l) h
 | .whysv i,env,h=>match Zm5 env i with
  |some (k::ks)=>(ZnW call.why (k::ks) env h).bind fun l h=>.ok (.lst l) h
  |_=>.stuck
 | .cav f k args fl,env,h=>(evDs args fl env h).bind fun l h=>if k≤l.length∧l.length≤line then call.f c f (l.take k++[.tup (l.drop k)]) h else .stuck
 | .fld a f,env,h=>(evE a env h).bind fun x h=>match x with
  | .ins k fs=>(match g.atr k f with
   | .fld=>Zbv (lkN f fs) h
   | .con d=>(match lkN f fs with
    |none=>.ok d h
    |some _=>.stuck)
   | .prp p=>Za6 (call.pr p [.ins k fs] h)
   | .no=>.stuck)
  |_=>.stuck
 | .con k f,_,h=>.ok (g.clc k f) h
 | .mk k args kws sel,env,h=>(evEs args env h).bind fun l h=>(evEs kws env h).bind fun m h=>match ZbU sel (l++m++g.cdf k) with
  |some vs=>call.make k vs h
  |none=>.stuck
 | .mkv k args fl,env,h=>(evDs args fl env h).bind fun l h=>if l.length≤line then call.make k [.tup l] h else .stuck
 | .mth o m args kws sel,env,h=>(evE o env h).bind fun x h=>match x with
  | .ins k fs=>(match g.mtd k m with
   |some f=>(evEs args env h).bind fun l h=>(evEs kws env h).bind fun r h=>(match ZbU sel (.ins k fs::l++r++g.dfl f) with
    |some vs=>call.f c f vs h
    |none=>.stuck)
   |none=>.stuck)
  |_=>.stuck
 | .stt k m args kws sel,env,h=>match g.sta k m with
  |some f=>(evEs args env h).bind fun l h=>(evEs kws env h).bind fun r h=>(match ZbU sel (l++r++g.dfl f) with
   |some vs=>call.f c f vs h
   |none=>.stuck)
  |none=>.stuck
 | .isc a k,env,h=>(evE a env h).bind fun x h=>match x with
  | .ins j _=>.ok (.bl (g.isa j k)) h
  |x=>if nins x then .ok (.bl false) h else .stuck
 | .dun d o args,env,h=>(evE o env h).bind fun x h=>match x with
  | .ins k fs=>(match g.dmt k d with
   |some f=>(evEs args env h).bind fun l h=>if duArg d l then (Za6 (call.pr f (.ins k fs::l) h)).bind fun v h=>dunR d v h else .stuck
   |none=>.stuck)
  | .non=>(evEs args env h).bind fun l h=>dunN d l h
  |_=>.stuck
 | .cao o args kws sel,env,h=>(evE o env h).bind fun x h=>match x with
  | .ins k fs=>(match g.dmt k .call with
   |some f=>(evEs args env h).bind fun l h=>(evEs kws env h).bind fun r h=>(match ZbU sel (.ins k fs::l++r++g.dfl f) with
    |some vs=>call.f c f vs h
    |none=>.stuck)
   |none=>.stuck)
  |_=>.stuck
 | .fst es,env,h=>evFs es [] env h
 | .hlst a,env,h=>(evE a env h).bind fun x h=>hlstop x h
 | .frz a,env,h=>(evE a env h).bind fun x h=>ZeS x h
 | .clr a,env,h=>(evE a env h).bind fun x h=>clrop x h
 | .cmprg elt tg f args kws sel,env,h=>cmprgR (call.gen f) (Zgv (g.dfl f) sel (evEs args) (evEs kws)) tg (evE elt) env h
 | .dsp es,env,h=>(evPs es env (h.new (.dct false []))).bind fun p h'=>dspop h.nx p.1 p.2 h'
 | .dst a b,env,h=>(evE a env (h.new (.dct false []))).bind fun x h1=>(ZjY h.nx x h1).bind fun _ h1=>(evE b env h1).bind fun y h2=>(ZjY h.nx y h2).bind fun _ h2=>.ok (.ref h.nx) h2
 | .dsk a k v,env,h=>(evE a env (h.new (.dct false []))).bind fun x h1=>(ZjY h.nx x h1).bind fun _ h1=>(evE k env h1).bind fun y h2=>(evE v env h2).bind fun z h3=>(putop h.nx y z h3).bind fun _ h4=>.ok (.ref h.nx) h4
 | .dcm kx vx tg it ifs,env,h=>(evIt it env h).bind fun s h=>if s.len h < line then
   Za6 (dcmI h.nx s (fun x h=>match ZbB tg x env with
    |some e=>(evIfs ifs e h).bind fun b h=>if b then (evE kx e h).bind fun y h=>(evE vx e h).bind fun z h=>.ok (some (y,z)) h else .ok none h
    |none=>.stuck) (s.len h+1) 0 (h.new (.dct false []))) else .stuck
 | .dcp a,env,h=>(evE a env h).bind fun x h=>dcpop x h
 | .dpr a,env,h=>(evE a env h).bind fun x h=>dprop x h
 | .dls a,env,h=>(evE a env h).bind fun x h=>dlsop x h
 | .dln a,env,h=>(evE a env h).bind fun x h=>dlnop x h
 | .dix o k,env,h=>(evE o env h).bind fun x h=>(evE k env h).bind fun y h=>dixop x y h
 | .dget o k d,env,h=>(evE o env h).bind fun x h=>if (ZfW x h).isSome then (evE k env h).bind fun y h=>(evE d env h).bind fun z h=>Znv x y z h else .stuck
 | .ind neg k o,env,h=>(evE k env h).bind fun y h=>(evE o env h).bind fun x h=>match x with
  | .ins kk fs=>(match g.dmt kk .has with
   |some f=>(Za6 (call.pr f [.ins kk fs,y] h)).bind fun v h=>(match v with
    | .bl b=>.ok (.bl (b != neg)) h
    |_=>.stuck)
   |none=>.stuck)
  |x=>indop neg y x h
 | .srd a,env,h=>(evE a env h).bind fun x h=>srdop x h
 | .srk r a,env,h=>(evE a env h).bind fun x h=>(ldV env r h).bind fun v h=>srkop v x h
 | .lrg a,env,h=>(evE a env h).bind fun x h=>lrgop x h
 | .inr neg a b,env,h=>(evE a env h).bind fun x h=>(evE b env h).bind fun y h=>Zbv ((inrB neg x y h).map .bl) h
 | .had a b,env,h=>(evE a env h).bind fun x h=>(evE b env h).bind fun y h=>hadop x y h
 | .mx2 a b,env,h=>(evE a env h).bind fun x h=>(evE b env h).bind fun y h=>mx2op x y h
 | .lix o a,env,h=>(evE o env h).bind fun x h=>match x with
  | .lst l=>(evE a env h).bind fun y h=>lixop (.lst l) y h
  |_=>.stuck
 | .hmk k args kws sel,env,h=>(evEs args env h).bind fun l h=>(evEs kws env h).bind fun m h=>match ZbU sel (l++m++g.cdf k) with
  |some vs=>hmkop (call.make k vs h)
  |none=>.stuck
 | .tds es,env,h=>match es with
  | .nil=>.ok (.ref h.nx) (h.new (.tdc []))
  | .cons k (.cons v .nil)=>(evE k env (h.new (.tdc []))).bind fun y h1=>(evE v env h1).bind fun z h2=>(match ZmM (.ref h.nx) y z h2 with
   |some h3=>.ok (.ref h.nx) h3
   |none=>.stuck)
  |_=>.stuck
 | .tix o k,env,h=>(evE o env h).bind fun x h=>(evE k env h).bind fun y h=>tixop x y h
 | .tgt o k d,env,h=>(evE o env h).bind fun x h=>if (tdOf x h).isSome then (evE k env h).bind fun y h=>(evE d env h).bind fun z h=>tgetop x y z h else .stuck
 | .lsg f args kws sel,env,h=>lsgR (call.gen f) (Zgv (g.dfl f) sel (evEs args) (evEs kws)) env h
 | .tin neg k o,env,h=>(evE k env h).bind fun y h=>(evE o env h).bind fun x h=>tinop neg y x h
 | .isb neg b a,env,h=>(evE a env h).bind fun x h=>match x with
  | .bl d=>.ok (.bl ((d == b) != neg)) h
  |_=>.stuck
 | .isr a k,env,h=>(evE a env h).bind fun x h=>Zbv ((iskH x k h).map .bl) h
 | .hcm elt tg it ifs,env,h=>(evIt it env h).bind fun s h=>if s.len h≤line then
   (Za6 (Zeb s (fun x h=>match ZbB tg x env with
    |some e=>(evIfs ifs e h).bind fun b h=>if b then (evE elt e h).bind fun y h=>.ok (some y) h else .ok none h
    |none=>.stuck) (s.len h+1) 0 h)).bind fun r h=>.ok (.ref h.nx) (h.new (.lst r))
  else .stuck
 | .cgi cell elt tg f args kws sel ifs,env,h=>cgiR cell (call.gen f) (Zgv (g.dfl f) sel (evEs args) (evEs kws)) tg (evIfs ifs) (evE elt) env h
 | .rfl a f,env,h=>(evE a env h).bind fun x h=>match Zc1 x h with
  |some (k,fs)=>(match g.atr k f with
   | .fld=>Zbv (lkN f fs) h
   | .con d=>(match lkN f fs with
    |none=>.ok d h
    |some _=>.stuck)
   | .prp p=>Za6 (call.pr p [x] h)
   | .no=>.stuck)
  |none=>.stuck
 | .rmt o m args kws sel,env,h=>(evE o env h).bind fun x h=>match Zc1 x h with
  |some (k,_)=>(match g.mtd k m with
   |some f=>(evEs args env h).bind fun l h=>(evEs kws env h).bind fun r h=>(match ZbU sel (x::l++r++g.dfl f) with
    |some vs=>call.f c f vs h
    |none=>.stuck)
   |none=>.stuck)
  |none=>.stuck
 | .rmv o m kf args fl,env,h=>(evE o env h).bind fun x h=>match Zc1 x h with
  |some (k,_)=>(match g.mtd k m with
   |some f=>(evDs args fl env h).bind fun l h=>if kf≤l.length∧l.length≤line then call.f c f (x::l.take kf++[.tup (l.drop kf)]) h else .stuck
   |none=>.stuck)
  |none=>.stuck
 | .rdu d o args,env,h=>(evE o env h).bind fun x h=>(evEs args env h).bind fun l h=>match Zc1 x h with
  |some (k,_)=>(match g.dmt k d with
   |some f=>if rduArg d l h then (Za6 (call.pr f (x::l) h)).bind fun v h=>dunR d v h else .stuck
   |none=>.stuck)
  |none=>.stuck
 | .rin neg k o,env,h=>(evE k env h).bind fun y h=>(evE o env h).bind fun x h=>match Zc1 x h with
  |some (kk,_)=>(match g.dmt kk .has with
   |some f=>(Za6 (call.pr f [x,y] h)).bind fun v h=>(match v with
    | .bl b=>.ok (.bl (b != neg)) h
    |_=>.stuck)
   |none=>.stuck)
  |none=>.stuck
 | .ric a k,env,h=>(evE a env h).bind fun x h=>match Zc1 x h with
  |some (j,_)=>.ok (.bl (g.isa j k)) h
  |none=>if nins x then .ok (.bl false) h else .stuck
 | .rca o args kws sel,env,h=>(evE o env h).bind fun x h=>match Zc1 x h with
  |some (k,_)=>(match g.dmt k .call with
   |some f=>(evEs args env h).bind fun l h=>(evEs kws env h).bind fun r h=>(match ZbU sel (x::l++r++g.dfl f) with
    |some vs=>call.f c f vs h
    |none=>.stuck)
   |none=>.stuck)
  |none=>.stuck
 | .hnw k args kws sel,env,h=>(evEs args env h).bind fun l h=>(evEs kws env h).bind fun m h=>match ZbU sel (l++m++g.cdf k) with
  |some vs=>call.hm k vs h
  |none=>.stuck
 | .kgt n k d,env,h=>match g.glb n with
  | .kdt l=>(evE k env h).bind fun y h=>(evE d env h).bind fun z h=>match y with
   | .str s=>.ok ((lkD (.str s) l).getD z) h
   |_=>.stuck
  |_=>.stuck
 | .pad rgt w a,env,h=>(evE a env h).bind fun x h=>match Zmk x with
  |some s=>if s.length≤line then .ok (.str (padS rgt w s)) h else .stuck
  |none=>.stuck
 | .mkt k args kws sel,env,h=>(evEs args env h).bind fun l h=>(evEs kws env h).bind fun m h=>match ZbU sel (l++m++g.cdf k) with
  |some vs=>call.mht k vs h
  |none=>.stuck
 | .hsr a,env,h=>(evE a env h).bind fun x h=>Zmw (srdop x h)
 | .hdl a,env,h=>(evE a env h).bind fun x h=>Zmw (dlsop x h)
 | .mn2 a b,env,h=>(evE a env h).bind fun x h=>(evE b env h).bind fun y h=>mn2op x y h
 | .fri a,env,h=>(evE a env h).bind fun x h=>ZfL x h
 | .cgm cell elt tg o m,env,h=>(evE o env h).bind fun x h=>match gmOf g call.gmm m x h with
  |some r=>if r.1.length≤line then (Zo4 (gitm tg (evE elt) env) r.1 r.2 h).bind fun l h=>lstR cell l h else .stuck
  |none=>.stuck
 | .lzg f1 a1 s1 f2 a2 s2,env,h=>(Zgv (g.dfl f1) s1 (evEs a1) (fun _ h=>.ok [] h) env h).bind fun vs h=>(Zgv (g.dfl f2) s2 (evEs a2) (fun _ h=>.ok [] h) env h).bind fun us h=>if norefs vs&&norefs us then (match call.gen f1 vs,call.gen f2 us with
  |some (l,none),some (m,none)=>if l.length=m.length∧l.length≤line then .ok (.lst (zips l m)) h else .stuck
  |_,_=>.stuck) else .stuck
 | .srt s,env,h=>(evSE s env h).bind fun l h=>ZeM l h
 | .hst s,env,h=>(evSE s env h).bind fun l h=>Zmw (ZeM l h)
 | .lse s,env,h=>(evSE s env h).bind fun l h=>lseop l h
def evSE:SE→Env→AH→Res (List D)
 | .of a,env,h=>(evE a env h).bind fun x h=>Zjw x h
 | .cmp sc elt tg it ifs,env,h=>(evIt it env h).bind fun s h=>if s.len h≤400 then
   Za6 (Zeb s (fun x h=>match ZbB tg x env with
    |some e=>(evIfs ifs e h).bind fun b h=>if b then (evE elt e h).bind fun y h=>if ZdD sc y then .ok (some y) h else .stuck else .ok none h
    |none=>.stuck) (s.len h+1) 0 h) else .stuck
 | .or a b,env,h=>if seT a&&seT b then (evSE a env h).bind fun l h=>(evSE b env h).bind fun m h=>seOr l m h else .stuck
def evPs:Es→Env→AH→Res (List D × List D)
 | .nil,_,h=>.ok ([],[]) h
 | .cons k r,env,h=>match r with
  | .cons v r=>(evE k env h).bind fun x h=>(evE v env h).bind fun y h=>(evPs r env h).bind fun p h=>.ok (x::p.1,y::p.2) h
  | .nil=>.stuck
def evFs:Es→List Nat→Env→AH→Res D
 | .nil,acc,_,h=>.ok (.str acc) h
 | .cons e r,acc,env,h=>(evE e env h).bind fun x h=>match Zmk x with
  |some s=>if (acc++s).length≤line then evFs r (acc++s) env h else .stuck
  |none=>.stuck
def evEs:Es→Env→AH→Res (List D)
 | .nil,_,h=>.ok [] h
 | .cons e r,env,h=>(evE e env h).bind fun x h=>(evEs r env h).bind fun l h=>.ok (x::l) h
def evDs:Es→List Bool→Env→AH→Res (List D)
 | .nil,_,_,h=>.ok [] h
 | .cons e r,fl,env,h=>(evE e env h).bind fun x h=>match fl with
  |false::fl=>(evDs r fl env h).bind fun l h=>.ok (x::l) h
  |true::fl=>(match x with
   | .lst a=>(evDs r fl env h).bind fun l h=>.ok (a++l) h
   | .tup a=>(evDs r fl env h).bind fun l h=>.ok (a++l) h
   |_=>.stuck)
  |[]=>.stuck
def evAnd:Es→Env→AH→Res D
 | .nil,_,_=>.stuck
 | .cons e r,env,h=>match r with
  | .nil=>evE e env h
  | .cons _ _=>(evE e env h).bind fun x h=>match ZbM x with
   |some true=>evAnd r env h
   |some false=>.ok x h
   |none=>.stuck
def evOr:Es→Env→AH→Res D
 | .nil,_,_=>.stuck
 | .cons e r,env,h=>match r with
  | .nil=>evE e env h
  | .cons _ _=>(evE e env h).bind fun x h=>match ZbM x with
   |some true=>.ok x h
   |some false=>evOr r env h
   |none=>.stuck
def evOp:Op→Env→AH→Res (Option Int)
 | .no,_,h=>.ok none h
 | .so e,env,h=>(evE e env h).bind fun x h=>match x with
  | .int i=>.ok (some i) h
  |_=>.stuck
def evIfs:Es→Env→AH→Res Bool
 | .nil,_,h=>.ok true h
 | .cons e _,env,h=>(evE e env h).bind fun x h=>Zbv (ZbM x) h
def evIt:It→Env→AH→Res Src
 | .seq e,env,h=>(evE e env h).bind fun x h=>Zbv (Zlw x h) h
 | .rng a,env,h=>(evE a env h).bind fun x h=>match x with
  | .int i=>if -(2 ^ 62)≤i∧i < 2 ^ 62 then .ok (.fix (Zcm 0 i)) h else .stuck
  |_=>.stuck
 | .rng2 a b,env,h=>(evE a env h).bind fun x h=>(evE b env h).bind fun y h=>match x,y with
  | .int i,.int j=>if (-(2 ^ 62)≤i∧i < 2 ^ 62)∧ -(2 ^ 62)≤j∧j < 2 ^ 62 then .ok (.fix (Zcm i j)) h else .stuck
  |_,_=>.stuck
 | .enum e,env,h=>(evE e env h).bind fun x h=>Zbv (enumOf x h) h
 | .zip a b,env,h=>(evE a env h).bind fun x h=>(evE b env h).bind fun y h=>Zbv (zipOf x y) h
 | .zipg f args kws sel,env,h=>zipgR (call.gen f) (Zgv (g.dfl f) sel (evEs args) (evEs kws)) env h
 | .itm e,env,h=>(evE e env h).bind fun x h=>Zbv (itmOf x) h
 | .vls e,env,h=>(evE e env h).bind fun x h=>Zbv (vlsOf x) h
 | .dky e,env,h=>(evE e env h).bind fun x h=>Zbv (dkyOf x) h
end
def evH (hd:Hd) (ex e:Env) (h:AH):Res Fl:=match hd with
 | .ret t=>(Za6 (evE g call false t ex h)).bind fun x h=>.ok (.rt x) h
 | .asg j t=>(Za6 (evE g call false t ex h)).bind fun x h=>.ok (.nx (e.set j (.v x))) h
 | .rsn k args=>(Za6 (evEs g call false args ex h)).bind fun l h=>Zbv ((mkX g k l).map fun x=>.xc x e) h
def evT (e:E) (env:Env) (h:AH):Res Bool:=(evE g call c e env h).bind fun x h=>Zbv (ZbM x) h
mutual
def evS:S→Env→AH→Res Fl
 | .expr e,env,h=>(evE g call c e env h).bindX env fun _ h=>.ok (.nx env) h
 | .asg i e,env,h=>(evE g call c e env h).bindX env fun x h=>.ok (.nx (env.set i (.v x))) h
 | .asgt is e,env,h=>(evE g call c e env h).bindX env fun x h=>Zbv ((ZbB is x env).map .nx) h
 | .aug i o e,env,h=>(ldV env i h).bindX env fun x h=>(evE g call c e env h).bindX env fun y h=>(match x,y with
   | .int _,.int _=>Zcn o x y h
   | .str _,.str _=>Zcn o x y h
   |_,_=>.stuck).bindX env fun z h=>.ok (.nx (env.set i (.v z))) h
 | .ret e,env,h=>(evE g call c e env h).bindX env fun x h=>.ok (.rt x) h
 | .retn,_,h=>.ok (.rt .non) h
 | .ifs t a b,env,h=>(evT g call c t env h).bindX env fun k h=>if k then evSs a env h else evSs b env h
 | .for tg it b,env,h=>(evIt g call c it env h).bindX env fun s h=>ZiU s (fun x env h=>match ZbB tg x env with
   |some e=>evSs b e h
   |none=>.stuck) (s.len h+1) 0 env h
 | .whl t b,env,h=>Zjd (evT g call c t) (evSs b) 4096 env h
 | .brk,env,h=>.ok (.bk env) h
 | .cnt,env,h=>.ok (.ct env) h
 | .pass,env,h=>.ok (.nx env) h
 | .never,_,_=>.stuck
 | .seti o i e,env,h=>(evE g call c e env h).bindX env fun x h=>(evE g call c o env h).bindX env fun y h=>(evE g call c i env h).bindX env fun z h=>match y,z with
  | .ref n,.int k=>match h.cell n with
   | .lst l=>match L2.ixN l.length k with
    |some j=>.ok (.nx env) (h.put n (.lst (l.set j x)))
    |none=>.stuck
   |_=>.stuck
  |_,_=>.stuck
 | .forg tg f args kws sel b,env,h=>(Zgv (g.dfl f) sel (evEs g call c args) (evEs g call c kws) env h).bindX env fun vs h=>if norefs vs=true then match call.gen f vs with
  |some r=>Zmg (fun x env h=>match ZbB tg x env with
   |some e=>evSs b e h
   |none=>.stuck) r.1 r.2 env h
  |none=>.stuck else .stuck
 | .trm k args kws sel xc yc,env,h=>(Za6 (evEs g call c args env h)).bind fun l h=>(Za6 (evEs g call c kws env h)).bind fun m h=>match ZbU sel (l++m++g.cdf k) with
  |some vs=>(match call.mkc k vs h with
   | .ok v h=>.ok (.rt v) h
   | .exc (.exc cc _) h=>if cc=xc then Zbv ((mkX g yc []).map fun x=>.xc x env) h else .stuck
   |_=>.stuck)
  |none=>.stuck
 | .rse k args,env,h=>(evEs g call c args env h).bindX env fun l h=>Zbv ((mkX g k l).map fun x=>.xc x env) h
 | .try1 b cs i hd,env,h=>(evSs b env h).bind fun f h=>match f with
  | .xc (.exc c fs) e=>if cs.any (fun d=>g.sub c d) then evH g call hd (match i with
    |some i=>e.set i (.exc c fs)
    |none=>e) (match i with
    |some i=>e.set i .no
    |none=>e) h else .stuck
  | .xc _ _=>.stuck
  |f=>.ok f h
 | .lasg i ks,env,h=>.ok (.nx (env.set i (.lams ks))) h
 | .ladd i ks,env,h=>match Zm5 env i with
  |some js=>if js.length≤1000 then .ok (.nx (env.set i (.lams (js++ks)))) h else .stuck
  |none=>.stuck
 | .setd o k e,env,h=>(evE g call c e env h).bindX env fun v h=>(evE g call c o env h).bindX env fun x h=>(evE g call c k env h).bindX env fun y h=>match ZmT x y v h with
  |some h=>.ok (.nx env) h
  |none=>.stuck
 | .sett o k e,env,h=>(evE g call c e env h).bindX env fun v h=>(evE g call c o env h).bindX env fun x h=>(evE g call c k env h).bindX env fun y h=>match ZmM x y v h with
  |some h=>.ok (.nx env) h
  |none=>.stuck
 | .aua i f o e,env,h=>(ldV env i h).bindX env fun x h=>match x with
  | .ref n=>(match h.cell n with
   | .ins k fs=>(match lkN f fs with
    |some (.int y)=>if isFld (g.atr k f) then (evE g call c e env h).bindX env fun z h=>(match z,h.cell n with
     | .int z,.ins k2 fs2=>if k2=k∧fs2.length < 900 then (Zcn o (.int y) (.int z) h).bindX env fun r h=>.ok (.nx env) (h.put n (.ins k (Zd1 f r fs2))) else .stuck
     |_,_=>.stuck) else .stuck
    |_=>.stuck)
   |_=>.stuck)
  |_=>.stuck
 | .stp o f e,env,h=>(evE g call c e env h).bindX env fun v h=>(evE g call c o env h).bindX env fun x h=>match Zc1 x h with
  |some (k,_)=>(match g.pst k f with
   |some p=>(call.pr p [x,v] h).bindX env fun _ h=>.ok (.nx env) h
   |none=>.stuck)
  |none=>.stuck
 | .sat i fs es,env,h=>(evEs g call c es env h).bindX env fun l h=>(ldV env i h).bindX env fun x h=>match satop g x fs l h with
  |some h=>.ok (.nx env) h
  |none=>.stuck
 | .wth e b,env,h=>(evE g call c e env h).bindX env fun m h=>match m with
  | .ins k fs=>(match g.dmt k .enter,g.dmt k .exit with
   |some fe,some fx=>(Za6 (call.pr fe [.ins k fs] h)).bind fun _ h=>(evSs b env h).bind fun f h=>(match f with
    | .xc x e=>(Za6 (call.ex fx (.ins k fs) h)).bind fun v h=>if isN v then .ok (.xc x e) h else .stuck
    |f=>(Za6 (call.pr fx [.ins k fs,.non,.non,.non] h)).bind fun _ h=>.ok f h)
   |_,_=>.stuck)
  |_=>.stuck
 | .fgm tg o m b,env,h=>(evE g call c o env h).bindX env fun x h=>match gmOf g call.gmm m x h with
  |some r=>Zmg (fun x env h=>match ZbB tg x env with
   |some e=>evSs b e h
   |none=>.stuck) r.1 r.2 env h
  |none=>.stuck
 | .asx is i js e,env,h=>(evE g call c e env h).bindX env fun x h=>match x with
  | .lst l=>if is.length+js.length≤l.length then .ok (.nx (bindN js (l.drop (l.length - js.length)) ((bindN is (l.take is.length) env).set i (.v (.lst ((l.drop is.length).take (l.length - js.length - is.length))))))) h else .stuck
  |_=>.stuck
 | .sli i,env,h=>(ldV env i h).bindX env fun x h=>(ZfL x h).bindX env fun v h=>.ok (.nx (env.set i (.v v))) h
 | .sta o f e,env,h=>(evE g call c e env h).bindX env fun v h=>(evE g call c o env h).bindX env fun x h=>match Zoc g x f v h with
  |some h=>.ok (.nx env) h
  |none=>.stuck
 | .still i,env,h=>(ldV env i h).bindX env fun x h=>(ZeS x h).bindX env fun v h=>.ok (.nx (env.set i (.v v))) h
 | .mch e cs,env,h=>(evE g call c e env h).bindX env fun x h=>match x with
  | .str s=>evMs s cs env h
  |_=>.stuck
 | .rsf k f es,env,h=>((Zji call k f env h).bind fun x h=>match Zmk x with
  |some s=>if s.length≤line then evFs g call c es s env h else .stuck
  |none=>.stuck).bindX env fun v h=>.ok (.rt v) h
def evMs (s:List Nat):Ms→Env→AH→Res Fl
 | .nil,env,h=>.ok (.nx env) h
 | .cons t b r,env,h=>if s=t then evSs b env h else evMs s r env h
def evSs:Ss→Env→AH→Res Fl
 | .nil,env,h=>.ok (.nx env) h
 | .cons s r,env,h=>(evS s env h).bind fun f h=>match f with
  | .nx e=>evSs r e h
  |f=>.ok f h
end
end
section
variable (g:G) (call:Cl) (c:Bool)
mutual
def evG:Gn→Env→AH→Res (List D × Fl)
 | .pl s,env,h=>(evS g call c s env h).bind fun f h=>.ok ([],f) h
 | .yld e,env,h=>match evE g call c e env h with
  | .ok x h=>if ZlM x=true then .ok ([x],.nx env) (ZmQ h) else .stuck
  | .exc x h=>.ok ([],.xc x env) h
  | .stuck=>.stuck
 | .yfr e,env,h=>gyfR (evE g call c e) env h
 | .for tg it b,env,h=>match evIt g call c it env h with
  | .ok s h=>Zo7 s (fun x env h=>match ZbB tg x env with
   |some e=>evGs b e h
   |none=>.stuck) (s.len h+1) 0 env h
  | .exc x h=>.ok ([],.xc x env) h
  | .stuck=>.stuck
 | .forg tg f args kws sel b,env,h=>match Zgv (g.dfl f) sel (evEs g call c args) (evEs g call c kws) env h with
  | .ok vs h=>if norefs vs=true then match call.gen f vs with
   |some r=>Zko (fun x env h=>match ZbB tg x env with
    |some e=>evGs b e h
    |none=>.stuck) r.1 r.2 env h
   |none=>.stuck else .stuck
  | .exc x h=>.ok ([],.xc x env) h
  | .stuck=>.stuck
def evGs:Gns→Env→AH→Res (List D × Fl)
 | .nil,env,h=>.ok ([],.nx env) h
 | .cons s r,env,h=>(evG s env h).bind fun p h=>match p.2 with
  | .nx e=>(evGs r e h).bind fun q h=>.ok (p.1++q.1,q.2) h
  |f=>.ok (p.1,f) h
end
end
def fin (r:Res Fl):Res D:=(Za6 r).bind fun f h=>match f with
 | .nx _=>.ok .non h
 | .rt d=>.ok d h
 | .xc x _=>.exc x h
 |_=>.stuck
def whyR (g:G) (call:Cl) (k:Nat) (env:Env) (h:AH):Res D:=match evE g call true (g.lam k) ((g.lamw k).foldl (fun e i=>e.set i .no) env) h with
 | .ok v h=>.ok (.tup [.str told,v]) h
 | .exc (.exc c fs) h=>match lkN g.cod fs with
  |some cd=>(Za6 (call.x g.fld c fs h)).bind fun v h=>.ok (.tup [cd,v]) h
  |none=>.stuck
 |_=>.stuck
def Zld:Env→Bool
 | .me::_=>true
 |_=>false
def evB (g:G) (call:Cl) (c:Bool):List BI→Env→List (Nat × D)→AH→Res (List (Nat × D))
 |[],_,fs,h=>.ok fs h
 | .reg s::r,env,fs,h=>(Za6 (evS g call c s env h)).bind fun f h=>match f with
  | .nx e=>if Zld e then evB g call c r e fs h else .stuck
  | .xc x _=>.exc x h
  |_=>.stuck
 | .sto f e::r,env,fs,h=>(evE g call c e env h).bind fun d h=>if fs.length < 900 then evB g call c r env (Zd1 f d fs) h else .stuck
 | .sup b args::r,env,fs,h=>if fs.isEmpty then (evEs g call c args env h).bind fun l h=>(call.make b l h).bind fun v h=>(match v with
  | .ins b' fs'=>if b'=b then evB g call c r env fs' h else .stuck
  |_=>.stuck) else .stuck
def mkR (g:G) (call:Cl) (k:Nat) (vs:List D) (h:AH):Res D:=match g.ctr k with
 |some ct=>if vs.length=ct.np then (evB g call true ct.items (.me::(vs.map .v++List.replicate (ct.nb - (ct.np+1)) .no)) [] h).bind fun fs h=>.ok (.ins k fs) h else .stuck
 |none=>.stuck
def mkH (g:G) (call:Cl) (k:Nat) (vs:List D) (h:AH):Res D:=match g.ctt k with
 |some (ct,p,e)=>if vs.length=ct.np then (evB g call true ct.items (.me::(vs.map .v++List.replicate (ct.nb - (ct.np+1)) .no)) [] h).bind fun fs h=>
   (evE g call true e (.me::(vs.map .v++List.replicate (ct.nb - (ct.np+1)) .no)) h).bind fun v h=>(call.pr p [.ref h.nx,v] (h.new (.ins k fs))).bind fun _ h'=>.ok (.ref h.nx) h' else .stuck
 |none=>.stuck
def Zpj (g:G) (call:Cl):S→Env→AH→Res Fl
 | .ifs t (.cons (.rse kc es) .nil) .nil,env,h=>(Za6 (evE g call true t env h)).bind fun x h=>match ZbM x with
  |some true=>(Za6 (evEs g call true es env h)).bind fun l h=>Zbv ((mkX g kc l).map fun x=>.xc x env) h
  |some false=>.ok (.nx env) h
  |none=>.stuck
 |_,_,_=>.stuck
def evC (g:G) (call:Cl):List BI→Env→List (Nat × D)→AH→Res (List (Nat × D))
 |[],_,fs,h=>.ok fs h
 | .reg s::r,env,fs,h=>(Za6 (Zpj g call s env h)).bind fun f h=>match f with
  | .nx e=>if Zld e then evC g call r e fs h else .stuck
  | .xc x _=>.exc x h
  |_=>.stuck
 | .sto f e::r,env,fs,h=>(Za6 (evE g call true e env h)).bind fun d h=>if fs.length < 900 then evC g call r env (Zd1 f d fs) h else .stuck
 | .sup _ _::_,_,_,_=>.stuck
def mkRc (g:G) (call:Cl) (k:Nat) (vs:List D) (h:AH):Res D:=match g.ctr k with
 |some ct=>if vs.length=ct.np then (evC g call ct.items (.me::(vs.map .v++List.replicate (ct.nb - (ct.np+1)) .no)) [] h).bind fun fs h=>.ok (.ins k fs) h else .stuck
 |none=>.stuck
def genR (g:G) (call:Cl) (gd:GnD) (ds:List D):Option (List D × Option D):=if ds.length=gd.np then match evGs g call true gd.body (ds.map .v++List.replicate (gd.nb - gd.np) .no) AH.none with
  | .ok (l,.nx _) _=>some (l,none)
  | .ok (l,.xc (.exc c fs) _) _=>if noreff fs=true then some (l,some (.exc c fs)) else none
  |_=>none
 else none
def Znb:Ss→Bool
 | .nil=>true
 |_=>false
def Zoz:Sl→Sl
 | .v d=>if dpt 60 d then .v d else .no
 |_=>.no
def genM (g:G) (call:Cl) (gd:GnD) (x:D):Option (List D × Option D):=if gd.np=1 then match evSs g call true gd.pre (.v x::List.replicate (gd.nb - 1) .no) AH.none with
  | .ok (.nx env) _=>(match evGs g call true gd.body (env.map Zoz) AH.none with
   | .ok (l,.nx _) _=>some (l,none)
   |_=>none)
  |_=>none
 else none
def mkRt (g:G) (call:Cl) (k:Nat) (vs:List D) (h:AH):Res D:=match g.ctr k with
 |some ct=>if vs.length=ct.np then (evB g call false ct.items (.me::(vs.map .v++List.replicate (ct.nb - (ct.np+1)) .no)) [] h).bind fun fs h=>.ok (.ins k fs) h else .stuck
 |none=>.stuck
def cN (g:G):Nat→Cl
 |0=>⟨fun _ _ _ _=>.stuck,fun _ _ _ _=>.stuck,fun _ _ _=>.stuck,fun _ _ _=>.stuck,fun _ _ _=>.stuck,fun _ _ _=>.stuck,fun _ _=>none,fun _ _=>none,fun _ _ _=>.stuck,fun _ _ _=>.stuck,fun _ _ _=>.stuck,fun _ _ _=>.stuck,
  fun _ _ _=>.stuck,fun _ _ _=>.stuck,fun _ _ _=>.stuck,fun _ _ _=>.stuck,fun _ _=>none,fun _ _=>none⟩
 |n+1=>⟨fun c f vs h=>match g.fn f with
   |some fd=>if vs.length=fd.np then fin (evSs g (cN g n) c fd.body (vs.map .v++List.replicate (fd.nb - fd.np) .no) h) else .stuck
   |none=>.stuck,
  fun f c fs h=>match g.fn f with
   |some fd=>if fd.np=1 then fin (evSs g (cN g n) false fd.body (.exc c fs::List.replicate (fd.nb - 1) .no) h) else .stuck
   |none=>.stuck,
  fun k env h=>whyR g (cN g n) k env h,
  fun k vs h=>(cN g n).ini k vs h,
  fun k vs h=>mkR g (cN g n) k vs h,
  fun f vs h=>(cN g n).f true f vs h,
  fun f vs=>match g.gn f with
   |some gd=>if Znb gd.pre then genR g (cN g n) gd vs else none
   |none=>none,
  fun f vs=>(cN g n).gn f vs,
  fun k vs h=>(cN g n).inc k vs h,
  fun k vs h=>mkRc g (cN g n) k vs h,
  fun k vs h=>(cN g n).hn k vs h,
  fun k vs h=>mkH g (cN g n) k vs h,
  fun f m h=>(cN g n).exn f m h,
  fun f m h=>match g.fn f with
   |some fd=>if fd.np=4 then fin (evSs g (cN g n) false fd.body (.v m::List.replicate (fd.nb - 1) .no) h) else .stuck
   |none=>.stuck,
  fun k vs h=>(cN g n).iht k vs h,
  fun k vs h=>mkRt g (cN g n) k vs h,
  fun f x=>(cN g n).gmn f x,
  fun f x=>match g.gn f with
   |some gd=>if Znb gd.pre then none else genM g (cN g n) gd x
   |none=>none⟩
abbrev callN (g:G) (n:Nat):Bool→Nat→List D→AH→Res D:=(cN g n).f
end Rk
set_option maxHeartbeats 0
/-! Rk.B:plain data in the layer's heaps. -/
namespace Rk
open PySem PySem.Spec PyProof.Rows L2
structure Zd6 where
 params:Arguments
 body:Expr
 scope:Scope
structure Gi where
 K:PySem.W.Frag
 ca:Nat→Addr
 an:Nat→Str
 nn:Nat
 fa:Nat→Addr
 fd:Nat→FuncData
 fps:Nat→List Str
 fdv:Nat→List V
 pn:List (Addr × Obj)
 tabs:List (Addr × Str)
 cells:List (Str × Addr)
 qual:Str
 lamOk:Nat→Zd6→Prop
 xk:Nat→Prop
 cb:Nat→Addr
 nc:Nat
 cdv:Nat→List V
 me:Option Addr
structure Wd where
 m:Nat→Addr
 F:Hp
 Z:Hp
abbrev stt (s:List Nat):Str:=⟨s.toArray⟩
def okS (s:List Nat):Bool:=s.all fun c=>decide (c < 1114112)
def kOf:D→Option Key
 | .int i=>some (.inl i)
 | .str s=>if okS s=true then some (.inr (stt s)) else none
 |_=>none
mutual
def RV (g:Gi) (w:Wd) (n:Nat):D→V→Prop
 | .non,v=>v=.non
 | .bl b,v=>v=.bl b
 | .int i,v=>v=.int i
 | .str s,v=>v=.str (stt s)∧okS s=true
 | .tup l,v=>∃a xs,v=.ref a∧w.F a=some (.tup xs)∧RVs g w n l xs
 | .ktp l,v=>∃a xs,v=.ref a∧(∃(o:Obj) (its:Array Value) (m:Nat),g.K.lookup a=some o∧o.cls=.type "tuple"∧o.data=.seq its m∧its.size≤sizeLine∧Vals xs its.toList)∧RVs g w n l xs
 | .lst l,v=>∃a xs,v=.ref a∧w.F a=some (.lst xs)∧RVs g w n l xs
 | .scr l,v=>∃a,v=.ref a∧SqL g.K w.F a (l.map V.int)
 | .ref k,v=>v=.ref (w.m k)∧k < n
 | .ins c fs,v=>c < g.nc∧∃a dx gs,v=.ref a∧w.F a=some (.ins (g.cb c) dx gs)∧w.F dx=some (.own a)∧RVf g w n fs gs
 | .dct t l,v=>t=false∧∃a xs,v=.ref a∧(∃o,w.F a=some (.frz o (.dK xs)))∧RVd g w n l xs
 |_,_=>False
def RVs (g:Gi) (w:Wd) (n:Nat):List D→List V→Prop
 |[],xs=>xs=[]
 |d::l,xs=>∃x r,xs=x::r∧RV g w n d x∧RVs g w n l r
def RVf (g:Gi) (w:Wd) (n:Nat):List (Nat × D)→List (Str × V)→Prop
 |[],xs=>xs=[]
 |p::l,xs=>∃x r,xs=(g.an p.1,x)::r∧p.1 < g.nn∧RV g w n p.2 x∧RVf g w n l r
def RVd (g:Gi) (w:Wd) (n:Nat):List (D × D)→List (Key × V)→Prop
 |[],xs=>xs=[]
 |p::l,xs=>∃k x r,xs=(k,x)::r∧kOf p.1=some k∧RV g w n p.2 x∧RVd g w n l r
end
def Ze6:List D→Option (List Key)
 |[]=>some []
 |d::l=>match kOf d,Ze6 l with
  |some k,some r=>some (k::r)
  |_,_=>none
def Zlc:D→Option (List Key)
 | .tup l=>Ze6 l
 |_=>none
def RVt (g:Gi) (w:Wd) (n:Nat):List (D × D)→List (List Key × V)→Prop
 |[],xs=>xs=[]
 |p::l,xs=>∃k x r,xs=(k,x)::r∧Zlc p.1=some k∧RV g w n p.2 x∧RVt g w n l r
structure Ext (w:Wd) (n:Nat) (w':Wd) (n':Nat):Prop where
 le:n≤n'
 m:∀k,k < n→w'.m k=w.m k
 F:∀a o,w.F a=some o→w'.F a=some o
 Z:∀a o,w.Z a=some o→w'.Z a=some o
 nz:∀k,n≤k→k < n'→w.Z (w'.m k)=none
structure Zdi (w:Wd) (n:Nat) (w':Wd) (n':Nat):Prop where
 le:n≤n'
 m:∀k,k < n→w'.m k=w.m k
 F:∀a o,w.F a=some o→w'.F a=some o
theorem Ext.f {w w':Wd} {n n':Nat} (x:Ext w n w' n'):Zdi w n w' n':=⟨x.le,x.m,x.F⟩
theorem Ext.refl (w:Wd) (n:Nat):Ext w n w n:=⟨Zai _,fun _ _=>rfl,fun _ _ e=>e,fun _ _ e=>e,fun _ h1 h2=>absurd h2 (Zbn h1)⟩
theorem Ext.trans {w w1 w2:Wd} {n n1 n2:Nat} (a:Ext w n w1 n1) (b:Ext w1 n1 w2 n2):Ext w n w2 n2:=
 ⟨ZaI a.le b.le,fun k hk=>(b.m k (ZaT hk a.le)).trans (a.m k hk),fun c o e=>b.F c o (a.F c o e),fun c o e=>b.Z c o (a.Z c o e),fun k h1 h2=>by
  by_cases hk:k < n1
  ·rw[b.m k hk]; exact a.nz k h1 hk
  ·have q:=b.nz k (ZmG hk) h2
   cases e:w.Z (w2.m k) with
   |none=>rfl
   |some o=>rw[a.Z _ _ e] at q; cases q⟩
theorem SqT.ext {K:PySem.W.Frag} {F F':Hp} (e:∀a o,F a=some o→F' a=some o) {a:Addr} {xs:List V} (h:SqT K F a xs):SqT K F' a xs:=by
 rcases h with (h |⟨o,h⟩) |h
 ·exact .inl (.inl (e _ _ h))
 ·exact .inl (.inr ⟨o,e _ _ h⟩)
 ·exact .inr h
theorem SqL.ext {K:PySem.W.Frag} {F F':Hp} (e:∀a o,F a=some o→F' a=some o) {a:Addr} {xs:List V} (h:SqL K F a xs):SqL K F' a xs:=by
 rcases h with (h |⟨o,h⟩) |h
 ·exact .inl (.inl (e _ _ h))
 ·exact .inl (.inr ⟨o,e _ _ h⟩)
 ·exact .inr h
section
variable {g:Gi} {w w':Wd} {n n':Nat}
mutual
theorem RV.extF (x:Zdi w n w' n'):∀(d:D) (v:V),RV g w n d v→RV g w' n' d v
 | .non,v,h=>by unfold RV at *; exact h
 | .bl b,v,h=>by unfold RV at *; exact h
 | .int i,v,h=>by unfold RV at *; exact h
 | .str s,v,h=>by unfold RV at *; exact h
 | .tup l,v,h=>by
  unfold RV at *
  obtain⟨a,xs,e,q,r⟩:=h
  exact⟨a,xs,e,x.F _ _ q,RVs.extF x l xs r⟩
 | .ktp l,v,h=>by
  unfold RV at *
  obtain⟨a,xs,e,q,r⟩:=h
  exact⟨a,xs,e,q,RVs.extF x l xs r⟩
 | .lst l,v,h=>by
  unfold RV at *
  obtain⟨a,xs,e,q,r⟩:=h
  exact⟨a,xs,e,x.F _ _ q,RVs.extF x l xs r⟩
 | .ref k,v,h=>by
  unfold RV at *
  exact⟨by rw[x.m k h.2]; exact h.1,ZaT h.2 x.le⟩
 | .ins c fs,v,h=>by
  unfold RV at *
  obtain⟨hc,a,dx,gs,e,q,q2,r⟩:=h
  exact⟨hc,a,dx,gs,e,x.F _ _ q,x.F _ _ q2,RVf.extF x fs gs r⟩
 | .dct t l,v,h=>by
  unfold RV at *
  obtain⟨ht,a,xs,e,⟨o,q⟩,r⟩:=h
  exact⟨ht,a,xs,e,⟨o,x.F _ _ q⟩,RVd.extF x l xs r⟩
 | .set l,v,h=>by unfold RV at h; exact h.elim
 | .exc c l,v,h=>by unfold RV at h; exact h.elim
 | .scr l,v,h=>by
  unfold RV at *
  obtain⟨a,e,q⟩:=h
  exact⟨a,e,SqL.ext x.F q⟩
theorem RVs.extF (x:Zdi w n w' n'):∀(l:List D) (xs:List V),RVs g w n l xs→RVs g w' n' l xs
 |[],xs,h=>by unfold RVs at *; exact h
 |d::l,xs,h=>by
  unfold RVs at *
  obtain⟨y,r,e,h1,h2⟩:=h
  exact⟨y,r,e,RV.extF x d y h1,RVs.extF x l r h2⟩
theorem RVf.extF (x:Zdi w n w' n'):∀(l:List (Nat × D)) (xs:List (Str × V)),RVf g w n l xs→RVf g w' n' l xs
 |[],xs,h=>by unfold RVf at *; exact h
 |(k,d)::l,xs,h=>by
  unfold RVf at *
  obtain⟨y,r,e,h0,h1,h2⟩:=h
  exact⟨y,r,e,h0,RV.extF x d y h1,RVf.extF x l r h2⟩
theorem RVd.extF (x:Zdi w n w' n'):∀(l:List (D × D)) (xs:List (Key × V)),RVd g w n l xs→RVd g w' n' l xs
 |[],xs,h=>by unfold RVd at *; exact h
 |(k,d)::l,xs,h=>by
  unfold RVd at *
  obtain⟨j,y,r,e,h0,h1,h2⟩:=h
  exact⟨j,y,r,e,h0,RV.extF x d y h1,RVd.extF x l r h2⟩
end
theorem RVt.extF (x:Zdi w n w' n'):∀(l:List (D × D)) (xs:List (List Key × V)),RVt g w n l xs→RVt g w' n' l xs
 |[],xs,h=>h
 |p::l,xs,h=>by
  obtain⟨k,y,r,e,h0,h1,h2⟩:=h
  exact⟨k,y,r,e,h0,RV.extF x p.2 y h1,RVt.extF x l r h2⟩
theorem RVt.ext (x:Ext w n w' n') (d:List (D × D)) (v:List (List Key × V)) (h:RVt g w n d v):RVt g w' n' d v:=RVt.extF x.f d v h
theorem RVt.noZ {w:Wd} {Z':Hp} {l:List (D × D)} {xs:List (List Key × V)} (h:RVt g w n l xs):RVt g ⟨w.m,w.F,Z'⟩ n l xs:=RVt.extF (show Zdi w n ⟨w.m,w.F,Z'⟩ n from⟨Zai _,fun _ _=>rfl,fun _ _ e=>e⟩) l xs h
theorem RVt.moreF {w:Wd} {F' Z':Hp} (k:∀a o,w.F a=some o→F' a=some o) {l:List (D × D)} {xs:List (List Key × V)} (h:RVt g w n l xs):RVt g ⟨w.m,F',Z'⟩ n l xs:=RVt.extF (show Zdi w n ⟨w.m,F',Z'⟩ n from⟨Zai _,fun _ _=>rfl,k⟩) l xs h
theorem RV.ext (x:Ext w n w' n') (d:D) (v:V) (h:RV g w n d v):RV g w' n' d v:=RV.extF x.f d v h
theorem RVs.ext (x:Ext w n w' n') (d:List D) (v:List V) (h:RVs g w n d v):RVs g w' n' d v:=RVs.extF x.f d v h
theorem RVf.ext (x:Ext w n w' n') (d:List (Nat × D)) (v:List (Str × V)) (h:RVf g w n d v):RVf g w' n' d v:=RVf.extF x.f d v h
theorem RVd.ext (x:Ext w n w' n') (d:List (D × D)) (v:List (Key × V)) (h:RVd g w n d v):RVd g w' n' d v:=RVd.extF x.f d v h
theorem RVd.noZ {w:Wd} {Z':Hp} {l:List (D × D)} {xs:List (Key × V)} (h:RVd g w n l xs):RVd g ⟨w.m,w.F,Z'⟩ n l xs:=RVd.extF (show Zdi w n ⟨w.m,w.F,Z'⟩ n from⟨Zai _,fun _ _=>rfl,fun _ _ e=>e⟩) l xs h
theorem RVd.moreF {w:Wd} {F' Z':Hp} (k:∀a o,w.F a=some o→F' a=some o) {l:List (D × D)} {xs:List (Key × V)} (h:RVd g w n l xs):RVd g ⟨w.m,F',Z'⟩ n l xs:=RVd.extF (show Zdi w n ⟨w.m,F',Z'⟩ n from⟨Zai _,fun _ _=>rfl,k⟩) l xs h
theorem RVs.noZ {w:Wd} {Z':Hp} {l:List D} {xs:List V} (h:RVs g w n l xs):RVs g ⟨w.m,w.F,Z'⟩ n l xs:=RVs.extF (show Zdi w n ⟨w.m,w.F,Z'⟩ n from⟨Zai _,fun _ _=>rfl,fun _ _ e=>e⟩) l xs h
theorem RVf.noZ {w:Wd} {Z':Hp} {l:List (Nat × D)} {xs:List (Str × V)} (h:RVf g w n l xs):RVf g ⟨w.m,w.F,Z'⟩ n l xs:=RVf.extF (show Zdi w n ⟨w.m,w.F,Z'⟩ n from⟨Zai _,fun _ _=>rfl,fun _ _ e=>e⟩) l xs h
theorem RVs.moreF {w:Wd} {F' Z':Hp} (k:∀a o,w.F a=some o→F' a=some o) {l:List D} {xs:List V} (h:RVs g w n l xs):RVs g ⟨w.m,F',Z'⟩ n l xs:=RVs.extF (show Zdi w n ⟨w.m,F',Z'⟩ n from⟨Zai _,fun _ _=>rfl,k⟩) l xs h
theorem RVf.moreF {w:Wd} {F' Z':Hp} (k:∀a o,w.F a=some o→F' a=some o) {l:List (Nat × D)} {xs:List (Str × V)} (h:RVf g w n l xs):RVf g ⟨w.m,F',Z'⟩ n l xs:=RVf.extF (show Zdi w n ⟨w.m,F',Z'⟩ n from⟨Zai _,fun _ _=>rfl,k⟩) l xs h
theorem Zbo {xs:List V}:RVs g w n [] xs↔xs=[]:=by unfold RVs; exact Iff.rfl
theorem ZaQ {d:D} {l:List D} {xs:List V}:RVs g w n (d::l) xs↔∃x r,xs=x::r∧RV g w n d x∧RVs g w n l r:=by
 conv=>lhs; unfold RVs
theorem RVs.mk {d:D} {l:List D} {x:V} {xs:List V} (a:RV g w n d x) (b:RVs g w n l xs):RVs g w n (d::l) (x::xs):=ZaQ.mpr ⟨x,xs,rfl,a,b⟩
theorem RVs.nil:RVs g w n [] []:=Zbo.mpr rfl
theorem RVs.length:∀{l:List D} {xs:List V},RVs g w n l xs→xs.length=l.length
 |[],xs,h=>by rw[Zbo.mp h]; rfl
 |d::l,xs,h=>by
  obtain⟨x,r,rfl,_,h2⟩:=ZaQ.mp h
  rw[Zae,Zae,RVs.length h2]
theorem RVs.get:∀{l:List D} {xs:List V} {i:Nat} {d:D},RVs g w n l xs→l[i]? =some d→∃x,xs[i]? =some x∧RV g w n d x
 |[],_,_,_,_,e=>by simp at e
 |d::l,xs,0,d',h,e=>by
  obtain⟨x,r,rfl,h1,_⟩:=ZaQ.mp h
  have e:d=d':=by simpa using e
  exact⟨x,rfl,e ▸ h1⟩
 |d::l,xs,i+1,_,h,e=>by
  obtain⟨x,r,rfl,_,h2⟩:=ZaQ.mp h
  obtain⟨y,h3,h4⟩:=RVs.get h2 (show l[i]? =some _ by simpa using e)
  exact⟨y,by simpa using h3,h4⟩
theorem RVs.append:∀{l m:List D} {xs ys:List V},RVs g w n l xs→RVs g w n m ys→RVs g w n (l++m) (xs++ys)
 |[],_,xs,_,h,k=>by rw[Zbo.mp h]; exact k
 |d::l,m,xs,ys,h,k=>by
  obtain⟨x,r,rfl,h1,h2⟩:=ZaQ.mp h
  exact RVs.mk h1 (RVs.append h2 k)
theorem RVs.drop:∀{l:List D} {xs:List V} (k:Nat),RVs g w n l xs→RVs g w n (l.drop k) (xs.drop k)
 |_,_,0,h=>h
 |[],xs,k+1,h=>by rw[Zbo.mp h]; exact RVs.nil
 |d::l,xs,k+1,h=>by
  obtain⟨x,r,rfl,_,h2⟩:=ZaQ.mp h
  exact RVs.drop k h2
theorem RVs.take:∀{l:List D} {xs:List V} (k:Nat),RVs g w n l xs→RVs g w n (l.take k) (xs.take k)
 |l,xs,0,h=>by rw[List.take_zero,List.take_zero]; exact RVs.nil
 |[],xs,k+1,h=>by rw[Zbo.mp h]; exact RVs.nil
 |d::l,xs,k+1,h=>by
  obtain⟨x,r,rfl,h1,h2⟩:=ZaQ.mp h
  exact RVs.mk h1 (RVs.take k h2)
theorem RVs.set:∀{l:List D} {xs:List V} (k:Nat) {d:D} {x:V},RVs g w n l xs→RV g w n d x→RVs g w n (l.set k d) (xs.set k x)
 |[],xs,k,_,_,h,_=>by rw[Zbo.mp h]; exact RVs.nil
 |d::l,xs,0,_,_,h,q=>by
  obtain⟨x,r,rfl,_,h2⟩:=ZaQ.mp h
  exact RVs.mk q h2
 |d::l,xs,k+1,_,_,h,q=>by
  obtain⟨x,r,rfl,h1,h2⟩:=ZaQ.mp h
  exact RVs.mk h1 (RVs.set k h2 q)
theorem RVs.cut {l:List D} {xs:List V} (h:RVs g w n l xs) (lo hi:Option Int):RVs g w n (cut l lo hi) (cutV xs lo hi):=by
 unfold Rk.cut cutV
 rw[h.length]
 exact (h.drop _).take _
end
def RC (g:Gi) (w:Wd) (n:Nat) (H:Hp) (a:Addr):ZeW→Prop
 | .no=>∃o,w.F a=some o
 | .tdc l=>(w.F a=none∧w.Z a=none)∧∃xs,H a=some (.dT xs)∧RVt g w n l xs
 | .lst l=>(w.F a=none∧w.Z a=none)∧∃xs,H a=some (.lst xs)∧RVs g w n l xs
 | .ins c fs=>(w.F a=none∧w.Z a=none)∧∃dx gs,(w.F dx=none∧w.Z dx=none)∧H a=some (.ins (g.cb c) dx gs)∧H dx=some (.own a)∧RVf g w n fs gs∧c < g.nc
 | .dct t l=>t=false∧(w.F a=none∧w.Z a=none)∧∃xs,H a=some (.dK xs)∧RVd g w n l xs
structure ZnM (w:Wd) (H:Hp) (p:Addr × Str):Prop where
 nF:w.F p.1=none
 nZ:w.Z p.1=none
 tab:∃ps:Array Value,H p.1=some (.tbl ps)∧TriplesOk ps.toList∧∀(pos:Pos) (cv:Value),codeAmong pos ps.toList=some cv→∃c,cv=.ref c∧w.F c=some (LamX.CodeO c p.2)
theorem ZnM.to {w w':Wd} {H H':Hp} {p:Addr × Str} (t:ZnM w H p) (eF:∀a o,w.F a=some o→w'.F a=some o) (nF:w'.F p.1=none) (nZ:w'.Z p.1=none) (eH:H' p.1=H p.1):ZnM w' H' p:=by
 obtain⟨ps,h1,h2,h3⟩:=t.tab
 refine⟨nF,nZ,ps,eH.trans h1,h2,fun pos cv hc=>?_⟩
 obtain⟨c,e1,e2⟩:=h3 pos cv hc
 exact⟨c,e1,eF _ _ e2⟩
theorem ZnM.ne {w:Wd} {H:Hp} {p:Addr × Str} (t:ZnM w H p) {a:Addr} (h:H a=none):p.1≠a:=fun z=>by
 obtain⟨ps,h1,_⟩:=t.tab
 rw[z,h] at h1; cases h1
theorem ZnM.ne2 {w:Wd} {H:Hp} {p:Addr × Str} (t:ZnM w H p) {a:Addr} {o:HO} (h:H a=some o) (n:∀ps,o≠ .tbl ps):p.1≠a:=fun z=>by
 obtain⟨ps,h1,_⟩:=t.tab
 rw[z,h] at h1
 exact n ps (Option.some.inj h1)
structure RR (g:Gi) (w:Wd) (h:AH) (H:Hp):Prop where
 sub:∀a o,w.F a=some o→H a=some o
 subz:∀a o,w.Z a=some o→H a=some o∧w.F a=none
 cell:∀k,k < h.nx→RC g w h.nx H (w.m k) (h.cell k)
 inj:∀j k,j < h.nx→k < h.nx→w.m j=w.m k→j=k
 oc:∀k,k < h.nx→H (w.m k)≠none
 tabs:∀p∈g.tabs,ZnM w H p
def ZoR:Arguments→Option (Option (Str × Int))
 |⟨[],[],none,[],[],none,[]⟩=>some none
 |⟨[],[⟨y,none,_⟩],none,[],[],none,[.Constant (.int i) _ _]⟩=>some (some (y,i))
 |_=>none
def LamO (f:Addr) (q:Str) (L:Zd6) (cells:List (Str × Addr)) (c':Addr) (dV:Value):HO:=.ext fun h=>∃(doc pm ctv:Value),h.get? f=some (PySem.W.kdv_obj "<lambda>" q L.params (.expr L.body) L.scope (cloFrom cells L.scope.names []) dV doc pm c' ctv)
def LamD (F:Hp) (L:Zd6) (dV:Value):Prop:=ZoR L.params=some none∧dV=.none∨∃(y:Str) (i:Int) (T:Addr),ZoR L.params=some (some (y,i))∧dV=.ref T∧F T=some (.tup [.int i])
def LamV (g:Gi) (w:Wd) (k:Nat) (v:V):Prop:=∃(f c':Addr) (L:Zd6) (dV:Value),v=.ref f∧g.lamOk k L∧w.F f=some (LamO f (g.qual++"<lambda>") L g.cells c' dV)∧w.F c'=some (LamX.CodeO c' (g.qual++"<lambda>"))∧LamD w.F L dV
def ZeD (g:Gi) (w:Wd):List Nat→List V→Prop
 |[],xs=>xs=[]
 |k::ks,xs=>∃x r,xs=x::r∧LamV g w k x∧ZeD g w ks r
def RS (g:Gi) (w:Wd) (n:Nat):Sl→Option V→Prop
 | .no,_=>True
 | .v d,o=>∃v,o=some v∧RV g w n d v
 | .exc c fs,o=>∃(a dd:Addr) (oe:Obj) (gs:List (Str × V)),o=some (.ref a)∧(a,oe)∈g.pn∧Zc (.ref (g.ca c)) (some dd) oe∧(∃vs,oe.data=.fields vs)∧w.F dd=some (.xd gs)∧RVf g w n fs gs∧g.xk c
 | .lams ks,o=>∃(a:Addr) (xs:List V),o=some (.ref a)∧w.F a=some (.lst xs)∧ZeD g w ks xs
 | .me,o=>∃x,g.me=some x∧o=some (.ref x)
structure RE (g:Gi) (w:Wd) (n:Nat) (env:Env) (σ:L2.St):Prop where
 len:env.length=σ.length
 at':∀(i:Nat) (d:Sl) (o:Option V),env[i]? =some d→σ[i]? =some o→RS g w n d o
theorem RE.at_ {g:Gi} {w:Wd} {n:Nat} {env:Env} {σ:L2.St} (r:RE g w n env σ) (i:Nat) (d:D) (e:env[i]? =some (.v d)):∃v,σ[i]? =some (some v)∧RV g w n d v:=by
 have hi:i < σ.length:=by rw[← r.len]; exact (Zay.mp e).1
 obtain⟨v,hv,rv⟩:=r.at' i _ _ e (Zad hi)
 exact⟨v,by rw[Zad hi,hv],rv⟩
theorem LamV.ext {g:Gi} {w w':Wd} (e:∀a o,w.F a=some o→w'.F a=some o) {k:Nat} {v:V} (h:LamV g w k v):LamV g w' k v:=by
 obtain⟨f,c',L,dV,h1,h2,h3,h4,h5⟩:=h
 refine⟨f,c',L,dV,h1,h2,e _ _ h3,e _ _ h4,?_⟩
 rcases h5 with h5 |⟨y,i,T,a1,a2,a3⟩
 ·exact .inl h5
 ·exact .inr ⟨y,i,T,a1,a2,e _ _ a3⟩
theorem ZeD.ext {g:Gi} {w w':Wd} (e:∀a o,w.F a=some o→w'.F a=some o):∀{ks:List Nat} {xs:List V},ZeD g w ks xs→ZeD g w' ks xs
 |[],xs,h=>h
 |k::ks,xs,h=>by
  obtain⟨x,r,h1,h2,h3⟩:=h
  exact⟨x,r,h1,h2.ext e,ZeD.ext e h3⟩
theorem RS.extF {g:Gi} {w w':Wd} {n n':Nat} (x:Zdi w n w' n') {d:Sl} {o:Option V} (h:RS g w n d o):RS g w' n' d o:=by
 cases d with
 |no=>trivial
 |me=>exact h
 |exc c fs=>
  obtain⟨a,dd,oe,gs,h1,h2,h3,h4,h5,h6,h7⟩:=h
  exact⟨a,dd,oe,gs,h1,h2,h3,h4,x.F _ _ h5,RVf.extF x _ _ h6,h7⟩
 |lams ks=>
  obtain⟨a,xs,h1,h2,h3⟩:=h
  exact⟨a,xs,h1,x.F _ _ h2,h3.ext x.F⟩
 |v d=>
  obtain⟨v,h1,h2⟩:=h
  exact⟨v,h1,RV.extF x _ _ h2⟩
section
variable {g:Gi} {w w':Wd} {h h':AH} {H H':Hp} {n n':Nat} {env:Env} {σ:L2.St}
theorem RE.ext (r:RE g w n env σ) (x:Ext w n w' n'):RE g w' n' env σ:=⟨r.len,fun i d o e1 e2=>(r.at' i d o e1 e2).extF x.f⟩
theorem RE.setS (r:RE g w n env σ) (i:Nat) {d:Sl} {o:Option V} (q:RS g w n d o):RE g w n (env.set i d) (σ.set i o):=by
 refine⟨by simp[r.len],fun j e u h1 h2=>?_⟩
 by_cases hj:i=j
 ·subst hj
  by_cases hi:i < env.length
  ·rw[ZbI hi] at h1
   rw[ZbI (r.len ▸ hi)] at h2
   cases h1; cases h2
   exact q
  ·rw[ZbR (by simpa using hi)] at h1
   cases h1
 ·rw[Zcq hj] at h1 h2
  exact r.at' j e u h1 h2
theorem RE.set (r:RE g w n env σ) (i:Nat) {d:D} {v:V} (q:RV g w n d v):RE g w n (env.set i (.v d)) (σ.set i (some v)):=r.setS i ⟨v,rfl,q⟩
theorem RC.to {a:Addr} {c:ZeW} (q:RC g w n H a c) (x:Ext w n w' n') (hF:∀b,H b≠none→w.F b=none→w.Z b=none→w'.F b=none∧w'.Z b=none) (keep:∀b o,H b=some o→w.F b=none→w.Z b=none→H' b=some o):RC g w' n' H' a c:=by
 cases c with
 |no=>exact q.elim fun o e=>⟨o,x.F _ _ e⟩
 |lst l=>
  obtain⟨q1,xs,q2,q3⟩:=q
  exact⟨hF _ (by rw[q2]; exact fun z=>nomatch z) q1.1 q1.2,xs,keep _ _ q2 q1.1 q1.2,RVs.ext x l xs q3⟩
 |ins c fs=>
  obtain⟨q1,dx,gs,q4,q2,q5,q3,qc⟩:=q
  exact⟨hF _ (by rw[q2]; exact fun z=>nomatch z) q1.1 q1.2,dx,gs,hF _ (by rw[q5]; exact fun z=>nomatch z) q4.1 q4.2,keep _ _ q2 q1.1 q1.2,keep _ _ q5 q4.1 q4.2,RVf.ext x fs gs q3,qc⟩
 |dct t l=>
  obtain⟨qt,q1,xs,q2,q3⟩:=q
  exact⟨qt,hF _ (by rw[q2]; exact fun z=>nomatch z) q1.1 q1.2,xs,keep _ _ q2 q1.1 q1.2,RVd.ext x l xs q3⟩
 |tdc l=>
  obtain⟨q1,xs,q2,q3⟩:=q
  exact⟨hF _ (by rw[q2]; exact fun z=>nomatch z) q1.1 q1.2,xs,keep _ _ q2 q1.1 q1.2,RVt.ext x l xs q3⟩
theorem RR.noF (r:RR g w h H) {p:Addr} (hp:H p=none):w.F p=none:=by
 cases e:w.F p with
 |none=>rfl
 |some u=>rw[r.sub p u e] at hp; cases hp
theorem RR.noZ (r:RR g w h H) {p:Addr} (hp:H p=none):w.Z p=none:=by
 cases e:w.Z p with
 |none=>rfl
 |some u=>rw[(r.subz p u e).1] at hp; cases hp
theorem RR.freeze (r:RR g w h H) {p:Addr} {o:HO} (hp:H p=none):RR g ⟨w.m,upd w.F p o,w.Z⟩ h (upd H p o)∧Ext w h.nx ⟨w.m,upd w.F p o,w.Z⟩ h.nx:=by
 have fp:=r.noF hp
 have zp:=r.noZ hp
 have x:Ext w h.nx ⟨w.m,upd w.F p o,w.Z⟩ h.nx:=⟨Zai _,fun _ _=>rfl,fun a u e=>by
  show upd w.F p o a=some u
  rw[upd_ne (ne_of_none e fp)]; exact e,fun _ _ e=>e,fun _ h1 h2=>absurd h2 (Zbn h1)⟩
 have nm:∀k,k < h.nx→w.m k≠p:=fun k hk e=>r.oc k hk (by rw[e]; exact hp)
 refine⟨⟨fun a u e=>?_,fun a u e=>?_,fun k hk=>?_,r.inj,fun k hk e=>?_,fun q hq=>(r.tabs q hq).to x.F (by show upd w.F p o q.1=none; rw[upd_ne ((r.tabs q hq).ne hp)]; exact (r.tabs q hq).nF) (r.tabs q hq).nZ (upd_ne ((r.tabs q hq).ne hp))⟩,x⟩
 ·by_cases ha:a=p
  ·subst ha
   have e:upd w.F a o a=some u:=e
   rw[upd_same] at e⊢
   exact e
  ·have e:upd w.F p o a=some u:=e
   rw[upd_ne ha] at e⊢
   exact r.sub a u e
 ·have ha:a≠p:=ne_of_none e zp
  obtain⟨e1,e2⟩:=r.subz a u e
  exact⟨by rw[upd_ne ha]; exact e1,by show upd w.F p o a=none; rw[upd_ne ha]; exact e2⟩
 ·refine (r.cell k hk).to x (fun b hb e1 e2=>?_) (fun b u e e1 e2=>by rw[upd_ne (ne_of_none e hp)]; exact e)
  have hbp:b≠p:=fun z=>hb (by rw[z]; exact hp)
  exact⟨by show upd w.F p o b=none; rw[upd_ne hbp]; exact e1,e2⟩
 ·have e:upd H p o (w.m k)=none:=e
  rw[upd_ne (nm k hk)] at e
  exact r.oc k hk e
theorem RR.alloc (r:RR g w h H) {p:Addr} {l:List D} {xs:List V} (hp:H p=none) (q:RVs g w h.nx l xs):
  RR g ⟨fun k=>if k=h.nx then p else w.m k,w.F,w.Z⟩ (h.new (.lst l)) (upd H p (.lst xs))∧Ext w h.nx ⟨fun k=>if k=h.nx then p else w.m k,w.F,w.Z⟩ (h.nx+1):=by
 have fp:=r.noF hp
 have zp:=r.noZ hp
 have x:Ext w h.nx ⟨fun k=>if k=h.nx then p else w.m k,w.F,w.Z⟩ (h.nx+1):=⟨ZbE _,fun k hk=>if_neg (Zbg hk),fun _ _ e=>e,fun _ _ e=>e,fun k h1 h2=>by
  obtain rfl:k=h.nx:=by omega
  show w.Z (if h.nx=h.nx then p else w.m h.nx)=none
  rw[if_pos rfl]; exact zp⟩
 have nm:∀k,k < h.nx→w.m k≠p:=fun k hk e=>r.oc k hk (by rw[e]; exact hp)
 have keep:∀a u,H a=some u→upd H p (.lst xs) a=some u:=fun a u e=>by rw[upd_ne (ne_of_none e hp)]; exact e
 refine⟨⟨fun a u e=>keep _ _ (r.sub a u e),fun a u e=>⟨keep _ _ (r.subz a u e).1,(r.subz a u e).2⟩,fun k hk=>?_,fun j k hj hk e=>?_,fun k hk=>?_,fun q hq=>(r.tabs q hq).to (fun _ _ e=>e) (r.tabs q hq).nF (r.tabs q hq).nZ (upd_ne ((r.tabs q hq).ne hp))⟩,x⟩
 ·show RC g _ (h.nx+1) _ (if k=h.nx then p else w.m k) (if k=h.nx then ZeW.lst l else h.cell k)
  by_cases e:k=h.nx
  ·rw[if_pos e,if_pos e]
   exact⟨⟨fp,zp⟩,xs,upd_same,RVs.ext x l xs q⟩
  ·rw[if_neg e,if_neg e]
   have hk':k < h.nx:=by have:k < h.nx+1:=hk; omega
   exact (r.cell k hk').to x (fun b _ e1 e2=>⟨e1,e2⟩) fun b u e _ _=>keep b u e
 ·have hj:j < h.nx+1:=hj
  have hk:k < h.nx+1:=hk
  have e:(if j=h.nx then p else w.m j)=(if k=h.nx then p else w.m k):=e
  by_cases e1:j=h.nx<;>by_cases e2:k=h.nx
  ·rw[e1,e2]
  ·rw[if_pos e1,if_neg e2] at e
   exact absurd e.symm (nm k (by omega))
  ·rw[if_neg e1,if_pos e2] at e
   exact absurd e (nm j (by omega))
  ·rw[if_neg e1,if_neg e2] at e
   exact r.inj j k (by omega) (by omega) e
 ·show upd H p (.lst xs) (if k=h.nx then p else w.m k)≠none
  have hk:k < h.nx+1:=hk
  by_cases e:k=h.nx
  ·rw[if_pos e,upd_same]; exact fun z=>nomatch z
  ·rw[if_neg e,upd_ne (nm k (by omega))]
   exact r.oc k (by omega)
theorem RR.store (r:RR g w h H) {k:Nat} {l l':List D} {xs:List V} (hk:k < h.nx) (e:h.cell k=.lst l) (q:RVs g w h.nx l' xs):
  RR g w (h.put k (.lst l')) (upd H (w.m k) (.lst xs)):=by
 have c:=r.cell k hk
 rw[e] at c
 obtain⟨c1,ys,c2,c3⟩:=c
 have nF:∀a u,w.F a=some u→a≠w.m k:=fun a u e z=>by rw[z,c1.1] at e; cases e
 have nZ:∀a u,w.Z a=some u→a≠w.m k:=fun a u e z=>by rw[z,c1.2] at e; cases e
 refine⟨fun a u e=>by rw[upd_ne (nF a u e)]; exact r.sub a u e,fun a u e=>by rw[upd_ne (nZ a u e)]; exact r.subz a u e,fun j hj=>?_,r.inj,fun j hj=>?_,fun q hq=>(r.tabs q hq).to (fun _ _ e=>e) (r.tabs q hq).nF (r.tabs q hq).nZ (upd_ne ((r.tabs q hq).ne2 c2 fun _ z=>nomatch z))⟩
 ·show RC g w h.nx _ (w.m j) (if j=k then ZeW.lst l' else h.cell j)
  by_cases e2:j=k
  ·subst e2
   rw[if_pos rfl]
   exact⟨c1,xs,upd_same,q⟩
  ·rw[if_neg e2]
   have nj:w.m j≠w.m k:=fun z=>e2 (r.inj j k hj hk z)
   have q:=r.cell j hj
   cases ec:h.cell j with
   |no=>rw[ec] at q; exact q
   |lst m=>
    rw[ec] at q
    obtain⟨q1,zs,q2,q3⟩:=q
    exact⟨q1,zs,by rw[upd_ne nj]; exact q2,q3⟩
   |ins c fs=>
    rw[ec] at q
    obtain⟨q1,dx,gs,q4,q2,q5,q3,qc⟩:=q
    have nd:dx≠w.m k:=fun z=>by rw[z,c2] at q5; cases q5
    exact⟨q1,dx,gs,q4,by rw[upd_ne nj]; exact q2,by rw[upd_ne nd]; exact q5,q3,qc⟩
   |dct t l=>
    rw[ec] at q
    obtain⟨qt,q1,zs,q2,q3⟩:=q
    exact⟨qt,q1,zs,by rw[upd_ne nj]; exact q2,q3⟩
   |tdc l=>
    rw[ec] at q
    obtain⟨q1,zs,q2,q3⟩:=q
    exact⟨q1,zs,by rw[upd_ne nj]; exact q2,q3⟩
 ·by_cases e2:j=k
  ·subst e2
   rw[upd_same]; exact fun z=>nomatch z
  ·rw[upd_ne fun z=>e2 (r.inj j k hj hk z)]
   exact r.oc j hj
theorem RR.still (r:RR g w h H) {k:Nat} {l:List D} {xs:List V} (hk:k < h.nx) (e:h.cell k=.lst l) (q1:H (w.m k)=some (.lst xs)):
  RR g ⟨w.m,upd w.F (w.m k) (.lst xs),w.Z⟩ (h.put k .no) H∧Ext w h.nx ⟨w.m,upd w.F (w.m k) (.lst xs),w.Z⟩ (h.put k .no).nx:=by
 have c:=r.cell k hk
 rw[e] at c
 obtain⟨c1,ys,c2,c3⟩:=c
 have eF:∀a u,w.F a=some u→upd w.F (w.m k) (.lst xs) a=some u:=fun a u e=>by rw[upd_ne fun z=>by rw[z,c1.1] at e; cases e]; exact e
 have x:Ext w h.nx ⟨w.m,upd w.F (w.m k) (.lst xs),w.Z⟩ h.nx:=⟨Zai _,fun _ _=>rfl,eF,fun _ _ e=>e,fun _ h1 h2=>absurd h2 (Zbn h1)⟩
 have tn:∀q∈g.tabs,q.1≠w.m k:=fun q hq z=>by
  obtain⟨ps,h1,_⟩:=(r.tabs q hq).tab
  rw[z,q1] at h1
  cases h1
 refine⟨⟨fun a u e=>?_,fun a u e=>?_,fun j hj=>?_,r.inj,r.oc,fun q hq=>(r.tabs q hq).to eF (by show upd w.F (w.m k) _ q.1=none; rw[upd_ne (tn q hq)]; exact (r.tabs q hq).nF) (r.tabs q hq).nZ rfl⟩,x⟩
 ·by_cases ha:a=w.m k
  ·subst ha
   have e:upd w.F (w.m k) (.lst xs) (w.m k)=some u:=e
   rw[upd_same] at e
   cases e
   exact q1
  ·have e:upd w.F (w.m k) (.lst xs) a=some u:=e
   rw[upd_ne ha] at e
   exact r.sub a u e
 ·refine⟨(r.subz a u e).1,?_⟩
  show upd w.F (w.m k) (.lst xs) a=none
  rw[upd_ne fun z=>by rw[z,c1.2] at e; cases e]
  exact (r.subz a u e).2
 ·show RC g _ h.nx H (w.m j) (if j=k then ZeW.no else h.cell j)
  by_cases e2:j=k
  ·rw[if_pos e2,e2]; exact⟨_,upd_same⟩
  ·rw[if_neg e2]
   have nj:w.m j≠w.m k:=fun z=>e2 (r.inj j k hj hk z)
   have q:=r.cell j hj
   cases ec:h.cell j with
   |no=>rw[ec] at q; exact q.elim fun o e=>⟨o,eF _ _ e⟩
   |lst m=>
    rw[ec] at q
    obtain⟨q1,zs,q2,q3⟩:=q
    exact⟨⟨by show upd w.F (w.m k) _ (w.m j)=none; rw[upd_ne nj]; exact q1.1,q1.2⟩,zs,q2,RVs.ext x m zs q3⟩
   |ins c fs=>
    rw[ec] at q
    obtain⟨q0,dx,gs,q4,q2,q5,q3,qc⟩:=q
    have nd:dx≠w.m k:=fun z=>by rw[z,q1] at q5; cases q5
    exact⟨⟨by show upd w.F (w.m k) _ (w.m j)=none; rw[upd_ne nj]; exact q0.1,q0.2⟩,dx,gs,⟨by show upd w.F (w.m k) _ dx=none; rw[upd_ne nd]; exact q4.1,q4.2⟩,q2,q5,RVf.ext x fs gs q3,qc⟩
   |dct t l=>
    rw[ec] at q
    obtain⟨qt,q1,zs,q2,q3⟩:=q
    exact⟨qt,⟨by show upd w.F (w.m k) _ (w.m j)=none; rw[upd_ne nj]; exact q1.1,q1.2⟩,zs,q2,RVd.ext x l zs q3⟩
   |tdc l=>
    rw[ec] at q
    obtain⟨q1,zs,q2,q3⟩:=q
    exact⟨⟨by show upd w.F (w.m k) _ (w.m j)=none; rw[upd_ne nj]; exact q1.1,q1.2⟩,zs,q2,RVt.ext x l zs q3⟩
theorem RR.side (r:RR g w h H) {p:Addr} {o:HO} (hp:H p=none):RR g ⟨w.m,w.F,upd w.Z p o⟩ h (upd H p o)∧Ext w h.nx ⟨w.m,w.F,upd w.Z p o⟩ h.nx:=by
 have fp:=r.noF hp
 have zp:=r.noZ hp
 have x:Ext w h.nx ⟨w.m,w.F,upd w.Z p o⟩ h.nx:=⟨Zai _,fun _ _=>rfl,fun _ _ e=>e,fun a u e=>by
  show upd w.Z p o a=some u
  rw[upd_ne (ne_of_none e zp)]; exact e,fun _ h1 h2=>absurd h2 (Zbn h1)⟩
 refine⟨⟨fun a u e=>by rw[upd_ne (ne_of_none e fp)]; exact r.sub a u e,fun a u e=>?_,fun k hk=>?_,r.inj,fun k hk=>?_,fun q hq=>(r.tabs q hq).to (fun _ _ e=>e) (r.tabs q hq).nF (by show upd w.Z p o q.1=none; rw[upd_ne ((r.tabs q hq).ne hp)]; exact (r.tabs q hq).nZ) (upd_ne ((r.tabs q hq).ne hp))⟩,x⟩
 ·by_cases ha:a=p
  ·subst ha
   have e:upd w.Z a o a=some u:=e
   rw[upd_same] at e⊢
   exact⟨e,fp⟩
  ·have e:upd w.Z p o a=some u:=e
   rw[upd_ne ha] at e⊢
   exact r.subz a u e
 ·refine (r.cell k hk).to x (fun b hb e1 e2=>?_) (fun b u e e1 e2=>by rw[upd_ne (ne_of_none e hp)]; exact e)
  have hbp:b≠p:=fun z=>hb (by rw[z]; exact hp)
  exact⟨e1,by show upd w.Z p o b=none; rw[upd_ne hbp]; exact e2⟩
 ·rw[upd_ne fun e=>r.oc k hk (by rw[e]; exact hp)]
  exact r.oc k hk
theorem RR.side2 (r:RR g w h H) {p:Addr} {o o':HO} (hp:w.Z p=some o):RR g ⟨w.m,w.F,upd w.Z p o'⟩ h (upd H p o'):=by
 have fp:=(r.subz p o hp).2
 have tz:∀q∈g.tabs,q.1≠p:=fun q hq z=>by
  have:=(r.tabs q hq).nZ
  rw[z,hp] at this; cases this
 refine⟨fun a u e=>by rw[upd_ne (ne_of_none e fp)]; exact r.sub a u e,fun a u e=>?_,fun k hk=>?_,r.inj,fun k hk=>?_,fun q hq=>(r.tabs q hq).to (fun _ _ e=>e) (r.tabs q hq).nF (by show upd w.Z p o' q.1=none; rw[upd_ne (tz q hq)]; exact (r.tabs q hq).nZ) (upd_ne (tz q hq))⟩
 ·by_cases ha:a=p
  ·subst ha
   have e:upd w.Z a o' a=some u:=e
   rw[upd_same] at e⊢
   exact⟨e,fp⟩
  ·have e:upd w.Z p o' a=some u:=e
   rw[upd_ne ha] at e⊢
   exact r.subz a u e
 ·have q:=r.cell k hk
  have nz:∀b,w.Z b=none→b≠p:=fun b e z=>by rw[z,hp] at e; cases e
  show RC g _ h.nx _ (w.m k) (h.cell k)
  cases ec:h.cell k with
  |no=>rw[ec] at q; exact q
  |lst m=>
   rw[ec] at q
   obtain⟨q1,zs,q2,q3⟩:=q
   exact⟨⟨q1.1,by show upd w.Z p o' _=none; rw[upd_ne (nz _ q1.2)]; exact q1.2⟩,zs,by rw[upd_ne (nz _ q1.2)]; exact q2,RVs.noZ q3⟩
  |ins c fs=>
   rw[ec] at q
   obtain⟨q1,dx,gs,q4,q2,q5,q3,qc⟩:=q
   exact⟨⟨q1.1,by show upd w.Z p o' _=none; rw[upd_ne (nz _ q1.2)]; exact q1.2⟩,dx,gs,⟨q4.1,by show upd w.Z p o' _=none; rw[upd_ne (nz _ q4.2)]; exact q4.2⟩,by rw[upd_ne (nz _ q1.2)]; exact q2,by rw[upd_ne (nz _ q4.2)]; exact q5,RVf.noZ q3,qc⟩
  |dct t l=>
   rw[ec] at q
   obtain⟨qt,q1,zs,q2,q3⟩:=q
   exact⟨qt,⟨q1.1,by show upd w.Z p o' _=none; rw[upd_ne (nz _ q1.2)]; exact q1.2⟩,zs,by rw[upd_ne (nz _ q1.2)]; exact q2,RVd.noZ q3⟩
  |tdc l=>
   rw[ec] at q
   obtain⟨q1,zs,q2,q3⟩:=q
   exact⟨⟨q1.1,by show upd w.Z p o' _=none; rw[upd_ne (nz _ q1.2)]; exact q1.2⟩,zs,by rw[upd_ne (nz _ q1.2)]; exact q2,RVt.noZ q3⟩
 ·by_cases e2:w.m k=p
  ·rw[e2,upd_same]; exact fun z=>nomatch z
  ·rw[upd_ne e2]
   exact r.oc k hk
theorem RR.sideF (r:RR g w h H) {p:Addr} {o:HO} (hp:w.Z p=some o):RR g ⟨w.m,upd w.F p o,fun a=>if a=p then none else w.Z a⟩ h H:=by
 have fp:=(r.subz p o hp).2
 have hH:=(r.subz p o hp).1
 have eF:∀a u,w.F a=some u→upd w.F p o a=some u:=fun a u e=>by rw[upd_ne (ne_of_none e fp)]; exact e
 have nz:∀b,w.Z b=none→b≠p:=fun b e z=>by rw[z,hp] at e; cases e
 have tz:∀q∈g.tabs,q.1≠p:=fun q hq z=>by
  have:=(r.tabs q hq).nZ
  rw[z,hp] at this; cases this
 refine⟨fun a u e=>?_,fun a u e=>?_,fun k hk=>?_,r.inj,r.oc,fun q hq=>(r.tabs q hq).to eF (by show upd w.F p o q.1=none; rw[upd_ne (tz q hq)]; exact (r.tabs q hq).nF) (by show (if q.1=p then none else w.Z q.1)=none; rw[if_neg (tz q hq)]; exact (r.tabs q hq).nZ) rfl⟩
 ·by_cases ha:a=p
  ·subst ha
   have e:upd w.F a o a=some u:=e
   rw[upd_same] at e
   cases e
   exact hH
  ·have e:upd w.F p o a=some u:=e
   rw[upd_ne ha] at e
   exact r.sub a u e
 ·have e:(if a=p then none else w.Z a)=some u:=e
  by_cases ha:a=p
  ·rw[if_pos ha] at e; cases e
  ·rw[if_neg ha] at e
   obtain⟨e1,e2⟩:=r.subz a u e
   exact⟨e1,by show upd w.F p o a=none; rw[upd_ne ha]; exact e2⟩
 ·have q:=r.cell k hk
  have g2:∀b,w.F b=none∧w.Z b=none→upd w.F p o b=none∧(if b=p then none else w.Z b)=none:=fun b hb=>⟨by rw[upd_ne (nz _ hb.2)]; exact hb.1,by rw[if_neg (nz _ hb.2)]; exact hb.2⟩
  show RC g _ h.nx _ (w.m k) (h.cell k)
  cases ec:h.cell k with
  |no=>rw[ec] at q; exact q.elim fun o e=>⟨o,eF _ _ e⟩
  |lst m=>
   rw[ec] at q
   obtain⟨q1,zs,q2,q3⟩:=q
   exact⟨g2 _ q1,zs,q2,RVs.moreF eF q3⟩
  |ins c fs=>
   rw[ec] at q
   obtain⟨q1,dx,gs,q4,q2,q5,q3,qc⟩:=q
   exact⟨g2 _ q1,dx,gs,g2 _ q4,q2,q5,RVf.moreF eF q3,qc⟩
  |dct t l=>
   rw[ec] at q
   obtain⟨qt,q1,zs,q2,q3⟩:=q
   exact⟨qt,g2 _ q1,zs,q2,RVd.moreF eF q3⟩
  |tdc l=>
   rw[ec] at q
   obtain⟨q1,zs,q2,q3⟩:=q
   exact⟨g2 _ q1,zs,q2,RVt.moreF eF q3⟩
end
/-! ### what is wanted of a result -/
def RX (g:Gi) (w:Wd) (n:Nat) (x:D) (cls:Value) (d:Option Addr) (H:Hp):Prop:=∃(c:Nat) (fs:List (Nat × D)) (dd:Addr) (gs:List (Str × V)),x=.exc c fs∧cls=.ref (g.ca c)∧d=some dd∧w.F dd=some (.xd gs)∧RVf g w n fs gs∧g.xk c
def Za4 {α:Type} (g:Gi) (w:Wd) (n:Nat) (r:Res α) (X:XK) (P:Wd→AH→Hp→α→Prop):Prop:=match r with
 | .ok a h'=>∀w' H',Ext w n w' h'.nx→RR g w' h' H'→P w' h' H' a
 | .exc x h'=>∀w' H' cls d,Ext w n w' h'.nx→RR g w' h' H'→RX g w' h'.nx x cls d H'→X cls d H'
 | .stuck=>False
theorem Za4.mono {α:Type} {g:Gi} {w:Wd} {n:Nat} {r:Res α} {X:XK} {P P':Wd→AH→Hp→α→Prop} (h:Za4 g w n r X P) (k:∀w' h' H' a,Ext w n w' h'.nx→RR g w' h' H'→P w' h' H' a→P' w' h' H' a):Za4 g w n r X P':=by
 cases r with
 |ok a h'=>exact fun w' H' e rr=>k w' h' H' a e rr (h w' H' e rr)
 |exc x h'=>exact h
 |stuck=>exact h
theorem Za4.bind {α β:Type} {g:Gi} {w:Wd} {n:Nat} {r:Res α} {f:α→AH→Res β} {X:XK} {P:Wd→AH→Hp→β→Prop} (q:Za4 g w n (r.bind f) X P):
  Za4 g w n r X (fun w1 h1 H1 a=>Za4 g w1 h1.nx (f a h1) X P):=by
 cases r with
 |ok a h1=>
  intro w1 H1 e1 rr1
  have q:Za4 g w n (f a h1) X P:=q
  cases e:f a h1 with
  |ok b h2=>
   rw[e] at q
   exact fun w2 H2 e2 rr2=>q w2 H2 (e1.trans e2) rr2
  |exc x h2=>
   rw[e] at q
   exact fun w2 H2 cls d e2 rr2 rx=>q w2 H2 cls d (e1.trans e2) rr2 rx
  |stuck=>rw[e] at q; exact q
 |exc x h1=>exact q
 |stuck=>exact q
theorem Za4.now {α:Type} {g:Gi} {w:Wd} {h:AH} {H:Hp} {a:α} {X:XK} {P:Wd→AH→Hp→α→Prop} (q:Za4 g w h.nx (.ok a h) X P) (rr:RR g w h H):P w h H a:=q w H (Ext.refl _ _) rr
theorem Za4.noexc {α:Type} {g:Gi} {w:Wd} {n:Nat} {r:Res α} {X X':XK} {P:Wd→AH→Hp→α→Prop} (q:Za4 g w n (Za6 r) X P):Za4 g w n r X' P:=by
 cases r with
 |ok a h=>exact q
 |exc x h=>exact q.elim
 |stuck=>exact q
abbrev PV (g:Gi) (Q:VK):Wd→AH→Hp→D→Prop:=fun w h H d=>∀x,RV g w h.nx d x→Q x H
abbrev PVs (g:Gi) (Q:List V→Hp→Prop):Wd→AH→Hp→List D→Prop:=fun w h H l=>∀xs,RVs g w h.nx l xs→Q xs H
abbrev PB (Q:Bool→Hp→Prop):Wd→AH→Hp→Bool→Prop:=fun _ _ H b=>Q b H
abbrev PF (g:Gi) (W:L2.WX) (D:Ends):Wd→AH→Hp→Fl→Prop:=fun w h H f=>match f with
 | .nx e=>∀σ,RE g w h.nx e σ→D.nx σ H
 | .bk e=>∀σ,RE g w h.nx e σ→D.bk σ H
 | .ct e=>∀σ,RE g w h.nx e σ→D.ct σ H
 | .rt d=>∀x,RV g w h.nx d x→D.rt x H
 | .xc x e=>∀σ cls d,RE g w h.nx e σ→RX g w h.nx x cls d H→W cls d σ H
def tE (g:Gi) (X:L2.St→XK) (run:Env→AH→Res D):TE:=fun σ H Q=>∃w env h,RR g w h H∧RE g w h.nx env σ∧Za4 g w h.nx (run env h) (X σ) (PV g Q)
def tEs (g:Gi) (X:L2.St→XK) (run:Env→AH→Res (List D)):TA:=fun σ H Q=>∃w env h,RR g w h H∧RE g w h.nx env σ∧Za4 g w h.nx (run env h) (X σ) (PVs g Q)
def tB' (g:Gi) (X:L2.St→XK) (run:Env→AH→Res Bool):TT:=fun σ H Q=>∃w env h,RR g w h H∧RE g w h.nx env σ∧Za4 g w h.nx (run env h) (X σ) (PB Q)
def tS (g:Gi) (W:L2.WX) (run:Env→AH→Res Fl):TS:=fun D σ H=>∃w env h,RR g w h H∧RE g w h.nx env σ∧Za4 g w h.nx (run env h) (fun _ _ _=>False) (PF g W D)
def spF (g:Gi) (call:Cl) (c:Bool) (f:Nat):Sp:=fun vs H Q E=>∃w ds h,RR g w h H∧RVs g w h.nx ds vs∧Za4 g w h.nx (call.f c f ds h) E (PV g Q)
end Rk
/-! Rk.C:operators. -/
namespace Rk
open PySem PySem.Spec PyProof.Rows L2
/-! ### data as the library's -/
mutual
def py:D→PyData
 | .bl b=>.bool b
 | .int i=>.int i
 | .str s=>.str (stt s)
 | .tup l=>.tuple (pys l)
 | .lst l=>.list (pys l)
 |_=>.none
def pys:List D→List PyData
 |[]=>[]
 |x::l=>py x::pys l
end
theorem Zbk (s:List Nat):(stt s).length=s.length:=by simp[Str.length]
theorem Zfj {a b:List Nat} (h:stt a=stt b):a=b:=congrArg (fun x:Str=>x.cps.toList) h
theorem ZmP (a b:List Nat):(stt a == stt b)=(a == b):=by
 by_cases h:a=b
 ·subst h; rw[ZaB,ZaB]
 ·have:¬stt a=stt b:=fun e=>h (Zfj e)
  rw[ZaU.mpr this,ZaU.mpr h]
section
variable {g:Gi} {w:Wd} {n:Nat} {H:Hp}
mutual
theorem ZcJ (sub:∀a o,w.F a=some o→H a=some o):∀(k:Nat) (d:D) (v:V),dpt k d=true→RV g w n d v→Dp g.K H v (py d)
 |k,.non,v,_,h=>by unfold RV at h; subst h; unfold py; exact .non
 |k,.bl b,v,_,h=>by unfold RV at h; subst h; unfold py; exact .bl b
 |k,.int i,v,_,h=>by unfold RV at h; subst h; unfold py; exact .int i
 |k,.str s,v,_,h=>by unfold RV at h; obtain⟨rfl,_⟩:=h; unfold py; exact .str _
 |0,.tup l,v,h,_=>by unfold dpt at h; cases h
 |0,.lst l,v,h,_=>by unfold dpt at h; cases h
 |k+1,.tup l,v,h,r=>by
  unfold dpt at h; unfold RV at r; unfold py
  obtain⟨a,xs,rfl,q,r⟩:=r
  exact .tup (.inl (.inl (sub _ _ q))) (dps_of sub k l xs h r)
 |k+1,.lst l,v,h,r=>by
  unfold dpt at h; unfold RV at r; unfold py
  obtain⟨a,xs,rfl,q,r⟩:=r
  exact .lst (SqL.of (sub _ _ q)) (dps_of sub k l xs h r)
 |k,.ref _,_,h,_=>by cases k<;>(unfold dpt at h; cases h)
 |k,.ktp _,_,h,_=>by cases k<;>(unfold dpt at h; cases h)
 |k,.ins _ _,_,h,_=>by cases k<;>(unfold dpt at h; cases h)
 |k,.exc _ _,_,h,_=>by cases k<;>(unfold dpt at h; cases h)
 |k,.scr _,_,h,_=>by cases k<;>(unfold dpt at h; cases h)
 |k,.dct _ _,_,h,_=>by cases k<;>(unfold dpt at h; cases h)
 |k,.set _,_,h,_=>by cases k<;>(unfold dpt at h; cases h)
theorem dps_of (sub:∀a o,w.F a=some o→H a=some o):∀(k:Nat) (l:List D) (xs:List V),dpts k l=true→RVs g w n l xs→DpAll g.K H xs (pys l)
 |k,[],xs,_,h=>by rw[Zbo.mp h]; unfold pys; exact .nil
 |k,d::l,xs,h,r=>by
  unfold dpts at h
  rw[Zaa] at h
  obtain⟨x,ys,rfl,h1,h2⟩:=ZaQ.mp r
  unfold pys
  exact .cons (ZcJ sub k d x h.1 h1) (dps_of sub k l ys h.2 h2)
end
mutual
theorem Ze5:∀(k:Nat) (d:D) (v:V),dpt k d=true→RV g w n d v→(py d).canLay0=true∧(py d).depth≤k
 |k,.non,v,_,h=>by unfold py; exact⟨by simp only[PyData.canLay0],by simp only[PyData.depth]; omega⟩
 |k,.bl b,v,_,h=>by unfold py; exact⟨by simp only[PyData.canLay0],by simp only[PyData.depth]; omega⟩
 |k,.int i,v,_,h=>by unfold py; exact⟨by simp only[PyData.canLay0],by simp only[PyData.depth]; omega⟩
 |k,.str s,v,_,h=>by
  unfold RV at h
  obtain⟨_,h⟩:=h
  unfold py
  refine⟨?_,by simp only[PyData.depth]; omega⟩
  simp only[PyData.canLay0,PyData.strOk]
  unfold okS at h
  simpa using h
 |0,.tup l,v,h,_=>by unfold dpt at h; cases h
 |0,.lst l,v,h,_=>by unfold dpt at h; cases h
 |k+1,.tup l,v,h,r=>by
  unfold dpt at h; unfold RV at r; unfold py
  obtain⟨a,xs,rfl,q,r⟩:=r
  obtain⟨h1,h2⟩:=lays_of k l xs h r
  exact⟨by simp only[PyData.canLay0]; exact h1,by simp only[PyData.depth]; omega⟩
 |k+1,.lst l,v,h,r=>by
  unfold dpt at h; unfold RV at r; unfold py
  obtain⟨a,xs,rfl,q,r⟩:=r
  obtain⟨h1,h2⟩:=lays_of k l xs h r
  exact⟨by simp only[PyData.canLay0]; exact h1,by simp only[PyData.depth]; omega⟩
 |k,.ref _,_,h,_=>by cases k<;>(unfold dpt at h; cases h)
 |k,.ktp _,_,h,_=>by cases k<;>(unfold dpt at h; cases h)
 |k,.ins _ _,_,h,_=>by cases k<;>(unfold dpt at h; cases h)
 |k,.exc _ _,_,h,_=>by cases k<;>(unfold dpt at h; cases h)
 |k,.scr _,_,h,_=>by cases k<;>(unfold dpt at h; cases h)
 |k,.dct _ _,_,h,_=>by cases k<;>(unfold dpt at h; cases h)
 |k,.set _,_,h,_=>by cases k<;>(unfold dpt at h; cases h)
theorem lays_of:∀(k:Nat) (l:List D) (xs:List V),dpts k l=true→RVs g w n l xs→PyData.canLayAll0 (pys l)=true∧PyData.depthAll (pys l)≤k
 |k,[],xs,_,h=>by unfold pys; exact⟨by simp only[PyData.canLayAll0],by simp only[PyData.depthAll]; omega⟩
 |k,d::l,xs,h,r=>by
  unfold dpts at h
  rw[Zaa] at h
  obtain⟨x,ys,rfl,h1,h2⟩:=ZaQ.mp r
  unfold pys
  obtain⟨a1,a2⟩:=Ze5 k d x h.1 h1
  obtain⟨b1,b2⟩:=lays_of k l ys h.2 h2
  exact⟨by simp only[PyData.canLayAll0,a1,b1,Bool.and_self],by simp only[PyData.depthAll]; omega⟩
end
theorem ZbC {d:D} {v:V} (h:dpt 60 d=true) (r:RV g w n d v):SeqAt.shaped (py d)=true:=by
 obtain⟨h1,h2⟩:=Ze5 60 d v h r
 unfold SeqAt.shaped
 rw[h1,ZaJ (show (py d).depth≤64 by omega)]
 rfl
mutual
theorem Zin:∀(k:Nat) (d e:D),dpt k d=true→(∃j,dpt j e=true)→deq d e=PyData.eqv (py d) (py e)
 |k,.non,e,_,he=>by
  obtain⟨j,he⟩:=he
  cases e<;>first |(unfold deq py PyData.eqv; rfl) |(cases j<;>(unfold dpt at he; cases he))
 |k,.bl b,e,_,he=>by
  obtain⟨j,he⟩:=he
  cases e<;>first |(unfold deq py PyData.eqv; rfl) |(cases j<;>(unfold dpt at he; cases he))
 |k,.int b,e,_,he=>by
  obtain⟨j,he⟩:=he
  cases e<;>first |(unfold deq py PyData.eqv; rfl) |(cases j<;>(unfold dpt at he; cases he))
 |k,.str b,e,_,he=>by
  obtain⟨j,he⟩:=he
  cases e<;>first |(unfold deq py PyData.eqv; first |rfl |exact (ZmP _ _).symm) |(cases j<;>(unfold dpt at he; cases he))
 |0,.tup l,v,h,_=>by unfold dpt at h; cases h
 |0,.lst l,v,h,_=>by unfold dpt at h; cases h
 |k+1,.tup l,e,h,he=>by
  obtain⟨j,he⟩:=he
  unfold dpt at h
  cases e with
  |tup m=>
   cases j with
   |zero=>unfold dpt at he; cases he
   |succ j=>unfold dpt at he; unfold deq py PyData.eqv; exact deqs_py k l m h ⟨j,he⟩
  |_=>first |(unfold deq py PyData.eqv; rfl) |(cases j<;>(unfold dpt at he; cases he))
 |k+1,.lst l,e,h,he=>by
  obtain⟨j,he⟩:=he
  unfold dpt at h
  cases e with
  |lst m=>
   cases j with
   |zero=>unfold dpt at he; cases he
   |succ j=>unfold dpt at he; unfold deq py PyData.eqv; exact deqs_py k l m h ⟨j,he⟩
  |_=>first |(unfold deq py PyData.eqv; rfl) |(cases j<;>(unfold dpt at he; cases he))
 |k,.ref _,_,h,_=>by cases k<;>(unfold dpt at h; cases h)
 |k,.ktp _,_,h,_=>by cases k<;>(unfold dpt at h; cases h)
 |k,.ins _ _,_,h,_=>by cases k<;>(unfold dpt at h; cases h)
 |k,.exc _ _,_,h,_=>by cases k<;>(unfold dpt at h; cases h)
 |k,.scr _,_,h,_=>by cases k<;>(unfold dpt at h; cases h)
 |k,.dct _ _,_,h,_=>by cases k<;>(unfold dpt at h; cases h)
 |k,.set _,_,h,_=>by cases k<;>(unfold dpt at h; cases h)
theorem deqs_py:∀(k:Nat) (l m:List D),dpts k l=true→(∃j,dpts j m=true)→deqs l m=PyData.eqvAll (pys l) (pys m)
 |k,[],[],_,_=>by unfold deqs pys PyData.eqvAll; rfl
 |k,[],_::_,_,_=>by unfold deqs pys PyData.eqvAll; rfl
 |k,_::_,[],_,_=>by unfold deqs pys PyData.eqvAll; rfl
 |k,d::l,e::m,h,hm=>by
  obtain⟨j,hm⟩:=hm
  unfold dpts at h hm
  rw[Zaa] at h hm
  unfold deqs pys PyData.eqvAll
  rw[Zin k d e h.1 ⟨j,hm.1⟩,deqs_py k l m h.2 ⟨j,hm.2⟩]
end
theorem Zdn {d:D} (hd:∃j,dpt j d=true):∀{k:Nat} {l:List D},dpts k l=true→((pys l).any fun z=>PyData.eqv z (py d))=l.any fun z=>deq z d
 |k,[],_=>by unfold pys; rfl
 |k,e::l,h=>by
  unfold dpts at h
  rw[Zaa] at h
  unfold pys
  rw[Zi2,Zi2,Zdn hd h.2,Zin k e d h.1 hd]
end
/-! ### contexts -/
structure GX (g:Gi) (c:Bool) (k:Nat) (X:Cx):Prop where
 K:X.K=g.K
 calm:c=true→X.calm=true
 dp:X.A.depth+3 * k+5 < recursionLimit
 un:X.A.units+16 * k+200 < cLine
 gd:X.A.guards=some []
 nd:X.N.Nodup
def rO (g:Gi) (E:XK) (f:D→D→AH→Res D):R2:=fun x y H Q=>∃w h d e,RR g w h H∧RV g w h.nx d x∧RV g w h.nx e y∧Za4 g w h.nx (f d e h) E (PV g Q)
theorem _root_.L2.PE.imp {X:Cx} {e:Expr} {t t':TE} (h:PE X e t) (k:∀σ H Q,t' σ H Q→t σ H Q):PE X e t':=⟨fun pins s σ H Q I q=>h.run pins s σ H Q I (k _ _ _ q)⟩
theorem _root_.L2.PT.imp {X:Cx} {e:Expr} {t t':TT} (h:PT X e t) (k:∀σ H Q,t' σ H Q→t σ H Q):PT X e t':=⟨fun pins s σ H Q I q=>h.run pins s σ H Q I (k _ _ _ q)⟩
theorem _root_.L2.PS.imp {X:Cx} {e:Stmt} {t t':TS} (h:PS X e t) (k:∀D σ H,t' D σ H→t D σ H):PS X e t':=⟨fun pins s σ H D I q=>h.run pins s σ H D I (k _ _ _ q)⟩
theorem _root_.L2.PSs.imp {X:Cx} {e:List Stmt} {t t':TS} (h:PSs X e t) (k:∀D σ H,t' D σ H→t D σ H):PSs X e t':=⟨fun pins s σ H D I q=>h.run pins s σ H D I (k _ _ _ q)⟩
theorem _root_.L2.PA.imp {X:Cx} {es:List Expr} {t t':TA} (h:PA X es t) (k:∀σ H Q,t' σ H Q→t σ H Q):PA X es t':=⟨fun pos pins s σ H Q I q=>h.run pos pins s σ H Q I (k _ _ _ q)⟩
theorem _root_.L2.OpR.imp {X:Cx} {f:Value→Value→Sem Value} {r r':R2} (h:OpR X f r) (k:∀x y H Q,r' x y H Q→r x y H Q):OpR X f r':=fun pins s σ H x y v u Q I rx ry q=>h pins s σ H x y v u Q I rx ry (k _ _ _ _ q)
section
variable {g:Gi} {w:Wd} {h:AH} {H:Hp} {n:Nat} {x y:V} {Q:VK} {E:XK}
theorem Za7 {i:Int}:RV g w n (.int i) x↔x=.int i:=by unfold RV; exact Iff.rfl
theorem Zde {b:Bool}:RV g w n (.bl b) x↔x=.bl b:=by unfold RV; exact Iff.rfl
theorem ZdY:RV g w n .non x↔x=.non:=by unfold RV; exact Iff.rfl
theorem Za1 {s:List Nat}:RV g w n (.str s) x↔x=.str (stt s)∧okS s=true:=by unfold RV; exact Iff.rfl
theorem Zb5 {l:List D}:RV g w n (.tup l) x↔∃a xs,x=.ref a∧w.F a=some (.tup xs)∧RVs g w n l xs:=by unfold RV; exact Iff.rfl
theorem ZcE {l:List D} (r:RV g w n (.tup l) x):∃a xs,x=.ref a∧SqT g.K w.F a xs∧RVs g w n l xs:=by
 obtain⟨a,xs,e,q,s⟩:=Zb5.mp r
 exact⟨a,xs,e,.inl (.inl q),s⟩
theorem ZmV {l:List D}:RV g w n (.ktp l) x↔∃a xs,x=.ref a∧(∃(o:Obj) (its:Array Value) (m:Nat),g.K.lookup a=some o∧o.cls=.type "tuple"∧o.data=.seq its m∧its.size≤sizeLine∧Vals xs its.toList)∧RVs g w n l xs:=by unfold RV; exact Iff.rfl
theorem Zoo {l:List D} (r:RV g w n (.ktp l) x):∃a xs,x=.ref a∧SqT g.K w.F a xs∧RVs g w n l xs:=by
 obtain⟨a,xs,e,q,s⟩:=ZmV.mp r
 exact⟨a,xs,e,.inr q,s⟩
theorem Zbd {l:List D}:RV g w n (.lst l) x↔∃a xs,x=.ref a∧w.F a=some (.lst xs)∧RVs g w n l xs:=by unfold RV; exact Iff.rfl
theorem Zb0 {k:Nat}:RV g w n (.ref k) x↔x=.ref (w.m k)∧k < n:=by unfold RV; exact Iff.rfl
theorem ZmU {l:List Int}:RV g w n (.scr l) x↔∃a,x=.ref a∧SqL g.K w.F a (l.map V.int):=by unfold RV; exact Iff.rfl
theorem Zba {d:D} (q:Za4 g w h.nx (.ok d h) E (PV g Q)) (rr:RR g w h H) (rv:RV g w h.nx d x):Q x H:=q.now rr x rv
theorem Zcd {d:D} {o:HO} {p:Addr} (q:Za4 g w h.nx (.ok d h) E (PV g Q)) (rr:RR g w h H) (hp:H p=none)
  (rv:RV g ⟨w.m,upd w.F p o,w.Z⟩ h.nx d (.ref p)):Q (.ref p) (upd H p o):=by
 obtain⟨r2,x⟩:=rr.freeze (o:=o) hp
 exact q _ _ x r2 _ rv
theorem Zdo {a b:List Nat} (ha:okS a=true) (hb:okS b=true):okS (a++b)=true:=by
 unfold okS at *
 rw[List.all_append,ha,hb]
 rfl
theorem Zcy:sizeLine=line:=by rw[sizeLine_eq]; rfl
theorem Zdm (a b:List Nat):stt a++stt b=stt (a++b):=by
 show Str.append _ _=_
 unfold Str.append stt
 simp
theorem ZjB {l:List D} {xs:List V} (r:RVs g w n l xs):xs=[]↔l=[]:=by
 cases l with
 |nil=>rw[Zbo.mp r]; simp
 |cons d l=>
  obtain⟨x,ys,rfl,_,_⟩:=ZaQ.mp r
  simp
end
theorem Zbx {c:Prop} [Decidable c] {α:Type} {g:Gi} {w:Wd} {n:Nat} {r:Res α} {E:XK} {P:Wd→AH→Hp→α→Prop} (q:Za4 g w n (if c then r else .stuck) E P):c∧Za4 g w n r E P:=by
 by_cases hc:c
 ·rw[if_pos hc] at q; exact⟨hc,q⟩
 ·rw[if_neg hc] at q; exact q.elim
end Rk
/-! Rk.Ck:the order of data. -/
namespace Rk
open PySem PySem.Spec PyProof.Rows L2 PySem.W
mutual
theorem ZcI:∀x y:D,kin x y=true→alike (py x) (py y)=true
 | .int _,y,h=>by cases y<;>first |rfl |(unfold kin at h; cases h; done) |(unfold py alike; rfl)
 | .str _,y,h=>by cases y<;>first |rfl |(unfold kin at h; cases h; done) |(unfold py alike; rfl)
 | .tup l,y,h=>by
  cases y with
  |tup m=>unfold kin at h; unfold py alike; exact kins_alike l m h
  |_=>unfold kin at h; cases h
 | .non,_,h=>by unfold kin at h; cases h
 | .bl _,_,h=>by unfold kin at h; cases h
 | .lst _,_,h=>by unfold kin at h; cases h
 | .ref _,_,h=>by unfold kin at h; cases h
 | .ins _ _,_,h=>by unfold kin at h; cases h
 | .exc _ _,_,h=>by unfold kin at h; cases h
 | .scr _,_,h=>by unfold kin at h; cases h
 | .dct _ _,_,h=>by unfold kin at h; cases h
 | .set _,_,h=>by unfold kin at h; cases h
 | .ktp _,_,h=>by unfold kin at h; cases h
theorem kins_alike:∀l m:List D,kins l m=true→alikeAll (pys l) (pys m)=true
 |[],[],_=>by unfold pys alikeAll; rfl
 |[],_::_,_=>by unfold pys alikeAll; rfl
 |_::_,[],_=>by unfold pys alikeAll; rfl
 |x::l,y::m,h=>by
  unfold kins at h
  rw[Zaa] at h
  unfold pys alikeAll
  rw[ZcI x y h.1,kins_alike l m h.2]
  rfl
end
mutual
theorem ZdC:∀x y:D,kin x y=true→(Zbb x y=true↔x=y)∧PyData.eqv (py x) (py y)=Zbb x y
 | .int a,y,h=>by
  cases y with
  |int b=>unfold Zbb py PyData.eqv; exact⟨by rw[Zbi]; exact⟨fun z=>by rw[z],fun z=>by injection z⟩,rfl⟩
  |_=>unfold kin at h; cases h
 | .str a,y,h=>by
  cases y with
  |str b=>
   unfold Zbb py PyData.eqv
   exact⟨by rw[Zbi]; exact⟨fun z=>by rw[z],fun z=>by injection z⟩,ZmP _ _⟩
  |_=>unfold kin at h; cases h
 | .tup l,y,h=>by
  cases y with
  |tup m=>
   unfold kin at h
   obtain⟨h1,h2⟩:=kins_same l m h
   unfold Zbb py PyData.eqv
   exact⟨by rw[h1]; exact⟨fun z=>by rw[z],fun z=>by injection z⟩,h2⟩
  |_=>unfold kin at h; cases h
 | .non,_,h=>by unfold kin at h; cases h
 | .bl _,_,h=>by unfold kin at h; cases h
 | .lst _,_,h=>by unfold kin at h; cases h
 | .ref _,_,h=>by unfold kin at h; cases h
 | .ins _ _,_,h=>by unfold kin at h; cases h
 | .exc _ _,_,h=>by unfold kin at h; cases h
 | .scr _,_,h=>by unfold kin at h; cases h
 | .dct _ _,_,h=>by unfold kin at h; cases h
 | .set _,_,h=>by unfold kin at h; cases h
 | .ktp _,_,h=>by unfold kin at h; cases h
theorem kins_same:∀l m:List D,kins l m=true→(dsames l m=true↔l=m)∧PyData.eqvAll (pys l) (pys m)=dsames l m
 |[],[],_=>by unfold dsames pys PyData.eqvAll; exact⟨⟨fun _=>rfl,fun _=>rfl⟩,rfl⟩
 |[],_::_,_=>by unfold dsames pys PyData.eqvAll; exact⟨⟨fun z=>(by cases z),fun z=>(by cases z)⟩,rfl⟩
 |_::_,[],_=>by unfold dsames pys PyData.eqvAll; exact⟨⟨fun z=>(by cases z),fun z=>(by cases z)⟩,rfl⟩
 |x::l,y::m,h=>by
  unfold kins at h
  rw[Zaa] at h
  obtain⟨a1,a2⟩:=ZdC x y h.1
  obtain⟨b1,b2⟩:=kins_same l m h.2
  unfold dsames pys PyData.eqvAll
  rw[a2,b2,Zaa,a1,b1]
  exact⟨⟨fun z=>by rw[z.1,z.2],fun z=>by injection z with z1 z2; exact⟨z1,z2⟩⟩,rfl⟩
end
mutual
theorem ZhX:∀x y:D,kin x y=true→ltD x y=some (dataLt (py x) (py y))
 | .int a,y,h=>by
  cases y with
  |int b=>unfold ltD py; rw[dataLt_int]
  |_=>unfold kin at h; cases h
 | .str a,y,h=>by
  cases y with
  |str b=>unfold ltD py; rw[dataLt_str]; rfl
  |_=>unfold kin at h; cases h
 | .tup l,y,h=>by
  cases y with
  |tup m=>unfold kin at h; unfold ltD py; rw[dataLt_tuple]; exact ltDs_data l m h
  |_=>unfold kin at h; cases h
 | .non,_,h=>by unfold kin at h; cases h
 | .bl _,_,h=>by unfold kin at h; cases h
 | .lst _,_,h=>by unfold kin at h; cases h
 | .ref _,_,h=>by unfold kin at h; cases h
 | .ins _ _,_,h=>by unfold kin at h; cases h
 | .exc _ _,_,h=>by unfold kin at h; cases h
 | .scr _,_,h=>by unfold kin at h; cases h
 | .dct _ _,_,h=>by unfold kin at h; cases h
 | .set _,_,h=>by unfold kin at h; cases h
 | .ktp _,_,h=>by unfold kin at h; cases h
theorem ltDs_data:∀l m:List D,kins l m=true→ltDs l m=some (lexLt itemOrd (keyToksAll (pys l)) (keyToksAll (pys m)))
 |[],[],_=>by unfold ltDs pys; rw[lex_irrefl]
 |[],y::m,_=>by
  unfold ltDs pys
  rw[toks_all_cons]
  simp only[keyToksAll]
  rw[lex_diff (O:=itemOrd) (by simp)]
  simp[itemLt]
 |x::l,[],_=>by
  unfold ltDs pys
  rw[toks_all_cons]
  simp only[keyToksAll]
  rw[lex_diff (O:=itemOrd) (by simp)]
  simp[itemLt]
 |x::l,y::m,h=>by
  unfold kins at h
  rw[Zaa] at h
  have al:=ZcI x y h.1
  obtain⟨_,a2⟩:=ZdC x y h.1
  unfold ltDs pys
  cases e:Zbb x y with
  |true=>
   rw[if_pos rfl,dataLt_all_yes al (a2.trans e)]
   exact ltDs_data l m h.2
  |false=>
   rw[if_neg (by simp),dataLt_all_no al (a2.trans e)]
   exact ZhX x y h.1
end
theorem ZhY {x y:D} (h:kin x y=true):ltB x y=dataLt (py x) (py y):=by unfold ltB; rw[ZhX x y h]; rfl
theorem ZlX {d e:D} (h:kin d e=true):py d≠ .none:=by
 cases d with
 |int i=>unfold py; exact fun z=>nomatch z
 |str i=>unfold py; exact fun z=>nomatch z
 |tup i=>unfold py; exact fun z=>nomatch z
 |_=>unfold kin at h; cases h
def rLtD (K:PySem.W.Frag):R2:=fun x y H Q=>∃d e,Dp K H x d∧Dp K H y e∧alike d e=true∧d≠ .none∧d.depth≤64∧Q (.bl (dataLt d e)) H
theorem ZoB {X:Cx} (hu:X.A.units+64 < cLine):OpR X (compareOp .Lt) (rLtD X.K):=by
 intro pins s σ H x y v u Q I rx ry h
 obtain⟨d,e,hd,he,al,hn,dp,q⟩:=h
 obtain⟨as,r1⟩:=Dp.reads I d x v hd rx
 obtain⟨bs,r2⟩:=Dp.reads I e y u he ry
 exact PySem.W.lt_data r1 r2 al hn (by have:=Nat.min_le_left d.depth e.depth; omega) ⟨.bl _,H,I,rfl,q⟩
end Rk
/-! Rk.D:the operations' rules. -/
namespace Rk
open PySem PySem.Spec PyProof.Rows L2
section
variable {l:Addr} {items:Array Value} {n:Nat} {dd:Option Addr} {sl:Array (Option Value)} {u:Tok} {x:Int}
def TupO (s:Shared) (l:Addr) (items:Array Value) (n:Nat) (dd:Option Addr) (sl:Array (Option Value)):Prop:=
 s.heap.get? l=some ⟨.type "tuple",dd,.seq items n,sl⟩
theorem Zlm:Meets (Builtin.«tuple.__mul__» ⟨[.ref l,.int 1 u],[]⟩) (fun _ R s=>TupO s l items n dd sl∧R (.ok (.ret (.ref l))) s):=by
 refine .of_wp fun prog w A R s h=>?_
 obtain⟨hp,gn,dr,tk,os⟩:=s
 obtain⟨ht,hr⟩:=h
 unfold TupO at ht
 have f1:=AutoSeq1.idx_int
 wp_walk using wpAny_loadPart' ht
 all_goals exact⟨_,rfl,hr⟩
theorem Zln (hx: -1000≤x∧x≤0) (hi:items.isEmpty=false):Meets (Builtin.«tuple.__mul__» ⟨[.ref l,.int x u],[]⟩) (fun _ R s=>TupO s l items n dd sl∧
   R (.ok (.ret (.ref s.heap.objs.size))) {s with heap:=s.heap.push ⟨.type "tuple",none,.seq #[] 0,#[]⟩}):=by
 refine .of_wp fun prog w A R s h=>?_
 obtain⟨hp,gn,dr,tk,os⟩:=s
 obtain⟨ht,hr⟩:=h
 unfold TupO at ht
 have f1:=AutoSeq1.idx_int
 have c0:(decide (x < -(2 ^ 63))||decide (x≥2 ^ 63))=false:=by rw[ZaO (by omega),ZaO (by omega)]; rfl
 have c1:(items.isEmpty||x == 1)=false:=by rw[hi,Bool.false_or,ZaU]; omega
 have c2:(decide (x≤0)||items.isEmpty)=true:=by rw[ZaJ (by omega)]; rfl
 wp_walk using wpAny_loadPart' ht
 refine wpAny_ite_false (ZaO (fun z=>by rw[c0] at z; cases z)) ?_
 wp_walk using wpAny_loadPart' ht
 repeat (first
  |(refine wpAny_ite_false (ZaO (fun z=>by rw[c1] at z; cases z)) ?_; wp_walk using wpAny_loadPart' ht)
  |(refine wpAny_ite_true (ZaJ c2) ?_; wp_walk using wpAny_loadPart' ht))
 all_goals exact⟨_,rfl,hr⟩
def rRepF (K:PySem.W.Frag):R2:=fun x y H Q=>∃l k xs,x=.ref l∧y=.int k∧SqT K H l xs∧xs≠[]∧((k=1∧Q (.ref l) H)∨(-1000≤k∧k≤0∧∀p,H p=none→Q (.ref p) (upd H p (.tup []))))
variable {X:Cx}
theorem ZoA:OpR X (binaryOp .Mult) (rRepF X.K):=by
 intro pins s σ H x y v u Q I rx ry h
 obtain⟨l,k,xs,rfl,rfl,hT,hne,h1⟩:=h
 cases rx
 obtain⟨t,rfl⟩:=ry
 obtain⟨its,r,⟨⟨cl,dd,dt,sl⟩,ho,hc,n,hd⟩,_⟩:=I.tuple hT
 dsimp only at hc hd
 subst hc hd
 have tup:TupO s l its.toArray n dd sl:=ho
 have hi:its.toArray.isEmpty=false:=by
  cases its with
  |nil=>exact absurd (ZaL r.length) hne
  |cons a b=>rfl
 refine wpAny_binaryOp_repeat_ref (U:="int") (T:="tuple") (by decide) ⟨_,ho,rfl⟩ (fun z=>typeIs_int z k t) noFill_tuple_mul F.fills_int_mul F.slot_int_rmul repeat_tuple
  F.slot_int_index.lookup (call_meets F.slot_int_rmul (typeIs_int s k t) F.entry_int_rmul (F.args_int_rmul_2 _ _) (int_rmul_tuple k t l its.toArray n dd sl) ⟨ho,rfl,⟨_,ho,rfl⟩,?_⟩)
 rcases h1 with⟨rfl,q⟩ |⟨h1,h2,q⟩
 ·exact call_meets F.slot_tuple_mul ⟨_,ho,rfl⟩ F.entry_tuple_mul (F.args_tuple_mul_2 _ _) Zlm ⟨tup,⟨.ref l,H,I,rfl,q⟩⟩
 ·refine call_meets F.slot_tuple_mul ⟨_,ho,rfl⟩ F.entry_tuple_mul (F.args_tuple_mul_2 _ _) (Zln ⟨h1,h2⟩ hi) ⟨tup,?_⟩
  refine⟨.ref s.heap.objs.size,_,I.laid (t':=s.toks) (o:=.tup []) (fun b ob q=>Heap.get?_push_of_some _ q) (Zai _) ?_,rfl,q _ (I.hok.fresh (Zai _))⟩
  exact⟨ZeB _,_,.nil,IsTup.new _ _⟩
end
theorem OpR.cas {X:Cx} {f:Value→Value→Sem Value} {r:R2} (h:∀x y H Q,r x y H Q→∃r',OpR X f r'∧r' x y H Q):OpR X f r:=fun pins s σ H x y v u Q I rx ry q=>by
 obtain⟨r',o,q'⟩:=h x y H Q q
 exact o pins s σ H x y v u Q I rx ry q'
theorem ZgZ {g:Gi} {w:Wd} {n:Nat} {l:List D} {xs:List V} (r:RVs g w n l xs):∀k:Nat,RVs g w n (List.replicate k l).flatten (List.replicate k xs).flatten
 |0=>RVs.nil
 |k+1=>by
  rw[Zds,Zds,Zk7,Zk7]
  exact r.append (ZgZ r k)
section
variable {X:Cx} {g:Gi} {c:Bool} {k:Nat} {E:XK}
theorem mulOk {s:List Nat} {k:Int} (h1: -1000≤k) (h2:k≤1000) (h3:s.length≤1000):MulOk (stt s) k:=by
 have hm:(s.length:Int) * k≤1000 * 1000∨k < 1:=by
  by_cases q:k < 1
  ·exact .inr q
  ·exact .inl (Int.mul_le_mul (by omega) h2 (by omega) (by omega))
 refine⟨?_,fun n _ z=>?_,fun n _=>?_⟩
 ·rw[ZaO (by omega),ZaO (by omega)]
  rfl
 ·have e:(s.length:Int)≤(2 ^ 63 - 1) / k:=(Int.le_ediv_iff_mul_le (by omega)).mpr (by rcases hm with q |q<;>omega)
  have z:((stt s).length:Int) > (2 ^ 63 - 1) / k:=z
  rw[Zbk] at z
  omega
 ·rw[Zbk]
  have e:s.length * k.toNat≤1000 * 1000:=ZgL h3 (by omega)
  unfold Builtin.Str.tooLong
  refine ZaO ?_
  have:(1000 * 1000:Nat)≤sizeLine:=by decide
  omega
theorem Zif (a:List Nat):∀(n:Nat) (b:Array Nat),(List.replicate n a.toArray).foldl (· ++ ·) b=b++(List.replicate n a).flatten.toArray
 |0,b=>by simp
 |n+1,b=>by
  rw[Zds,Zcj,Zif a n,Zds,Zk7]
  simp
theorem ZoJ {s:List Nat} {k:Int}:Txt.mul (stt s) k=stt (List.replicate k.toNat s).flatten:=by
 unfold Txt.mul
 by_cases h1:k < 1
 ·rw[if_pos h1,show k.toNat=0 by omega]
  rfl
 ·rw[if_neg h1]
  by_cases h2:(k == 1||(stt s).length == 0)=true
  ·rw[if_pos h2]
   rw[ZaP,Zbi,Zbi,Zbk] at h2
   rcases h2 with rfl |h2
   ·show stt s=stt (List.replicate 1 s).flatten
    simp
   ·have e:=ZaL h2
    subst e
    simp
  ·rw[if_neg h2]
   show (⟨_⟩:Str)=⟨_⟩
   rw[Zif]
   simp
theorem ZiI:OpR X (binaryOp .Mult) (fun x y H Q=>∃i k,x=.str i∧y=.int k∧MulOk i k∧Q (.str (Txt.mul i k)) H):=by
 intro pins s σ H x y v u Q I rx ry h
 obtain⟨i,k,rfl,rfl,hok,q⟩:=h
 obtain⟨t,rfl⟩:=rx
 obtain⟨t',rfl⟩:=ry
 exact SB.mul hok fun t' tk=>⟨.str (Txt.mul i k),H,I.tok _,⟨_,rfl⟩,q⟩
theorem ZoC {s:List Nat} (h:okS s=true) (n:Nat):okS (List.replicate n s).flatten=true:=by
 unfold okS at h⊢
 rw[Zaj] at h⊢
 intro c hc
 obtain⟨l,hl,hcl⟩:=List.mem_flatten.mp hc
 rw[(List.mem_replicate.mp hl).2] at hcl
 exact h c hcl
theorem op_bin (G:GX g c k X) (o:Operator):OpR X (binaryOp o) (rO g E (Zcn o)):=by
 refine OpR.cas fun x y H Q ⟨w,h,d,e,rr,rd,re,q⟩=>?_
 have hK:=G.K
 unfold Zcn at q
 split at q
 ·rw[Za7] at rd re; subst rd re
  exact⟨_,op_add,_,_,rfl,rfl,Zba q rr (Za7.mpr rfl)⟩
 ·rw[Za1] at rd re
  obtain⟨rfl,k1⟩:=rd
  obtain⟨rfl,k2⟩:=re
  obtain⟨hl,q⟩:=Zbx q
  refine⟨_,op_add_str,_,_,rfl,rfl,by rw[Zbk,Zbk,Zcy]; exact hl,?_⟩
  rw[Zdm]
  exact Zba q rr (Za1.mpr ⟨rfl,Zdo k1 k2⟩)
 ·rw[Zbd] at rd re
  obtain⟨a,xs,rfl,q1,r1⟩:=rd
  obtain⟨b,ys,rfl,q2,r2⟩:=re
  obtain⟨hl,q⟩:=Zbx q
  refine⟨_,op_cat,_,_,_,_,rfl,rfl,rr.sub _ _ q1,rr.sub _ _ q2,by rw[r1.length,r2.length,Zcy]; exact hl,fun p hp=>?_⟩
  exact Zcd q rr hp (Zbd.mpr ⟨p,_,rfl,upd_same,(r1.append r2).ext (rr.freeze hp).2⟩)
 ·rw[Zb5] at rd re
  obtain⟨a,xs,rfl,q1,r1⟩:=rd
  obtain⟨b,ys,rfl,q2,r2⟩:=re
  obtain⟨hl,q⟩:=Zbx q
  refine⟨_,op_catA,_,_,_,_,rfl,rfl,.inl (.inl (rr.sub _ _ q1)),.inl (.inl (rr.sub _ _ q2)),by rw[r1.length,r2.length,Zcy]; exact hl,fun e=>?_,fun _ e=>?_,fun _ _ p hp=>?_⟩
  ·rw[(ZjB r1).mp e,ZaG] at q
   exact Zba q rr (Zb5.mpr ⟨_,_,rfl,q2,r2⟩)
  ·rw[(ZjB r2).mp e,Zaw] at q
   exact Zba q rr (Zb5.mpr ⟨_,_,rfl,q1,r1⟩)
  ·exact Zcd q rr hp (Zb5.mpr ⟨p,_,rfl,upd_same,(r1.append r2).ext (rr.freeze hp).2⟩)
 ·rw[Za7] at rd re; subst rd re
  exact⟨_,op_sub,_,_,rfl,rfl,Zba q rr (Za7.mpr rfl)⟩
 ·rw[Za7] at rd re; subst rd re
  obtain⟨hl,q⟩:=Zbx q
  exact⟨_,op_mul,_,_,rfl,rfl,hl,Zba q rr (Za7.mpr rfl)⟩
 ·rw[Za1] at rd; rw[Za7] at re; subst re
  obtain⟨rfl,k1⟩:=rd
  obtain⟨⟨h1,h2,h3⟩,q⟩:=Zbx q
  refine⟨_,ZiI,_,_,rfl,rfl,mulOk h1 h2 h3,?_⟩
  rw[ZoJ]
  exact Zba q rr (Za1.mpr ⟨rfl,ZoC k1 _⟩)
 ·rw[Zb5] at rd; rw[Za7] at re; subst re
  obtain⟨a,xs,rfl,q1,r1⟩:=rd
  obtain⟨⟨h0,h1,h2,h3⟩,q⟩:=Zbx q
  have hne:xs≠[]:=fun z=>by rw[(ZjB r1).mp z] at h0; cases h0
  have hT:SqT X.K H a xs:=.inl (.inl (rr.sub _ _ q1))
  rename_i l k _ _
  by_cases k2:2≤k
  ·exact⟨_,op_repT,a,_,xs,rfl,rfl,hT,hne,k2,h2,by rw[r1.length]; exact h3,fun p hp=>Zcd q rr hp (Zb5.mpr ⟨p,_,rfl,upd_same,(ZgZ r1 _).ext (rr.freeze hp).2⟩)⟩
  ·refine⟨_,ZoA,a,_,xs,rfl,rfl,hT,hne,?_⟩
   by_cases k1:k=1
   ·subst k1
    refine .inl ⟨rfl,?_⟩
    have e:(List.replicate (Int.toNat 1) l).flatten=l:=by show ([l]:List (List D)).flatten=l; simp
    rw[e] at q
    exact Zba q rr (Zb5.mpr ⟨_,_,rfl,q1,r1⟩)
   ·refine .inr ⟨h1,by omega,fun p hp=>?_⟩
    have e:(List.replicate k.toNat l).flatten=[]:=by rw[show k.toNat=0 by omega]; rfl
    rw[e] at q
    exact Zcd q rr hp (Zb5.mpr ⟨p,_,rfl,upd_same,RVs.nil⟩)
 ·rw[Zbd] at rd; rw[Za7] at re; subst re
  obtain⟨a,xs,rfl,q1,r1⟩:=rd
  obtain⟨⟨h1,h2,h3⟩,q⟩:=Zbx q
  refine⟨_,op_rep,a,_,xs,rfl,rfl,rr.sub _ _ q1,by omega,by omega,?_,fun p hp=>?_⟩
  ·rw[r1.length,Zcy]
   refine ZaI (ZgL h3 (show _≤1000 by omega)) (by decide)
  ·exact Zcd q rr hp (Zbd.mpr ⟨p,_,rfl,upd_same,(ZgZ r1 _).ext (rr.freeze hp).2⟩)
 ·rw[Za7] at rd re; subst rd re
  obtain⟨hl,q⟩:=Zbx q
  exact⟨_,op_mod,_,_,rfl,rfl,hl,Zba q rr (Za7.mpr rfl)⟩
 ·rw[Za7] at rd re; subst rd re
  obtain⟨hl,q⟩:=Zbx q
  exact⟨_,op_fdiv,_,_,rfl,rfl,hl,Zba q rr (Za7.mpr rfl)⟩
 ·rw[Za7] at rd re; subst rd re
  obtain⟨hl,q⟩:=Zbx q
  exact⟨_,op_pow,_,_,rfl,rfl,hl,Zba q rr (Za7.mpr rfl)⟩
 ·exact q.elim
theorem ZcZ {α:Type} {o:Option α} {w:Wd} {h:AH} {P:Wd→AH→Hp→α→Prop} (q:Za4 g w h.nx (Zbv o h) E P):∃a,o=some a∧Za4 g w h.nx (.ok a h) E P:=by
 cases o with
 |none=>exact q.elim
 |some a=>exact⟨a,rfl,q⟩
theorem Zdc {α β:Type} {o:Option α} {f:α→β} {w:Wd} {h:AH} {P:Wd→AH→Hp→β→Prop} (q:Za4 g w h.nx (Zbv (o.map f) h) E P):∃a,o=some a∧Za4 g w h.nx (.ok (f a) h) E P:=by
 obtain⟨b,e,q⟩:=ZcZ q
 cases o with
 |none=>cases e
 |some a=>cases e; exact⟨a,rfl,q⟩
theorem Zcr {c:Prop} [Decidable c] {α:Type} {a b:α} (h:(if c then some a else none)=some b):c∧a=b:=by
 by_cases hc:c
 ·rw[if_pos hc] at h; exact⟨hc,Option.some.inj h⟩
 ·rw[if_neg hc] at h; cases h
theorem Zer (hu:X.A.units+65 < cLine):OpR X (compareOp .NotIn) (fun x y H Q=>∃d ds,Dp X.K H x d∧Dp X.K H y (.tuple ds)∧SeqAt.shaped d=true∧SeqAt.shaped (.tuple ds)=true∧Q (.bl (!ds.any fun z=>PyData.eqv z d)) H):=by
 intro pins s σ H x y v u Q I rx ry h
 obtain⟨d,ds,hd,he,sd,se,q⟩:=h
 obtain⟨as,r1⟩:=Dp.reads I d x v hd rx
 obtain⟨bs,r2⟩:=Dp.reads I (.tuple ds) y u he ry
 exact SeqAt.notIn_tuple_reads r2 r1 (SeqAt.canLay_of_shaped se) (SeqAt.canLay_of_shaped sd) (room_in_shaped sd hu) ⟨.bl _,H,I,rfl,q⟩
theorem Zib (hu:X.A.units+65 < cLine):OpR X (compareOp .In) (fun x y H Q=>∃d ds,Dp X.K H x d∧Dp X.K H y (.tuple ds)∧SeqAt.shaped d=true∧SeqAt.shaped (.tuple ds)=true∧Q (.bl (ds.any fun z=>PyData.eqv z d)) H):=by
 intro pins s σ H x y v u Q I rx ry h
 obtain⟨d,ds,hd,he,sd,se,q⟩:=h
 obtain⟨as,r1⟩:=Dp.reads I d x v hd rx
 obtain⟨bs,r2⟩:=Dp.reads I (.tuple ds) y u he ry
 exact SeqAt.in_tuple_reads r2 r1 (SeqAt.canLay_of_shaped se) (SeqAt.canLay_of_shaped sd) (room_in_shaped sd hu) ⟨.bl _,H,I,rfl,q⟩
theorem Zpm {n:Nat} {l:List D} (h:dpts n l=true):dpt (n+1) (.tup l)=true:=by unfold dpt; exact h
theorem Zpn {n:Nat} {l:List D} (h:dpts n l=true):dpt (n+1) (.lst l)=true:=by unfold dpt; exact h
theorem Zel {w:Wd} {n:Nat} {d:D} {v:V} (h:dpt 61 d=true) (r:RV g w n d v):SeqAt.shaped (py d)=true:=by
 obtain⟨h1,h2⟩:=Ze5 61 d v h r
 unfold SeqAt.shaped
 rw[h1,ZaJ (show (py d).depth≤64 by omega)]
 rfl
theorem Zns {w:Wd} {n:Nat} {H:Hp} {l:List D} {v:V} (sub:∀a o,w.F a=some o→H a=some o) (hc:dpts 60 l=true) (r:RV g w n (.tup l) v):Dp g.K H v (.tuple (pys l))∧SeqAt.shaped (.tuple (pys l))=true:=by
 have ht:=Zpm hc
 have z:=ZcJ sub 61 _ v ht r
 have z2:=Zel ht r
 unfold py at z z2
 exact⟨z,z2⟩
theorem Znu {w:Wd} {n:Nat} {H:Hp} {l:List D} {v:V} (sub:∀a o,w.F a=some o→H a=some o) (hc:dpts 60 l=true) (r:RV g w n (.ktp l) v):Dp g.K H v (.tuple (pys l))∧SeqAt.shaped (.tuple (pys l))=true:=by
 obtain⟨a,xs,rfl,q,r⟩:=ZmV.mp r
 obtain⟨h1,h2⟩:=lays_of 60 l xs hc r
 refine⟨.tup (.inr q) (dps_of sub 60 l xs hc r),?_⟩
 unfold SeqAt.shaped
 have e1:(PyData.tuple (pys l)).canLay0=true:=by simp only[PyData.canLay0]; exact h1
 have e2:(PyData.tuple (pys l)).depth≤64:=by simp only[PyData.depth]; omega
 rw[e1,ZaJ e2]
 rfl
theorem Znt {w:Wd} {n:Nat} {H:Hp} {l:List D} {v:V} (sub:∀a o,w.F a=some o→H a=some o) (hc:dpts 60 l=true) (r:RV g w n (.lst l) v):Dp g.K H v (.list (pys l))∧SeqAt.shaped (.list (pys l))=true:=by
 have ht:=Zpn hc
 have z:=ZcJ sub 61 _ v ht r
 have z2:=Zel ht r
 unfold py at z z2
 exact⟨z,z2⟩
def rC (g:Gi) (o:CmpOp):R2:=fun x y H Q=>∃w h d e b,RR g w h H∧RV g w h.nx d x∧RV g w h.nx e y∧ZcB o d e=some b∧Q (.bl b) H
theorem Zm0 (G:GX g c k X) (o:CmpOp):OpR X (compareOp o) (rC g o):=by
 refine OpR.cas fun x y H Q ⟨w,h,d,e,b,rr,rd,re,hb,q⟩=>?_
 have hK:=G.K
 have hu:X.A.units+65 < cLine:=by have:=G.un; omega
 unfold ZcB at hb
 split at hb
 ·obtain⟨hc,rfl⟩:=Zcr hb
  rw[Zaa] at hc
  rw[Zin 60 d e hc.1 ⟨_,hc.2⟩] at q
  exact⟨_,op_eqD (by omega),_,_,by rw[hK]; exact ZcJ rr.sub 60 d x hc.1 rd,by rw[hK]; exact ZcJ rr.sub 60 e y hc.2 re,ZbC hc.1 rd,ZbC hc.2 re,q⟩
 ·obtain⟨hc,rfl⟩:=Zcr hb
  rw[Zaa] at hc
  rw[Zin 60 d e hc.1 ⟨_,hc.2⟩] at q
  exact⟨_,op_neD (by omega),_,_,by rw[hK]; exact ZcJ rr.sub 60 d x hc.1 rd,by rw[hK]; exact ZcJ rr.sub 60 e y hc.2 re,ZbC hc.1 rd,ZbC hc.2 re,q⟩
 ·split at hb
  ·rw[Za7] at rd re; subst rd re; cases hb
   exact⟨_,op_lt,_,_,rfl,rfl,q⟩
  ·obtain⟨hc,rfl⟩:=Zcr hb
   simp only[Zaa] at hc
   rw[ZhY hc.2] at q
   refine⟨_,ZoB (by omega),_,_,by rw[hK]; exact ZcJ rr.sub 60 d x hc.1.1 rd,by rw[hK]; exact ZcJ rr.sub 60 e y hc.1.2 re,ZcI d e hc.2,ZlX hc.2,ZaI (Ze5 60 d x hc.1.1 rd).2 (by decide),q⟩
 ·split at hb
  ·rw[Za7] at rd re; subst rd re; cases hb
   exact⟨_,op_le,_,_,rfl,rfl,q⟩
  ·cases hb
 ·split at hb
  ·rw[Za7] at rd re; subst rd re; cases hb
   exact⟨_,op_gt,_,_,rfl,rfl,q⟩
  ·cases hb
 ·split at hb
  ·rw[Za7] at rd re; subst rd re; cases hb
   exact⟨_,op_ge,_,_,rfl,rfl,q⟩
  ·cases hb
 ·split at hb
  ·rw[Za1] at rd re
   obtain⟨rfl,_⟩:=rd
   obtain⟨rfl,_⟩:=re
   cases hb
   exact⟨_,op_in_sign,_,_,rfl,rfl,q⟩
  ·skip
   obtain⟨hc,rfl⟩:=Zcr hb
   rw[Zaa] at hc
   obtain⟨hp,hs⟩:=Zns rr.sub hc.2 re
   rw[← hK] at hp
   exact⟨_,Zib hu,_,_,by rw[hK]; exact ZcJ rr.sub 60 d x hc.1 rd,hp,ZbC hc.1 rd,hs,by rw[Zdn ⟨_,hc.1⟩ hc.2]; exact q⟩
  ·skip
   obtain⟨hc,rfl⟩:=Zcr hb
   rw[Zaa] at hc
   obtain⟨hp,hs⟩:=Znt rr.sub hc.2 re
   rw[← hK] at hp
   exact⟨_,op_inD hu,_,_,by rw[hK]; exact ZcJ rr.sub 60 d x hc.1 rd,hp,ZbC hc.1 rd,hs,by rw[Zdn ⟨_,hc.1⟩ hc.2]; exact q⟩
  ·skip
   obtain⟨hc,rfl⟩:=Zcr hb
   rw[Zaa] at hc
   obtain⟨hp,hs⟩:=Znu rr.sub hc.2 re
   rw[← hK] at hp
   exact⟨_,Zib hu,_,_,by rw[hK]; exact ZcJ rr.sub 60 d x hc.1 rd,hp,ZbC hc.1 rd,hs,by rw[Zdn ⟨_,hc.1⟩ hc.2]; exact q⟩
  ·cases hb
 ·split at hb
  ·rw[Za1] at rd re
   obtain⟨rfl,_⟩:=rd
   obtain⟨rfl,_⟩:=re
   cases hb
   exact⟨_,op_notIn_sign,_,_,rfl,rfl,q⟩
  ·skip
   obtain⟨hc,rfl⟩:=Zcr hb
   rw[Zaa] at hc
   obtain⟨hp,hs⟩:=Zns rr.sub hc.2 re
   rw[← hK] at hp
   exact⟨_,Zer hu,_,_,by rw[hK]; exact ZcJ rr.sub 60 d x hc.1 rd,hp,ZbC hc.1 rd,hs,by rw[Zdn ⟨_,hc.1⟩ hc.2]; exact q⟩
  ·skip
   obtain⟨hc,rfl⟩:=Zcr hb
   rw[Zaa] at hc
   obtain⟨hp,hs⟩:=Znt rr.sub hc.2 re
   rw[← hK] at hp
   exact⟨_,op_notInD hu,_,_,by rw[hK]; exact ZcJ rr.sub 60 d x hc.1 rd,hp,ZbC hc.1 rd,hs,by rw[Zdn ⟨_,hc.1⟩ hc.2]; exact q⟩
  ·skip
   obtain⟨hc,rfl⟩:=Zcr hb
   rw[Zaa] at hc
   obtain⟨hp,hs⟩:=Znu rr.sub hc.2 re
   rw[← hK] at hp
   exact⟨_,Zer hu,_,_,by rw[hK]; exact ZcJ rr.sub 60 d x hc.1 rd,hp,ZbC hc.1 rd,hs,by rw[Zdn ⟨_,hc.1⟩ hc.2]; exact q⟩
  ·cases hb
 ·cases hb
/-! ### subscripts -/
theorem Zk2 {w:Wd} {n:Nat} {l:List D} {xs:List V} {i:Int} {d:D} (r:RVs g w n l xs) (h:atI l i=some d):∃v,atI xs i=some v∧RV g w n d v:=by
 unfold atI at *
 rw[r.length]
 cases e:ixN l.length i with
 |none=>rw[e] at h; cases h
 |some j=>
  rw[e] at h
  exact r.get h
theorem IxR.cas {r:R2} (h:∀x y H Q,r x y H Q→∃r',IxR X r'∧r' x y H Q):IxR X r:=fun value slice pins s σ H x y v u Q I rx ry q hs=>by
 obtain⟨r',o,q'⟩:=h x y H Q q
 exact o value slice pins s σ H x y v u Q I rx ry q' hs
theorem ZbF {w:Wd} {h:AH} {H:Hp} {m:Nat} {l:List D} (rr:RR g w h H) (hm:m < h.nx) (e:h.cell m=.lst l):∃xs,H (w.m m)=some (.lst xs)∧RVs g w h.nx l xs:=by
 have q:=rr.cell m hm
 rw[e] at q
 exact q.2
theorem ZjO {s:List Nat} {i:Nat} {c:Nat} (h:okS s=true) (e:s[i]? =some c):okS [c]=true:=by
 unfold okS at *
 have:=Zaj.mp h c (Zao e)
 simpa using this
theorem ix_ev (G:GX g c k X):IxR X (rO g E ZfI):=by
 refine IxR.cas fun x y H Q ⟨w,h,d,e,rr,rd,re,q⟩=>?_
 have hK:=G.K
 unfold ZfI at q
 split at q
 ·rw[Zbd] at rd; rw[Za7] at re; subst re
  obtain⟨a,xs,rfl,q1,r1⟩:=rd
  obtain⟨z,hz,q⟩:=ZcZ q
  obtain⟨v,hv,rv⟩:=Zk2 r1 hz
  exact⟨_,ix_list,_,_,_,_,rfl,rfl,SqL.of (rr.sub _ _ q1),hv,Zba q rr rv⟩
 ·rw[Zb5] at rd; rw[Za7] at re; subst re
  obtain⟨a,xs,rfl,q1,r1⟩:=rd
  obtain⟨z,hz,q⟩:=ZcZ q
  obtain⟨v,hv,rv⟩:=Zk2 r1 hz
  exact⟨_,ix_tup,_,_,_,_,rfl,rfl,.inl (.inl (rr.sub _ _ q1)),hv,Zba q rr rv⟩
 ·rw[Za1] at rd; rw[Za7] at re; subst re
  obtain⟨rfl,ks⟩:=rd
  obtain⟨hl,q⟩:=Zbx q
  obtain⟨z,hz,q⟩:=Zdc q
  refine⟨_,ix_str,_,_,z,rfl,rfl,by rw[Zbk,Zcy]; exact hl,hz,Zba q rr (Za1.mpr ⟨rfl,?_⟩)⟩
  unfold atI at hz
  obtain⟨j,_,hj⟩:=Za9.mp hz
  exact ZjO ks hj
 ·rename_i m i
  rw[Zb0] at rd; rw[Za7] at re; subst re
  obtain⟨rfl,hm⟩:=rd
  cases ec:h.cell m with
  |lst l=>
   rw[ec] at q
   obtain⟨xs,q1,r1⟩:=ZbF rr hm ec
   obtain⟨z,hz,q⟩:=ZcZ q
   obtain⟨v,hv,rv⟩:=Zk2 r1 hz
   exact⟨_,ix_list,_,_,_,_,rfl,rfl,SqL.of q1,hv,Zba q rr rv⟩
  |_=>rw[ec] at q; exact q.elim
 ·exact q.elim
/-! ### slices -/
def rS (g:Gi) (E:XK):V→Option Int→Option Int→Hp→VK→Prop:=fun x lo hi H Q=>∃w h d,RR g w h H∧RV g w h.nx d x∧Za4 g w h.nx (Zfo d lo hi h) E (PV g Q)
theorem SlR.cas {r:V→Option Int→Option Int→Hp→VK→Prop} (h:∀x lo hi H Q,r x lo hi H Q→∃r',SlR X r'∧r' x lo hi H Q):SlR X r:=fun pins s σ H x v vl vu lo hi sl Q I rx a b cc q=>by
 obtain⟨r',o,q'⟩:=h x lo hi H Q q
 exact o pins s σ H x v vl vu lo hi sl Q I rx a b cc q'
theorem Zpr (s:List Nat) (lo hi:Option Int):cutS (stt s) lo hi=stt (cut s lo hi):=by
 unfold cutS cut
 rw[Zbk]
theorem ZoD {s:List Nat} (h:okS s=true) (lo hi:Option Int):okS (cut s lo hi)=true:=by
 unfold okS at *
 rw[Zaj] at *
 exact fun x hx=>h x (List.mem_of_mem_drop (Zcp hx))
theorem ZhI (w:Wd) (n:Nat):∀l:List Int,RVs g w n (l.map D.int) (l.map V.int)
 |[]=>RVs.nil
 |i::l=>RVs.mk (Za7.mpr rfl) (ZhI w n l)
theorem Zps {α β:Type} (f:α→β) (l:List α) (lo hi:Option Int):cut (l.map f) lo hi=(cut l lo hi).map f:=by
 unfold cut
 rw[Zac,List.map_take,Zi1]
theorem Zmv (xs:List V) (lo hi:Option Int):cutV xs lo hi=cut xs lo hi:=rfl
theorem ZkI {α:Type} {l:List α} {lo hi:Option Int} (h:HT.sIx l.length 0 lo=0∧HT.sIx l.length l.length hi=l.length):cut l lo hi=l:=by
 unfold cut
 rw[h.1,h.2,List.drop_zero,Nat.sub_zero,ZeH]
theorem sl_ev (G:GX g c k X):SlR X (rS g E):=by
 refine SlR.cas fun x lo hi H Q ⟨w,h,d,rr,rd,q⟩=>?_
 have hK:=G.K
 unfold Zfo at q
 split at q
 ·rw[Za1] at rd
  obtain⟨rfl,ks⟩:=rd
  obtain⟨hl,q⟩:=Zbx q
  exact⟨_,sl_str,_,rfl,by rw[Zbk,Zcy]; exact hl,by rw[Zpr]; exact Zba q rr (Za1.mpr ⟨rfl,ZoD ks _ _⟩)⟩
 ·rw[Zbd] at rd
  obtain⟨a,xs,rfl,q1,r1⟩:=rd
  exact⟨_,sl_list,_,_,rfl,SqL.of (rr.sub _ _ q1),fun p hp=>Zcd q rr hp (Zbd.mpr ⟨p,_,rfl,upd_same,(r1.cut lo hi).ext (rr.freeze hp).2⟩)⟩
 ·rw[Zb5] at rd
  obtain⟨a,xs,rfl,q1,r1⟩:=rd
  refine⟨_,sl_tupA,_,_,rfl,.inl (.inl (rr.sub _ _ q1)),fun e=>?_,fun _ p hp=>?_⟩
  ·rw[r1.length] at e
   rw[ZkI e] at q
   exact Zba q rr (Zb5.mpr ⟨_,_,rfl,q1,r1⟩)
  ·exact Zcd q rr hp (Zb5.mpr ⟨p,_,rfl,upd_same,(r1.cut lo hi).ext (rr.freeze hp).2⟩)
 ·rename_i l
  rw[ZmU] at rd
  obtain⟨a,rfl,q1⟩:=rd
  refine⟨_,sl_list,_,_,rfl,by rw[hK]; exact SqL.ext rr.sub q1,fun p hp=>Zcd q rr hp (Zbd.mpr ⟨p,_,rfl,upd_same,?_⟩)⟩
  rw[Zmv,Zps]
  exact ZhI _ _ _
 ·rename_i m
  rw[Zb0] at rd
  obtain⟨rfl,hm⟩:=rd
  cases ec:h.cell m with
  |lst l=>
   rw[ec] at q
   obtain⟨xs,q1,r1⟩:=ZbF rr hm ec
   exact⟨_,sl_list,_,_,rfl,SqL.of q1,fun p hp=>Zcd q rr hp (Zbd.mpr ⟨p,_,rfl,upd_same,(r1.cut lo hi).ext (rr.freeze hp).2⟩)⟩
  |_=>rw[ec] at q; exact q.elim
 ·exact q.elim
end
end Rk
/-! Rk.So:strings sorted. -/
namespace Rk
open PySem PySem.Spec PyProof.Rows L2 SrtO
theorem ZdS:Swo ltS:=by
 refine⟨fun x y h=>?_,fun x y z h1 h2=>?_⟩
 ·unfold ltS at h⊢
  exact ZaO (fun z=>List.lt_asymm (ZaC h) z)
 ·unfold ltS at h1 h2⊢
  have a:=of_decide_eq_false h1
  have b:=of_decide_eq_false h2
  exact ZaO (List.not_lt.mpr (List.le_trans (List.not_lt.mp a) (List.not_lt.mp b)))
section
variable {prog:Program} {w:World} {A:Around} {E:Value→Shared→Prop} {s:Shared}
theorem Zob {vs:List Value} (hp:∀v∈vs,∃x t,v=.str x t):Cmp prog w A s oneType' (fun p=>p.1∈vs) (lt2 fun v u=>ltS (strOf v) (strOf u)):=by
 intro p q hm hm'
 obtain⟨x,t,e1⟩:=hp _ hm
 obtain⟨y,u,e2⟩:=hp _ hm'
 show wpAny (model prog w) A (keyLt' oneType' p.1 q.1) (fun r s'=>s'=s∧r=ltS (strOf p.1) (strOf q.1)) (fun _ _=>False) s
 rw[e1,e2,keyLt'_oneType]
 exact oneLt_str ⟨rfl,rfl⟩
theorem Zf6 {a:Addr} {vs:List Value} (h0:2≤vs.length) (hp:∀v∈vs,∃x t,v=.str x t):SortableO prog w A s a vs fun v u=>ltS (strOf v) (strOf u):=by
 intro h' keep
 refine⟨oneType',fun Q E hq=>?_,Zob hp⟩
 match vs,h0,hp with
 |v1::v2::r,_,hp=>
  rw[keyKind_strs (strsAre_map _ hp)]
  exact wpAny_pure hq
theorem swo_of {α β:Type} {lt:β→β→Bool} (O:Swo lt) (f:α→β):Swo fun x y=>lt (f x) (f y):=⟨fun x y h=>O.1 _ _ h,fun x y z h1 h2=>O.2 _ _ _ h1 h2⟩
theorem ZgS {l:Addr} {vs:List Value} {Q:Value→Shared→Prop} (hl:s.heap.IsList l vs.toArray) (hz:vs.length≤sizeLine) (hp:∀v∈vs,∃x t,v=.str x t)
  (h:∀(h':Heap) (d:Addr) (out:List Value),Srtd (fun v u=>ltS (strOf v) (strOf u)) out→Stb (fun v u=>ltS (strOf v) (strOf u)) out vs→(∀b o,s.heap.get? b=some o→h'.get? b=some o)→s.heap.objs.size≤d→(∃n,h'.get? d=some (seqObj "list" out.toArray n))→Q (.ref d) {s with heap:=h'}):
  wpAny (model prog w) A (call (.builtin "sorted") [.ref l]) Q E s:=
 sorted_ord (swo_of ZdS strOf) hl hz (fun h2 h₁ a ha kk=>Zf6 (s:={s with heap:=h₁}) h2 hp) fun out hs hb=>h _ _ out hs hb (fun b o e=>sortedAll_old e) (ZbE _) (sortedAll_at s.heap vs out.toArray)
end
def ZlE (K:PySem.W.Frag):List V→Hp→VK→Prop:=fun vs H Q=>∃(a:Addr) (ss:List Str),vs=[V.ref a]∧SqL K H a (ss.map V.str)∧∀ys p,Srtd ltS ys→Stb ltS ys ss→H p=none→Q (.ref p) (upd H p (.lst (ys.map V.str)))
theorem Zf2:∀{ss:List Str} {us:List Value},Vals (ss.map V.str) us→(∀u∈us,∃x t,u=Value.str x t)∧us.map strOf=ss
 |[],us,h=>by cases h; exact⟨fun _ z=>absurd z (by simp),rfl⟩
 |x::ss,us,h=>by
  cases h with
  |cons r rs=>
   obtain⟨t,rfl⟩:=r
   obtain⟨h1,h2⟩:=Zf2 rs
   refine⟨fun u hu=>?_,by rw[Zap,h2]; rfl⟩
   rcases Zak.mp hu with rfl |hu
   ·exact⟨x,t,rfl⟩
   ·exact h1 u hu
theorem Zf5:∀{us:List Value},(∀u∈us,∃x t,u=Value.str x t)→Vals ((us.map strOf).map V.str) us
 |[],_=>.nil
 |u::us,h=>by
  obtain⟨x,t,rfl⟩:=h u Zag
  exact .cons ⟨t,rfl⟩ (Zf5 fun v hv=>h v (Zaf _ hv))
theorem ZiW {X:Cx}:CallR X (.builtin "sorted") (ZlE X.K):=by
 intro pins s σ H vs us Q I r h
 obtain⟨a,ss,rfl,hs,q⟩:=h
 obtain⟨its,rv,hl,hz⟩:=I.list hs
 obtain⟨u,rfl,ru⟩:=vals1 r
 obtain rfl:u=Value.ref a:=ru
 obtain⟨e2,e1⟩:=Zf2 rv
 refine ZgS hl.isList (by rw[← rv.length]; exact hz) e2 fun h' d out h1 h2 kp hd hn=>?_
 have h3:∀u∈out,∃x t,u=Value.str x t:=fun u hu=>e2 u (h2.perm.mem_iff.mp hu)
 obtain⟨n,hn⟩:=hn
 have hb:Stb ltS (out.map strOf) ss:=by
  rw[← e1]
  exact Stb.map ZdS strOf h2
 refine⟨.ref d,upd H d (.lst ((out.map strOf).map V.str)),I.laid (t':=s.toks) kp hd ⟨?_,out,n,Zf5 h3,hn⟩,rfl,q _ d (srtd_map h1) hb (I.hok.fresh hd)⟩
 rw[Zac,hb.len]
 have:=rv.length
 rw[Zac] at this
 rw[← Zac (f:=V.str)]
 exact hz
/-! ### .. by insertion -/
theorem ZfF {x:Str}:∀{l:List Str},(Zl4 x l).Perm (x::l)
 |[]=>.refl _
 |y::r=>by
  unfold Zl4
  split
  ·exact ((ZfF (l:=r)).cons y).trans (List.Perm.swap x y r)
  ·exact .refl _
theorem Zki {x z:Str}:∀{l:List Str},(Zl4 x l).filter (eqv ltS z)=(x::l).filter (eqv ltS z)
 |[]=>rfl
 |y::r=>by
  unfold Zl4
  split
  ·rename_i hlt
   rw[Zbu,Zki (l:=r),Zbu,Zbu,Zbu]
   by_cases hx:eqv ltS z x=true
   ·by_cases hy:eqv ltS z y=true
    ·have a:=eqv_iff.mp hx
     have b:=eqv_iff.mp hy
     have c:=ZdS.2 x z y a.1 b.2
     rw[hlt] at c; cases c
    ·simp[hx,hy]
   ·simp[hx]
  ·rfl
theorem Zh7 {x:Str}:∀{l:List Str},Srtd ltS l→Srtd ltS (Zl4 x l)
 |[],_=>ZeC _ _
 |y::r,h=>by
  obtain⟨h1,h2⟩:=ZbD.mp h
  unfold Zl4
  split
  ·rename_i hlt
   refine ZbD.mpr ⟨fun z hz=>?_,Zh7 h2⟩
   rcases Zak.mp (ZfF.mem_iff.mp hz) with rfl |hz
   ·exact ZdS.1 _ _ hlt
   ·exact h1 z hz
  ·rename_i hnl
   have hyx:ltS y x=false:=by simpa using hnl
   refine ZbD.mpr ⟨fun z hz=>?_,h⟩
   rcases Zak.mp hz with rfl |hz
   ·exact hyx
   ·exact ZdS.2 _ _ _ hyx (h1 z hz)
theorem ZeY:∀l:List Str,Srtd ltS (ZiA l)
 |[]=>List.Pairwise.nil
 |x::r=>Zh7 (ZeY r)
theorem Zej:∀l:List Str,Stb ltS (ZiA l) l
 |[]=>Stb.refl _
 |x::r=>by
  have ih:=Zej r
  refine⟨ZfF.trans (ih.perm.cons x),fun z=>?_⟩
  show (Zl4 x (ZiA r)).filter _=_
  rw[Zki,Zbu,Zbu,ih.cls]
theorem Zlx {out l:List Str} (h1:Srtd ltS out) (h2:Stb ltS out l):out=ZiA l:=
 stb_uniq ZdS h1 (ZeY l) (h2.trans ⟨(Zej l).perm.symm,fun z=>((Zej l).cls z).symm⟩)
end Rk
/-! Rk.E:built-ins,ZbM,repr. -/
namespace Rk
open PySem PySem.Spec PyProof.Rows L2
section
variable {X:Cx} {g:Gi} {c:Bool} {k:Nat} {E:XK}
theorem CallR.cas {f:Value} {r:List V→Hp→VK→Prop} (h:∀xs H Q,r xs H Q→∃r',CallR X f r'∧r' xs H Q):CallR X f r:=fun pins s σ H xs us Q I rx q=>by
 obtain⟨r',o,q'⟩:=h xs H Q q
 exact o pins s σ H xs us Q I rx q'
theorem MtR.cas {id:String} {r:V→List V→Hp→VK→Prop} (h:∀x xs H Q,r x xs H Q→∃r',MtR X id r'∧r' x xs H Q):MtR X id r:=fun pins s σ H x xs v us Q I rx rs q=>by
 obtain⟨r',o,q'⟩:=h x xs H Q q
 exact o pins s σ H x xs v us Q I rx rs q'
def rB (g:Gi) (E:XK) (b:Bi):List V→Hp→VK→Prop:=fun xs H Q=>∃w h d x,RR g w h H∧RV g w h.nx d x∧xs=[x]∧Za4 g w h.nx (ZeT b d h) E (PV g Q)
def Zhp:Bi→Str
 | .sum=>"sum" | .max=>"max" | .len=>"len" | .all=>"all" | .any=>"any" | .tuple=>"tuple" | .list=>"list" | .int=>"int" | .str=>"str" | .abs=>"abs" | .sorted=>"sorted"
def bval:Bi→Value
 | .sum=>.builtin "sum" | .max=>.builtin "max" | .len=>.builtin "len" | .all=>.builtin "all" | .any=>.builtin "any" | .tuple=>.type "tuple" | .list=>.type "list" | .int=>.type "int" | .str=>.type "str" | .abs=>.builtin "abs" | .sorted=>.builtin "sorted"
theorem ZkT {w:Wd} {n:Nat}:∀{l:List D} {bs:List Bool} {xs:List V},bls l=some bs→RVs g w n l xs→xs=bs.map V.bl
 |[],bs,xs,h,r=>by cases h; exact Zbo.mp r
 |d::l,bs,xs,h,r=>by
  obtain⟨x,ys,rfl,h1,h2⟩:=ZaQ.mp r
  cases d with
  |bl b=>
   have h:(bls l).map (b:: ·)=some bs:=h
   obtain⟨cs,e,rfl⟩:=Zan.mp h
   rw[Zde.mp h1,ZkT e h2]
   rfl
  |_=>cases h
theorem Zhe {w:Wd} {n:Nat}:∀{l:List D} {bs:List Int} {xs:List V},intL l=some bs→RVs g w n l xs→xs=bs.map V.int
 |[],bs,xs,h,r=>by cases h; exact Zbo.mp r
 |d::l,bs,xs,h,r=>by
  obtain⟨x,ys,rfl,h1,h2⟩:=ZaQ.mp r
  cases d with
  |int b=>
   have h:(intL l).map (b:: ·)=some bs:=h
   obtain⟨cs,e,rfl⟩:=Zan.mp h
   rw[Za7.mp h1,Zhe e h2]
   rfl
  |_=>cases h
theorem Zfx:∀(r:List Int) (n:Int),ZoN n r∈n::r∧∀y∈n::r,y≤ZoN n r
 |[],n=>⟨Zag,fun y hy=>by rw[Zar.mp hy]; exact Int.le_refl _⟩
 |m::r,n=>by
  unfold ZoN
  by_cases h:n < m
  ·rw[if_pos h]
   obtain⟨h1,h2⟩:=Zfx r m
   refine⟨Zaf _ h1,fun y hy=>?_⟩
   rcases Zak.mp hy with rfl |hy
   ·exact Int.le_trans (Int.le_of_lt h) (h2 m Zag)
   ·exact h2 y hy
  ·rw[if_neg h]
   obtain⟨h1,h2⟩:=Zfx r n
   refine⟨?_,fun y hy=>?_⟩
   ·rcases Zak.mp h1 with z |z
    ·rw[z]; exact Zag
    ·exact Zaf _ (Zaf _ z)
   ·rcases Zak.mp hy with rfl |hy
    ·exact h2 y Zag
    ·rcases Zak.mp hy with rfl |hy
     ·exact Int.le_trans (Int.not_lt.mp h) (h2 n Zag)
     ·exact h2 y (Zaf _ hy)
theorem Zfk {w:Wd} {n:Nat}:∀{l:List D} {ys:List (List Nat)} {xs:List V},Zi5 l=some ys→RVs g w n l xs→xs=(ys.map stt).map V.str∧∀y∈ys,okS y=true
 |[],ys,xs,h,r=>by cases h; exact⟨Zbo.mp r,fun _ h=>nomatch h⟩
 |d::l,ys,xs,h,r=>by
  obtain⟨x,zs,rfl,h1,h2⟩:=ZaQ.mp r
  cases d with
  |str s=>
   have h:(Zi5 l).map (s:: ·)=some ys:=h
   obtain⟨cs,e,rfl⟩:=Zan.mp h
   obtain⟨e1,o1⟩:=Za1.mp h1
   obtain⟨e2,o2⟩:=Zfk e h2
   rw[e1,e2]
   exact⟨rfl,fun y hy=>by
    rcases Zak.mp hy with rfl |hy
    ·exact o1
    ·exact o2 y hy⟩
  |_=>cases h
theorem SqR.tl {w:Wd} {h:AH} {H:Hp} {a:Addr} {xs:List V} (rr:RR g w h H) (e:w.F a=some (.lst xs)):SqL X.K H a xs:=SqL.of (rr.sub _ _ e)
theorem ZjS (n:Nat):okS (TL.numL n)=true:=by
 unfold TL.numL okS
 rw[List.all_map,Zaj]
 intro c hc
 have hd:=Nat.isDigit_of_mem_toDigits (b:=10) (by decide) (by decide) hc
 unfold Char.isDigit at hd
 simp only[Zaa,Zab] at hd
 refine ZaJ ?_
 have h2:c.val≤57:=hd.2
 have:c.toNat≤57:=h2
 show c.toNat < 1114112
 omega
theorem ZjA {w:Wd} {n:Nat}:∀{l:List Str},(∀s∈l,okS s.cps.toList=true)→RVs g w n (l.map fun s=>D.str s.cps.toList) (l.map V.str)
 |[],_=>RVs.nil
 |s::l,h=>RVs.mk (Za1.mpr ⟨by show V.str s=V.str ⟨s.cps.toList.toArray⟩; rw[Array.toArray_toList],h s Zag⟩) (ZjA fun t ht=>h t (Zaf _ ht))
theorem Zgh {w:Wd} {n:Nat}:∀{l:List Nat},okS l=true→RVs g w n (l.map fun c=>D.str [c]) (l.map fun c=>V.str ⟨#[c]⟩)
 |[],_=>RVs.nil
 |c::l,h=>by
  have h':(decide (c < 1114112)&&l.all fun c=>decide (c < 1114112))=true:=h
  rw[Zaa] at h'
  refine RVs.mk (Za1.mpr ⟨rfl,?_⟩) (Zgh h'.2)
  show (decide (c < 1114112)&&true)=true
  rw[h'.1]; rfl
theorem ZeX:∀(l:List Nat) (us:List Value),us.length=l.length→(∀(j:Nat) (v:Value),us[j]? =some v→∃(c:Nat) (u:Tok),l[j]? =some c∧v=Value.str ⟨#[c]⟩ u)→Vals (l.map fun c=>V.str ⟨#[c]⟩) us
 |[],[],_,_=>.nil
 |[],_::_,h,_=>by simp at h
 |_::_,[],h,_=>by simp at h
 |c::l,u::us,h,k=>by
  obtain⟨c',t,e,rfl⟩:=k 0 u rfl
  have e:c=c':=by simpa using e
  subst e
  exact .cons ⟨t,rfl⟩ (ZeX l us (by simpa using h) fun j v hv=>k (j+1) v (by simpa using hv))
theorem ZiX (hcalm:X.calm=true):CallR X (.type "list") (fun xs H Q=>∃x:Str,xs=[.str x]∧x.length≤sizeLine∧∀p,H p=none→Q (.ref p) (upd H p (.lst (x.cps.toList.map fun c=>V.str ⟨#[c]⟩)))):=by
 intro pins s σ H xs us Q I r ⟨x,ex,hl,q⟩
 subst ex
 obtain⟨u,rfl,rx⟩:=vals1 r
 obtain⟨t,rfl⟩:=rx
 refine call_list_str (I.ok.hd hcalm) x t (fun h' tk acc' c' hk hS hacc=>?_) hl
 have hsz:acc'.toList.length=x.cps.toList.length:=by rw[Array.length_toList,Array.length_toList]; exact hacc.1
 refine⟨.ref s.heap.objs.size,upd H s.heap.objs.size (.lst (x.cps.toList.map fun c=>V.str ⟨#[c]⟩)),I.laid (t':=tk) hk (Zai _) ⟨?_,acc'.toList,c',ZeX _ _ hsz fun j v hv=>?_,by rw[Array.toArray_toList]; exact hS⟩,rfl,q _ (I.hok.fresh (Zai _))⟩
 ·rw[Zac,Array.length_toList]; exact hl
 ·obtain⟨c,u,hc,e⟩:=hacc.2 j v (by rw[← Array.getElem?_toList]; exact hv)
  exact⟨c,u,by rw[Array.getElem?_toList]; exact hc,e⟩
theorem ZpD (G:GX g c k X) (hc:c=true) (b:Bi):CallR X (bval b) (rB g E b):=by
 cases b with
 |len=>
  refine CallR.cas fun xs H Q ⟨w,h,d,x,rr,rd,ex,q⟩=>?_
  subst ex
  have hK:=G.K
  simp only[ZeT] at q
  cases d with
  |str s=>
   obtain⟨rfl,ks⟩:=Za1.mp rd
   obtain⟨hl,q⟩:=Zbx q
   refine⟨_,call_len_str,_,rfl,by rw[Zbk,Zcy]; exact hl,?_⟩
   rw[Zbk]
   exact Zba q rr (Za7.mpr rfl)
  |lst l=>
   obtain⟨a,xs,rfl,q1,r1⟩:=Zbd.mp rd
   refine⟨_,call_len_seq,_,_,rfl,.inl (SqL.of (rr.sub _ _ q1)),?_⟩
   rw[r1.length]
   exact Zba q rr (Za7.mpr rfl)
  |tup l=>
   obtain⟨a,xs,rfl,q1,r1⟩:=ZcE rd
   refine⟨_,call_len_seq,_,_,rfl,.inr (by rw[hK]; exact SqT.ext rr.sub q1),?_⟩
   rw[r1.length]
   exact Zba q rr (Za7.mpr rfl)
  |ref m=>
   obtain⟨rfl,hm⟩:=Zb0.mp rd
   cases ec:h.cell m with
   |lst l=>
    simp only[ec] at q
    obtain⟨xs,q1,r1⟩:=ZbF rr hm ec
    refine⟨_,call_len_seq,_,_,rfl,.inl (SqL.of q1),?_⟩
    rw[r1.length]
    exact Zba q rr (Za7.mpr rfl)
   |_=>simp only[ec] at q; exact q.elim
  |_=>exact q.elim
 |sum=>
  refine CallR.cas fun xs H Q ⟨w,h,d,x,rr,rd,ex,q⟩=>?_
  subst ex
  simp only[ZeT] at q
  cases d with
  |lst l=>
   obtain⟨a,xs,rfl,q1,r1⟩:=Zbd.mp rd
   obtain⟨bs,e,q⟩:=Zdc q
   have ex:=Zhe e r1
   subst ex
   exact⟨_,cr_sum (G.calm hc),_,_,rfl,SqL.of (rr.sub _ _ q1),Zba q rr (Za7.mpr rfl)⟩
  |_=>exact q.elim
 |max=>
  refine CallR.cas fun xs H Q ⟨w,h,d,x,rr,rd,ex,q⟩=>?_
  subst ex
  simp only[ZeT] at q
  cases d with
  |lst l=>
   obtain⟨a,xs,rfl,q1,r1⟩:=Zbd.mp rd
   cases e:intL l with
   |none=>simp only[e] at q; exact q.elim
   |some ns=>
    cases ns with
    |nil=>simp only[e] at q; exact q.elim
    |cons n r=>
     simp only[e] at q
     have ex:=Zhe e r1
     subst ex
     refine⟨_,cr_max (G.calm hc),_,n::r,rfl,SqL.of (rr.sub _ _ q1),Nat.zero_lt_succ _,fun m hm hy=>?_⟩
     obtain⟨t1,t2⟩:=Zfx r n
     have em:m=ZoN n r:=Int.le_antisymm (t2 m hm) (hy _ t1)
     rw[em]
     exact Zba q rr (Za7.mpr rfl)
  |_=>exact q.elim
 |all=>
  refine CallR.cas fun xs H Q ⟨w,h,d,x,rr,rd,ex,q⟩=>?_
  subst ex
  simp only[ZeT] at q
  cases d with
  |lst l=>
   obtain⟨a,xs,rfl,q1,r1⟩:=Zbd.mp rd
   obtain⟨bs,e,q⟩:=Zdc q
   have ex:=ZkT e r1
   subst ex
   exact⟨_,cr_all (G.calm hc),_,_,rfl,SqL.of (rr.sub _ _ q1),Zba q rr (Zde.mpr rfl)⟩
  |_=>exact q.elim
 |any=>
  refine CallR.cas fun xs H Q ⟨w,h,d,x,rr,rd,ex,q⟩=>?_
  subst ex
  simp only[ZeT] at q
  cases d with
  |lst l=>
   obtain⟨a,xs,rfl,q1,r1⟩:=Zbd.mp rd
   obtain⟨bs,e,q⟩:=Zdc q
   have ex:=ZkT e r1
   subst ex
   exact⟨_,cr_any (G.calm hc),_,_,rfl,SqL.of (rr.sub _ _ q1),Zba q rr (Zde.mpr rfl)⟩
  |_=>exact q.elim
 |tuple=>
  refine CallR.cas fun xs H Q ⟨w,h,d,x,rr,rd,ex,q⟩=>?_
  subst ex
  have hK:=G.K
  simp only[ZeT] at q
  cases d with
  |lst l=>
   obtain⟨a,xs,rfl,q1,r1⟩:=Zbd.mp rd
   exact⟨_,call_tuple_of,_,_,rfl,.inl ⟨SqL.of (rr.sub _ _ q1),fun p hp=>Zcd q rr hp (Zb5.mpr ⟨p,_,rfl,upd_same,r1.ext (rr.freeze hp).2⟩)⟩⟩
  |tup l=>
   obtain⟨a,xs,rfl,q1,r1⟩:=ZcE rd
   exact⟨_,call_tupleT,_,_,rfl,by rw[hK]; exact SqT.ext rr.sub q1,Zba q rr rd⟩
  |_=>exact q.elim
 |list=>
  refine CallR.cas fun xs H Q ⟨w,h,d,x,rr,rd,ex,q⟩=>?_
  subst ex
  have hK:=G.K
  simp only[ZeT] at q
  cases d with
  |lst l=>
   obtain⟨a,xs,rfl,q1,r1⟩:=Zbd.mp rd
   exact⟨_,call_list_of,_,_,rfl,.inl (SqL.of (rr.sub _ _ q1)),fun p hp=>Zcd q rr hp (Zbd.mpr ⟨p,_,rfl,upd_same,r1.ext (rr.freeze hp).2⟩)⟩
  |tup l=>
   obtain⟨a,xs,rfl,q1,r1⟩:=ZcE rd
   exact⟨_,call_list_of,_,_,rfl,.inr (by rw[hK]; exact SqT.ext rr.sub q1),fun p hp=>Zcd q rr hp (Zbd.mpr ⟨p,_,rfl,upd_same,r1.ext (rr.freeze hp).2⟩)⟩
  |ref m=>
   obtain⟨rfl,hm⟩:=Zb0.mp rd
   cases ec:h.cell m with
   |lst l=>
    simp only[ec] at q
    obtain⟨xs,q1,r1⟩:=ZbF rr hm ec
    exact⟨_,call_list_of,_,_,rfl,.inl (SqL.of q1),fun p hp=>Zcd q rr hp (Zbd.mpr ⟨p,_,rfl,upd_same,r1.ext (rr.freeze hp).2⟩)⟩
   |_=>simp only[ec] at q; exact q.elim
  |str s=>
   obtain⟨rfl,ks⟩:=Za1.mp rd
   obtain⟨hl,q⟩:=Zbx q
   exact⟨_,ZiX (G.calm hc),stt s,rfl,by rw[Zbk,Zcy]; exact hl,fun p hp=>Zcd q rr hp (Zbd.mpr ⟨p,_,rfl,upd_same,Zgh ks⟩)⟩
  |_=>exact q.elim
 |int=>
  refine CallR.cas fun xs H Q ⟨w,h,d,x,rr,rd,ex,q⟩=>?_
  subst ex
  simp only[ZeT] at q
  cases d with
  |int i=>
   rw[Za7.mp rd]
   exact⟨_,call_int1,.inl ⟨_,rfl,Zba q rr (Za7.mpr rfl)⟩⟩
  |bl b=>
   rw[Zde.mp rd]
   exact⟨_,call_int1,.inr ⟨_,rfl,Zba q rr (Za7.mpr rfl)⟩⟩
  |str s=>
   obtain⟨rfl,_⟩:=Za1.mp rd
   obtain⟨⟨h1,h2,h3⟩,q⟩:=Zbx q
   refine⟨_,call_int_str,stt s,_,rfl,SX.int_S h1 (fun z=>by rw[z] at h2; cases h2) (by omega),by rw[Zbk]; exact h3,Zba q rr (Za7.mpr rfl)⟩
  |_=>exact q.elim
 |str=>
  refine CallR.cas fun xs H Q ⟨w,h,d,x,rr,rd,ex,q⟩=>?_
  subst ex
  simp only[ZeT] at q
  cases d with
  |str s=>
   obtain⟨rfl,ho⟩:=Za1.mp rd
   exact⟨_,SkE.call_str_str,_,rfl,Zba q rr (Za1.mpr ⟨rfl,ho⟩)⟩
  |int i=>
   rw[Za7.mp rd]
   obtain⟨⟨h1,h2⟩,q⟩:=Zbx q
   refine⟨_,call_str_int,i,rfl,?_,?_⟩
   ·by_cases h0:i.natAbs=0
    ·rw[h0]; decide
    ·refine (Nat.log2_lt h0).mpr (ZaT (show i.natAbs < 1000000000000 by omega) ?_)
     exact ZaI (show 1000000000000≤2 ^ 40 by decide) (Zco (by decide) (by decide))
   ·have e1:(toString i:String)=toString ((i.toNat:Nat):Int):=by rw[Zhu h1]
    have e2:Str.ofString (toString i)=stt (TL.numL i.toNat):=by rw[e1]; exact SX.num_S _
    show Q (.str (Str.ofString (toString i))) H
    rw[e2]
    exact Zba q rr (Za1.mpr ⟨rfl,ZjS _⟩)
  |_=>exact q.elim
 |sorted=>
  refine CallR.cas fun xs H Q ⟨w,h,d,x,rr,rd,ex,q⟩=>?_
  subst ex
  simp only[ZeT] at q
  cases d with
  |lst l=>
   obtain⟨a,xs,rfl,q1,r1⟩:=Zbd.mp rd
   cases es:Zi5 l with
   |none=>simp only[es] at q; exact q.elim
   |some ys=>
    simp only[es] at q
    obtain⟨e2,oy⟩:=Zfk es r1
    subst e2
    refine⟨_,ZiW,a,ys.map stt,rfl,SqL.of (rr.sub _ _ q1),fun zs p h1 h2 hp=>?_⟩
    have ez:=Zlx h1 h2
    subst ez
    refine Zcd q rr hp (Zbd.mpr ⟨p,_,rfl,upd_same,ZjA fun s hs=>?_⟩)
    obtain⟨y,hy,rfl⟩:=Zah.mp (h2.perm.mem_iff.mp hs)
    exact oy y hy
  |_=>exact q.elim
 |abs=>
  refine CallR.cas fun xs H Q ⟨w,h,d,x,rr,rd,ex,q⟩=>?_
  exact q.elim
/-! ### isinstance -/
/-! ### ZbM -/
theorem ZhA {w:Wd} {h:AH} {H:Hp} {d:D} {x:V} {b:Bool} {K:PySem.W.Frag} (hK:K=g.K) (rr:RR g w h H) (rv:RV g w h.nx d x) (ht:ZbM d=some b):TruV K x H b:=by
 cases d with
 |non=>rw[ZdY.mp rv]; cases ht; exact rfl
 |bl b=>rw[Zde.mp rv]; cases ht; exact rfl
 |int b=>rw[Za7.mp rv]; cases ht; exact rfl
 |str s=>
  obtain⟨rfl,_⟩:=Za1.mp rv
  obtain⟨hl,rfl⟩:=Zcr ht
  refine⟨by rw[Zbk,Zcy]; exact hl,?_⟩
  rw[Zbk]
  cases s<;>rfl
 |tup l=>
  obtain⟨a,xs,rfl,q1,r1⟩:=ZcE rv
  cases ht
  refine .inr (.inl ⟨xs,by rw[hK]; exact SqT.ext rr.sub q1,?_⟩)
  cases l with
  |nil=>rw[Zbo.mp r1]; rfl
  |cons d l=>obtain⟨y,ys,rfl,_,_⟩:=ZaQ.mp r1; rfl
 |lst l=>
  obtain⟨a,xs,rfl,q1,r1⟩:=Zbd.mp rv
  cases ht
  refine .inl ⟨xs,SqL.of (rr.sub _ _ q1),?_⟩
  cases l with
  |nil=>rw[Zbo.mp r1]; rfl
  |cons d l=>obtain⟨y,ys,rfl,_,_⟩:=ZaQ.mp r1; rfl
 |_=>cases ht
/-! ### join -/
theorem Zjk (ys:List (List Nat)):((ys.map stt).map (·.length)).sum=Zn9 ys:=by
 induction ys with
 |nil=>rfl
 |cons y ys ih=>
  rw[Zap,Zap,List.sum_cons,ih,Zbk]
  rfl
theorem Zfv {s:List Nat} (hs:okS s=true):∀{ys:List (List Nat)},(∀y∈ys,okS y=true)→okS (TL.joinL s ys)=true
 |[],_=>rfl
 |[y],h=>h y Zag
 |y::z::r,h=>by
  show okS (y++(s++TL.joinL s (z::r)))=true
  exact Zdo (h y Zag) (Zdo hs (Zfv hs fun x hx=>h x (Zaf _ hx)))
def rM (g:Gi) (E:XK) (m:Mt):V→List V→Hp→VK→Prop:=fun x xs H Q=>∃w h d e y,RR g w h H∧RV g w h.nx d x∧RV g w h.nx e y∧xs=[y]∧Za4 g w h.nx (Zla m d e h) E (PV g Q)
theorem ZlS (G:GX g c k X):MtR X "str.join" (rM g E .join):=by
 refine MtR.cas fun x xs H Q ⟨w,h,d,e,y,rr,rd,re,exs,q⟩=>?_
 subst exs
 have hK:=G.K
 simp only[Zla] at q
 cases d with
 |str s=>
  obtain⟨rfl,ks⟩:=Za1.mp rd
  cases e with
  |lst l=>
   obtain⟨a,xs,rfl,q1,r1⟩:=Zbd.mp re
   cases es:Zi5 l with
   |none=>simp only[es] at q; exact q.elim
   |some ys=>
    simp only[es] at q
    obtain⟨hl,q⟩:=Zbx q
    obtain⟨e2,oy⟩:=Zfk es r1
    subst e2
    refine⟨_,mt_join,stt s,a,ys.map stt,rfl,rfl,.inl (SqL.of (rr.sub _ _ q1)),?_,?_⟩
    ·rw[Zjk,Zac,Zbk]; exact hl
    ·have ej:Txt.join (stt s) (ys.map stt)=stt (TL.joinL s ys):=SX.join_S s ys
     rw[ej]
     exact Zba q rr (Za1.mpr ⟨rfl,Zfv ks oy⟩)
  |tup l=>
   obtain⟨a,xs,rfl,q1,r1⟩:=ZcE re
   cases es:Zi5 l with
   |none=>simp only[es] at q; exact q.elim
   |some ys=>
    simp only[es] at q
    obtain⟨hl,q⟩:=Zbx q
    obtain⟨e2,oy⟩:=Zfk es r1
    subst e2
    refine⟨_,mt_join,stt s,a,ys.map stt,rfl,rfl,.inr (by rw[hK]; exact SqT.ext rr.sub q1),?_,?_⟩
    ·rw[Zjk,Zac,Zbk]; exact hl
    ·have ej:Txt.join (stt s) (ys.map stt)=stt (TL.joinL s ys):=SX.join_S s ys
     rw[ej]
     exact Zba q rr (Za1.mpr ⟨rfl,Zfv ks oy⟩)
  |_=>exact q.elim
 |_=>exact q.elim
theorem Zfm {b:List Nat}:∀(a:List Nat) (k:Nat) (acc:List Nat),okS acc=true→okS a=true→∀y∈TL.spl b k acc a,okS y=true
 |[],k,acc,h1,_,y,hy=>by
  rw[TL.spl_nil] at hy
  rw[Zar.mp hy]
  exact h1
 |c::r,0,acc,h1,h2,y,hy=>by
  have hc:okS [c]=true∧okS r=true:=by
   unfold okS at h2⊢
   rw[ZbA,Zaa] at h2
   exact⟨by rw[ZbA,h2.1]; rfl,h2.2⟩
  unfold TL.spl at hy
  split at hy
  ·rcases Zak.mp hy with rfl |hy
   ·exact h1
   ·exact Zfm r _ [] rfl hc.2 y hy
  ·exact Zfm r 0 _ (Zdo h1 hc.1) hc.2 y hy
 |c::r,k+1,acc,h1,h2,y,hy=>by
  have hc:okS r=true:=by
   unfold okS at h2⊢
   rw[ZbA,Zaa] at h2
   exact h2.2
  unfold TL.spl at hy
  exact Zfm r k acc h1 hc y hy
theorem ZhH {w:Wd} {n:Nat}:∀ys:List (List Nat),(∀y∈ys,okS y=true)→RVs g w n (ys.map D.str) ((ys.map stt).map V.str)
 |[],_=>RVs.nil
 |y::ys,h=>RVs.mk (Za1.mpr ⟨rfl,h y Zag⟩) (ZhH ys fun z hz=>h z (Zaf _ hz))
theorem ZjW (G:GX g c k X):MtR X "str.split" (rM g E .split):=by
 refine MtR.cas fun x xs H Q ⟨w,h,d,e,y,rr,rd,re,exs,q⟩=>?_
 subst exs
 simp only[Zla] at q
 cases d with
 |str s=>
  obtain⟨rfl,ks⟩:=Za1.mp rd
  cases e with
  |str b=>
   obtain⟨rfl,kb⟩:=Za1.mp re
   obtain⟨⟨h1,h2,h3⟩,q⟩:=Zbx q
   have hb:b≠[]:=fun z=>by rw[z] at h1; cases h1
   refine⟨_,mt_split,stt s,stt b,rfl,rfl,?_,by rw[Zbk,Zcy]; exact h3,fun p hp=>?_⟩
   ·rw[Zbk,ZaU]
    exact fun z=>hb (ZaL z)
   ·have es:Txt.split (stt s) (stt b)=(TL.spl b 0 [] s).map stt:=SX.split_S hb h2
    rw[es]
    exact Zcd q rr hp (Zbd.mpr ⟨p,_,rfl,upd_same,ZhH _ (Zfm s 0 [] rfl ks)⟩)
  |_=>exact q.elim
 |_=>exact q.elim
theorem ZiG (s b:List Nat):Txt.rstripChars (stt s) (stt b)=stt (s.take (PySem.stripHi (stt b).cps.contains true (stt s) 0)):=by
 unfold Txt.rstripChars
 rw[stripBy_eq]
 show PySem.Builtin.Str.strSub (stt s) 0 (PySem.stripHi (stt b).cps.contains true (stt s) 0)=_
 generalize PySem.stripHi (stt b).cps.contains true (stt s) 0=j
 show (⟨s.toArray.extract 0 j⟩:Str)=⟨(s.take j).toArray⟩
 rw[List.extract_toArray]
 simp[List.extract]
theorem ZlK {s:List Nat} (j:Nat) (h:okS s=true):okS (s.take j)=true:=by
 unfold okS at h⊢
 rw[Zaj] at h⊢
 exact fun c hc=>h c (Zcp hc)
theorem ZiM (G:GX g c k X):MtR X "str.rstrip" (rM g E .rstrip):=by
 refine MtR.cas fun x xs H Q ⟨w,h,d,e,y,rr,rd,re,exs,q⟩=>?_
 subst exs
 simp only[Zla] at q
 cases d with
 |str s=>
  obtain⟨rfl,ks⟩:=Za1.mp rd
  cases e with
  |str b=>
   obtain⟨rfl,kb⟩:=Za1.mp re
   obtain⟨hl,q⟩:=Zbx q
   refine⟨_,mt_rstripChars,stt s,stt b,rfl,rfl,by rw[Zbk,Zcy]; exact hl,?_⟩
   rw[ZiG]
   exact Zba q rr (Za1.mpr ⟨rfl,ZlK _ ks⟩)
  |_=>exact q.elim
 |_=>exact q.elim
theorem Ziz (s b:List Nat):Txt.startswith (stt s) (stt b)=b.isPrefixOf s:=by
 have e1:(stt s).length=s.length:=Zbk s
 have e2:(stt b).length=b.length:=Zbk b
 unfold Txt.startswith PySem.Builtin.Str.subAt
 rw[e1,e2,Zbt]
 have e3:((stt s).cps.extract 0 b.length == (stt b).cps)=decide (s.take b.length=b):=by
  show ((s.toArray.extract 0 b.length) == b.toArray)=_
  rw[List.extract_toArray]
  have:s.extract 0 b.length=s.take b.length:=by simp[List.extract]
  rw[this,ZaV,Zab,Zbi]
  exact⟨fun h=>by simpa using h,fun h=>by rw[h]⟩
 rw[e3,ZaV,Zaa,Zab,Zab,List.isPrefixOf_iff_prefix,List.prefix_iff_eq_take]
 refine⟨fun h=>h.2.symm,fun h=>⟨?_,h.symm⟩⟩
 have:=congrArg List.length h
 rw[Za0] at this
 omega
theorem ZiL (G:GX g c k X):MtR X "str.startswith" (rM g E .starts):=by
 refine MtR.cas fun x xs H Q ⟨w,h,d,e,y,rr,rd,re,exs,q⟩=>?_
 subst exs
 simp only[Zla] at q
 cases d with
 |str s=>
  obtain⟨rfl,ks⟩:=Za1.mp rd
  cases e with
  |str b=>
   obtain⟨rfl,kb⟩:=Za1.mp re
   obtain⟨hl,q⟩:=Zbx q
   refine⟨_,mt_startswith,stt s,stt b,rfl,rfl,?_⟩
   rw[Ziz]
   exact Zba q rr (Zde.mpr rfl)
  |_=>exact q.elim
 |_=>exact q.elim
theorem ZjX (G:GX g c k X):MtR X "str.index" (rM g E .index):=by
 refine MtR.cas fun x xs H Q ⟨w,h,d,e,y,rr,rd,re,exs,q⟩=>?_
 subst exs
 simp only[Zla] at q
 cases d with
 |str s=>
  obtain⟨rfl,ks⟩:=Za1.mp rd
  cases e with
  |str b=>
   obtain⟨rfl,kb⟩:=Za1.mp re
   dsimp only at q
   split at q
   ·rename_i i rest ho
    exact⟨_,mt_sindex,stt s,stt b,i,rest,rfl,rfl,by rw[Zbk]; exact ho,Zba q rr (Za7.mpr rfl)⟩
   ·exact q.elim
  |_=>exact q.elim
 |_=>exact q.elim
/-! ### repr -/
mutual
def okD:D→Bool
 | .str s=>okS s
 | .tup l=>okDs l
 | .lst l=>okDs l
 |_=>true
def okDs:List D→Bool
 |[]=>true
 |d::l=>okD d&&okDs l
end
mutual
theorem Zm2 {w:Wd} {n:Nat}:∀(d:D) (v:V),RV g w n d v→okD d=true
 | .str s,v,h=>by unfold okD; exact (Za1.mp h).2
 | .tup l,v,h=>by
  obtain⟨a,xs,_,_,r⟩:=ZcE h
  unfold okD
  exact okDs_of l xs r
 | .lst l,v,h=>by
  obtain⟨a,xs,_,_,r⟩:=Zbd.mp h
  unfold okD
  exact okDs_of l xs r
 | .non,_,_=>by unfold okD; rfl
 | .bl _,_,_=>by unfold okD; rfl
 | .int _,_,_=>by unfold okD; rfl
 | .ref _,_,_=>by unfold okD; rfl
 | .ins _ _,_,_=>by unfold okD; rfl
 | .exc _ _,_,_=>by unfold okD; rfl
 | .scr _,_,_=>by unfold okD; rfl
 | .dct _ _,_,_=>by unfold okD; rfl
 | .set _,_,_=>by unfold okD; rfl
 | .ktp _,_,_=>by unfold okD; rfl
theorem okDs_of {w:Wd} {n:Nat}:∀(l:List D) (xs:List V),RVs g w n l xs→okDs l=true
 |[],_,_=>by unfold okDs; rfl
 |d::l,xs,h=>by
  obtain⟨x,ys,rfl,h1,h2⟩:=ZaQ.mp h
  unfold okDs
  rw[Zm2 d x h1,okDs_of l ys h2]
  rfl
end
mutual
theorem Zew:∀(k:Nat) (d:D),dpt k d=true→PyData.eqv (py d) (py d)=true
 |k,.non,_=>by unfold py PyData.eqv; rfl
 |k,.bl b,_=>by unfold py PyData.eqv; exact ZaB b
 |k,.int b,_=>by unfold py PyData.eqv; exact ZaB b
 |k,.str b,_=>by unfold py PyData.eqv; exact ZaB _
 |0,.tup l,h=>by unfold dpt at h; cases h
 |0,.lst l,h=>by unfold dpt at h; cases h
 |k+1,.tup l,h=>by unfold dpt at h; unfold py PyData.eqv; exact eqvs_refl' k l h
 |k+1,.lst l,h=>by unfold dpt at h; unfold py PyData.eqv; exact eqvs_refl' k l h
 |k,.ref _,h=>by cases k<;>(unfold dpt at h; cases h)
 |k,.ins _ _,h=>by cases k<;>(unfold dpt at h; cases h)
 |k,.exc _ _,h=>by cases k<;>(unfold dpt at h; cases h)
 |k,.scr _,h=>by cases k<;>(unfold dpt at h; cases h)
 |k,.dct _ _,h=>by cases k<;>(unfold dpt at h; cases h)
 |k,.set _,h=>by cases k<;>(unfold dpt at h; cases h)
 |k,.ktp _,h=>by cases k<;>(unfold dpt at h; cases h)
theorem eqvs_refl':∀(k:Nat) (l:List D),dpts k l=true→PyData.eqvAll (pys l) (pys l)=true
 |k,[],_=>by unfold pys PyData.eqvAll; rfl
 |k,d::l,h=>by
  unfold dpts at h
  rw[Zaa] at h
  unfold pys PyData.eqvAll
  rw[Zew k d h.1,eqvs_refl' k l h.2]
  rfl
end
mutual
theorem ZhF:∀(d:D) (m:Nat),wt d=some m→okD d=true→(py d).leavesShort 13=true∧(py d).showable=true∧(py d).hasDict=false∧(py d).bulk+1≤2 * m
 | .non,m,h,_=>by
  unfold wt at h
  have h:1=m:=Option.some.inj h
  unfold py; simp[PyData.leavesShort,PyData.showable,PyData.hasDict,PyData.bulk]; omega
 | .bl b,m,h,_=>by
  unfold wt at h
  have h:1=m:=Option.some.inj h
  unfold py; simp[PyData.leavesShort,PyData.showable,PyData.hasDict,PyData.bulk]; omega
 | .int i,m,h,_=>by
  unfold wt at h
  obtain⟨hi,hm⟩:=Zcr h
  have hl:(toString i).length≤13:=int_text_length_le10 (k:=12) (by decide) (by rw[show (10:Nat) ^ 12=1000000000000 by decide]; exact hi)
  unfold py
  refine⟨?_,?_,by simp[PyData.hasDict],by simp only[PyData.bulk]; omega⟩
  ·simp only[PyData.leavesShort]
   refine ZaJ ?_
   rw[PyData.shown_int]
   have e:(Str.ofString (toString i)).length=(toString i).length:=by
    rw[Str.ofString_eq_toList]
    show ((toString i).toList.map Char.toNat).toArray.size=_
    rw[List.size_toArray,Zac]
    rfl
   exact e ▸ hl
  ·simp only[PyData.showable]
   refine ZaJ ?_
   by_cases h0:i.natAbs=0
   ·rw[h0]; decide
   ·refine (Nat.log2_lt h0).mpr (ZaT hi ?_)
    exact ZaI (show 1000000000000≤2 ^ 40 by decide) (Zco (by decide) (by decide))
 | .str s,m,h,ho=>by
  unfold wt at h
  have h:s.length+1=m:=Option.some.inj h
  unfold okD at ho
  unfold py
  refine⟨?_,by simp[PyData.showable],by simp[PyData.hasDict],?_⟩
  ·simp only[PyData.leavesShort,Zaj,Zab]
   intro x hx
   unfold okS at ho
   have:=Zaj.mp ho x (by simpa using hx)
   have h1:x < 1114112:=ZaC this
   have e:(16:Nat) ^ 8=4294967296:=by decide
   omega
  ·simp only[PyData.bulk]
   simp
   omega
 | .tup l,m,h,ho=>by
  unfold wt at h
  obtain⟨j,e,rfl⟩:=Zan.mp h
  unfold okD at ho
  obtain⟨h1,h2,h3,h4⟩:=shorts_of l j e ho
  unfold py
  simp only[PyData.leavesShort,PyData.showable,PyData.hasDict,PyData.bulk]
  exact⟨h1,h2,h3,by omega⟩
 | .lst l,m,h,ho=>by
  unfold wt at h
  obtain⟨j,e,rfl⟩:=Zan.mp h
  unfold okD at ho
  obtain⟨h1,h2,h3,h4⟩:=shorts_of l j e ho
  unfold py
  simp only[PyData.leavesShort,PyData.showable,PyData.hasDict,PyData.bulk]
  exact⟨h1,h2,h3,by omega⟩
 | .ref _,_,h,_=>by unfold wt at h; cases h
 | .ins _ _,_,h,_=>by unfold wt at h; cases h
 | .exc _ _,_,h,_=>by unfold wt at h; cases h
 | .scr _,_,h,_=>by unfold wt at h; cases h
 | .dct _ _,_,h,_=>by unfold wt at h; cases h
 | .set _,_,h,_=>by unfold wt at h; cases h
 | .ktp _,_,h,_=>by unfold wt at h; cases h
theorem shorts_of:∀(l:List D) (m:Nat),wts l=some m→okDs l=true→PyData.leavesShortAll 13 (pys l)=true∧PyData.showableAll (pys l)=true∧PyData.hasDictAll (pys l)=false∧PyData.bulkAll (pys l)≤2 * m
 |[],m,h,_=>by unfold pys; simp[PyData.leavesShortAll,PyData.showableAll,PyData.hasDictAll,PyData.bulkAll]
 |d::l,m,h,ho=>by
  unfold wts at h
  unfold okDs at ho
  rw[Zaa] at ho
  cases e1:wt d with
  |none=>rw[e1] at h; cases h
  |some a=>
   cases e2:wts l with
   |none=>rw[e1,e2] at h; cases h
   |some b=>
    rw[e1,e2] at h
    have h:a+b=m:=Option.some.inj h
    obtain⟨h1,h2,h3,h4⟩:=ZhF d a e1 ho.1
    obtain⟨k1,k2,k3,k4⟩:=shorts_of l b e2 ho.2
    unfold pys
    simp only[PyData.leavesShortAll,PyData.showableAll,PyData.hasDictAll,PyData.bulkAll,h1,h2,h3,k1,k2,k3,Bool.and_self,Bool.or_self]
    exact⟨trivial,trivial,trivial,by omega⟩
end
end
end Rk
/-! Rk.F:expressions by the evaluator. -/
namespace Rk
open PySem PySem.Spec PyProof.Rows L2
abbrev Run (α:Type):=Env→AH→Res α
abbrev SX':=L2.St→XK
def Zdb (run:Run D):Run Bool:=fun env h=>(run env h).bind fun x h=>Zbv (ZbM x) h
structure EV (X:Cx) (g:Gi) (E:SX') (e:Expr) (run:Run D):Prop where
 pe:PE X e (tE g E run)
 pt:PT X e (tB' g E (Zdb run))
section
variable {X:Cx} {g:Gi} {c:Bool} {k:Nat} {E:SX'} {e a b d:Expr} {pos:Pos} {run ra rb rd:Run D}
theorem tE.step {α:Type} {ra:Run D} {f:D→AH→Res α} {P:Wd→AH→Hp→α→Prop} {w:Wd} {env:Env} {h:AH} {σ:L2.St} {H:Hp} {XE:XK}
  (q:Za4 g w h.nx ((ra env h).bind f) XE P) (rr:RR g w h H) (re:RE g w h.nx env σ) (hE:E σ=XE)
  {R:V→Hp→Prop} (hR:∀w1 h1 H1 x v,Ext w h.nx w1 h1.nx→RR g w1 h1 H1→RE g w1 h1.nx env σ→RV g w1 h1.nx x v→Za4 g w1 h1.nx (f x h1) XE P→R v H1):tE g E ra σ H R:=by
 subst hE
 exact⟨w,env,h,rr,re,q.bind.mono fun w1 h1 H1 x ext rr1 q1 v rv=>hR w1 h1 H1 x v ext rr1 (re.ext ext) rv q1⟩
theorem EV.of (G:GX g c k X) (h:PE X e (tE g E run)) (he:∀whole,isTrue e X.env whole=(do let v ← whole; standAt e.pos; holding [v] (truthy v))):EV X g E e run:=by
 refine⟨h,(pt_truth h he).imp fun σ H Q ⟨w,env,h,rr,re,q⟩=>?_⟩
 exact tE.step q rr re rfl fun w1 h1 H1 x v ext rr1 re1 rv q1=>by
  obtain⟨b,hb,q1⟩:=ZcZ q1
  exact⟨b,ZhA G.K rr1 rv hb,q1.now rr1⟩
theorem EV.stuck:EV X g E e (fun _ _=>.stuck):=⟨⟨fun pins s σ H Q I ⟨w,env,h,rr,re,q⟩=>q.elim⟩,⟨fun pins s σ H Q I ⟨w,env,h,rr,re,q⟩=>q.elim⟩⟩
theorem ev_var (G:GX g c k X) {i:Nat} {x:Str} (hN:X.N[i]? =some x) (hv:Vis X.env.scope x) (hd:(x == ("__debug__":Str))=false) (hcd:(x == ("__classdict__":Str))=false):EV X g E (.Name x pos) (fun env h=>ldV env i h):=by
 refine EV.of G ((pe_var hN hv hd hcd).imp fun σ H Q ⟨w,env,h,rr,re,q⟩=>?_) fun _=>rfl
 unfold ldV at q
 dsimp only at q
 split at q
 ·rename_i dd he
  obtain⟨v,h1,h2⟩:=re.at_ _ _ he
  exact⟨v,h1,Zba q rr h2⟩
 ·exact q.elim
def cstOf:Const→Option D
 | .none=>some .non
 | .bool b=>some (.bl b)
 | .int i=>some (.int i)
 | .str s=>if okS s.cps.toList then some (.str s.cps.toList) else none
 |_=>none
theorem Znh (G:GX g c k X) {j:Nat} {cc:Const} {dd:D} (hc:cstOf cc=some dd):EV X g E (.Constant cc j pos) (fun _ h=>.ok dd h):=by
 cases cc with
 |none=>cases hc; exact EV.of G (pe_non.imp fun σ H Q ⟨w,env,h,rr,re,q⟩=>Zba q rr (ZdY.mpr rfl)) fun _=>rfl
 |bool b=>cases hc; exact EV.of G (pe_bl.imp fun σ H Q ⟨w,env,h,rr,re,q⟩=>Zba q rr (Zde.mpr rfl)) fun _=>rfl
 |int b=>cases hc; exact EV.of G (pe_int.imp fun σ H Q ⟨w,env,h,rr,re,q⟩=>Zba q rr (Za7.mpr rfl)) fun _=>rfl
 |str s=>
  obtain⟨ho,rfl⟩:=Zcr hc
  exact EV.of G (pe_str.imp fun σ H Q ⟨w,env,h,rr,re,q⟩=>Zba q rr (Za1.mpr ⟨rfl,ho⟩)) fun _=>rfl
 |_=>cases hc
theorem ev_bin (G:GX g c k X) {o:Operator} (ha:EV X g E a ra) (hb:EV X g E b rb):EV X g E (.BinOp a o b pos) (fun env h=>(ra env h).bind fun x h=>(rb env h).bind fun y h=>Zcn o x y h):=by
 refine EV.of G (PE.mk fun pins s σ H Q I ⟨w,env,h,rr,re,q⟩=>?_) fun _=>rfl
 refine (pe_op (op_bin (E:=E σ) G o) ha.pe hb.pe).run pins s σ H Q I ?_
 refine tE.step q rr re rfl fun w1 h1 H1 x v ext rr1 re1 rv q1=>?_
 refine tE.step q1 rr1 re1 rfl fun w2 h2 H2 y u ext2 rr2 re2 rv2 q2=>?_
 exact⟨w2,h2,x,y,rr2,rv.ext ext2 _ _,rv2,q2⟩
theorem tB'.step {α:Type} {ra:Run D} {f:Bool→AH→Res α} {P:Wd→AH→Hp→α→Prop} {w:Wd} {env:Env} {h:AH} {σ:L2.St} {H:Hp} {XE:XK}
  (q:Za4 g w h.nx ((Zdb ra env h).bind f) XE P) (rr:RR g w h H) (re:RE g w h.nx env σ) (hE:E σ=XE)
  {R:Bool→Hp→Prop} (hR:∀w1 h1 H1 x,Ext w h.nx w1 h1.nx→RR g w1 h1 H1→RE g w1 h1.nx env σ→Za4 g w1 h1.nx (f x h1) XE P→R x H1):tB' g E (Zdb ra) σ H R:=by
 subst hE
 exact⟨w,env,h,rr,re,q.bind.mono fun w1 h1 H1 x ext rr1 q1=>hR w1 h1 H1 x ext rr1 (re.ext ext) q1⟩
theorem Zbh {α β γ:Type} (r:Res α) (f:α→AH→Res β) (k:β→AH→Res γ):(r.bind f).bind k=r.bind fun a h=>(f a h).bind k:=by
 cases r<;>rfl
theorem ZbW {α β:Type} {r:Res α} {f k:α→AH→Res β} (h:∀a h,f a h=k a h):r.bind f=r.bind k:=by
 cases r with
 |ok a h'=>exact h a h'
 |_=>rfl
theorem ev_not (G:GX g c k X) (ha:EV X g E a ra):EV X g E (.UnaryOp .Not a pos) (fun env h=>(ra env h).bind fun x h=>Zbv ((ZbM x).map fun b=>.bl !b) h):=by
 refine⟨(pe_notT ha.pe).imp fun σ H Q ⟨w,env,h,rr,re,q⟩=>?_,(pt_not ha.pt).imp fun σ H Q ⟨w,env,h,rr,re,q⟩=>?_⟩
 ·refine tE.step q rr re rfl fun w1 h1 H1 x v ext rr1 re1 rv q1=>?_
  obtain⟨b,hb,q1⟩:=Zdc q1
  exact⟨b,ZhA G.K rr1 rv hb,Zba q1 rr1 (Zde.mpr rfl)⟩
 ·have e:Zdb (fun env h=>(ra env h).bind fun x h=>Zbv ((ZbM x).map fun b=>D.bl !b) h) env h=(Zdb ra env h).bind fun b h=>.ok (!b) h:=by
   unfold Zdb
   rw[Zbh,Zbh]
   refine ZbW fun x h=>?_
   cases ZbM x<;>rfl
  rw[e] at q
  exact tB'.step q rr re rfl fun w1 h1 H1 x ext rr1 re1 q1=>q1.now rr1
/-! ### and,or:lists of values -/
structure BV (X:Cx) (g:Gi) (E:SX') (o:BoolOp) (l:List Expr) (run:Run D):Prop where
 pe:∀pos,PE X (.BoolOp o l pos) (tE g E run)
 pw:∀pos,PW X (.BoolOp o l pos) (tB' g E (Zdb run))
theorem PW.imp' {X:Cx} {e:Expr} {t t':TT} (h:PW X e t) (k:∀σ H Q,t' σ H Q→t σ H Q):PW X e t':=⟨fun wh pins s σ H Q I q=>h.run wh pins s σ H Q I (k _ _ _ q)⟩
theorem ZnD (ha:EV X g E a ra) (o:BoolOp):BV X g E o [a] ra:=by
 cases o with
 |And=>exact⟨fun _=>pe_one ha.pe,fun _=>pw_and1 ha.pt⟩
 |Or=>exact⟨fun _=>pe_one ha.pe,fun _=>pw_or1 ha.pt⟩
def andR (ra rb:Run D):Run D:=fun env h=>(ra env h).bind fun x h=>match ZbM x with
  |some true=>rb env h
  |some false=>.ok x h
  |none=>.stuck
def orR (ra rb:Run D):Run D:=fun env h=>(ra env h).bind fun x h=>match ZbM x with
  |some true=>.ok x h
  |some false=>rb env h
  |none=>.stuck
theorem bv_and (G:GX g c k X) {l:List Expr} (ha:EV X g E a ra) (hb:BV X g E .And (b::l) rb):BV X g E .And (a::b::l) (andR ra rb):=by
 refine⟨fun pos=>(pe_andT ha.pe (hb.pe pos)).imp fun σ H Q ⟨w,env,h,rr,re,q⟩=>?_,fun pos=>PW.imp' (pw_and ha.pt (hb.pw pos)) fun σ H Q ⟨w,env,h,rr,re,q⟩=>?_⟩
 ·refine tE.step q rr re rfl fun w1 h1 H1 x v ext rr1 re1 rv q1=>?_
  cases ht:ZbM x with
  |none=>simp only[ht] at q1; exact q1.elim
  |some t=>
   refine⟨t,ZhA G.K rr1 rv ht,?_⟩
   cases t with
   |true=>simp only[ht] at q1; exact iteT ⟨w1,env,h1,rr1,re1,q1⟩
   |false=>simp only[ht] at q1; exact iteF (Zba q1 rr1 rv)
 ·have e:Zdb (andR ra rb) env h=(Zdb ra env h).bind fun t h=>if t then Zdb rb env h else .ok false h:=by
   unfold Zdb andR
   rw[Zbh,Zbh]
   refine ZbW fun x h=>?_
   cases ht:ZbM x with
   |none=>rfl
   |some t=>cases t with
    |true=>rfl
    |false=>show (Res.ok x h).bind _=_; rw[bind_ok,ht]; rfl
  rw[e] at q
  refine tB'.step q rr re rfl fun w1 h1 H1 x ext rr1 re1 q1=>?_
  cases x with
  |true=>exact iteT ⟨w1,env,h1,rr1,re1,q1⟩
  |false=>exact iteF (q1.now rr1)
theorem bv_or (G:GX g c k X) {l:List Expr} (ha:EV X g E a ra) (hb:BV X g E .Or (b::l) rb):BV X g E .Or (a::b::l) (orR ra rb):=by
 refine⟨fun pos=>(pe_orT ha.pe (hb.pe pos)).imp fun σ H Q ⟨w,env,h,rr,re,q⟩=>?_,fun pos=>PW.imp' (pw_or ha.pt (hb.pw pos)) fun σ H Q ⟨w,env,h,rr,re,q⟩=>?_⟩
 ·refine tE.step q rr re rfl fun w1 h1 H1 x v ext rr1 re1 rv q1=>?_
  cases ht:ZbM x with
  |none=>simp only[ht] at q1; exact q1.elim
  |some t=>
   refine⟨t,ZhA G.K rr1 rv ht,?_⟩
   cases t with
   |false=>simp only[ht] at q1; exact iteF ⟨w1,env,h1,rr1,re1,q1⟩
   |true=>simp only[ht] at q1; exact iteT (Zba q1 rr1 rv)
 ·have e:Zdb (orR ra rb) env h=(Zdb ra env h).bind fun t h=>if t then .ok true h else Zdb rb env h:=by
   unfold Zdb orR
   rw[Zbh,Zbh]
   refine ZbW fun x h=>?_
   cases ht:ZbM x with
   |none=>rfl
   |some t=>cases t with
    |false=>rfl
    |true=>show (Res.ok x h).bind _=_; rw[bind_ok,ht]; rfl
  rw[e] at q
  refine tB'.step q rr re rfl fun w1 h1 H1 x ext rr1 re1 q1=>?_
  cases x with
  |false=>exact iteF ⟨w1,env,h1,rr1,re1,q1⟩
  |true=>exact iteT (q1.now rr1)
theorem BV.ev {o:BoolOp} {l:List Expr} (h:BV X g E o l run):EV X g E (.BoolOp o l pos) run:=⟨h.pe pos,(h.pw pos).pt⟩
def ifeR (rt ra rb:Run D):Run D:=fun env h=>(rt env h).bind fun x h=>match ZbM x with
  |some true=>ra env h
  |some false=>rb env h
  |none=>.stuck
theorem ZlG {cnd:Expr} {tc ta tb:TT} (hc:PT X cnd tc) (ha:PT X a ta) (hb:PT X b tb):PT X (.IfExp cnd a b pos) (fun σ H Q=>tc σ H fun c H1=>if c=true then ta σ H1 Q else tb σ H1 Q):=by
 refine⟨fun pins s σ H Q I h=>?_⟩
 refine isTrue_IfExp (thn (hc.run pins s σ H _ I h) fun d s1 ⟨H1,I1,q1⟩=>?_)
 cases d with
 |true=>exact ha.run pins s1 σ H1 Q I1 q1
 |false=>exact hb.run pins s1 σ H1 Q I1 q1
theorem ev_ife (G:GX g c k X) {cnd:Expr} {rt:Run D} (ht:EV X g E cnd rt) (ha:EV X g E a ra) (hb:EV X g E b rb):EV X g E (.IfExp cnd a b pos) (ifeR rt ra rb):=by
 have e0:∀(env:Env) (h:AH),ifeR rt ra rb env h=(Zdb rt env h).bind fun t h=>if t then ra env h else rb env h:=fun env h=>by
  unfold Zdb ifeR
  rw[Zbh]
  refine ZbW fun x h=>?_
  cases hx:ZbM x with
  |none=>rfl
  |some t=>cases t<;>rfl
 refine⟨(pe_ifExp ht.pt ha.pe hb.pe).imp fun σ H Q ⟨w,env,h,rr,re,q⟩=>?_,(ZlG ht.pt ha.pt hb.pt).imp fun σ H Q ⟨w,env,h,rr,re,q⟩=>?_⟩
 ·rw[e0] at q
  refine tB'.step q rr re rfl fun w1 h1 H1 x ext rr1 re1 q1=>?_
  cases x with
  |true=>exact iteT ⟨w1,env,h1,rr1,re1,q1⟩
  |false=>exact iteF ⟨w1,env,h1,rr1,re1,q1⟩
 ·have e1:Zdb (ifeR rt ra rb) env h=(Zdb rt env h).bind fun t h=>if t then Zdb ra env h else Zdb rb env h:=by
   unfold Zdb
   rw[e0]
   unfold Zdb
   rw[Zbh]
   refine ZbW fun x h=>?_
   cases x<;>rfl
  rw[e1] at q
  refine tB'.step q rr re rfl fun w1 h1 H1 x ext rr1 re1 q1=>?_
  cases x with
  |true=>exact iteT ⟨w1,env,h1,rr1,re1,q1⟩
  |false=>exact iteF ⟨w1,env,h1,rr1,re1,q1⟩
/-! ### comparisons -/
theorem ev_cmp (G:GX g c k X) {o:CmpOp} (ha:EV X g E a ra) (hb:EV X g E b rb) (hm:behindInMarks o b=false):EV X g E (.Compare a [o] [b] pos) (fun env h=>(ra env h).bind fun x h=>(rb env h).bind fun y h=>Zbv ((ZcB o x y).map .bl) h):=by
 refine⟨(pe_cmpR (Zm0 G o) ha.pe hb.pe hm).imp fun σ H Q ⟨w,env,h,rr,re,q⟩=>?_,(pt_cmpR (Zm0 G o) ha.pe hb.pe hm).imp fun σ H Q ⟨w,env,h,rr,re,q⟩=>?_⟩
 ·refine tE.step q rr re rfl fun w1 h1 H1 x v ext rr1 re1 rv q1=>?_
  refine tE.step q1 rr1 re1 rfl fun w2 h2 H2 y u ext2 rr2 re2 rv2 q2=>?_
  obtain⟨bb,hb,q2⟩:=Zdc q2
  exact⟨w2,h2,x,y,bb,rr2,rv.ext ext2 _ _,rv2,hb,Zba q2 rr2 (Zde.mpr rfl)⟩
 ·have e:Zdb (fun env h=>(ra env h).bind fun x h=>(rb env h).bind fun y h=>Zbv ((ZcB o x y).map .bl) h) env h=(ra env h).bind fun x h=>(rb env h).bind fun y h=>Zbv (ZcB o x y) h:=by
   unfold Zdb
   rw[Zbh]
   refine ZbW fun x h=>?_
   rw[Zbh]
   refine ZbW fun y h=>?_
   cases ZcB o x y<;>rfl
  rw[e] at q
  refine tE.step q rr re rfl fun w1 h1 H1 x v ext rr1 re1 rv q1=>?_
  refine tE.step q1 rr1 re1 rfl fun w2 h2 H2 y u ext2 rr2 re2 rv2 q2=>?_
  obtain⟨bb,hb,q2⟩:=ZcZ q2
  exact⟨w2,h2,x,y,bb,rr2,rv.ext ext2 _ _,rv2,hb,bb,rfl,q2.now rr2⟩
end
end Rk
/-! Rk.G:arguments,displays,subscripts,built-ins,calls. -/
namespace Rk
open PySem PySem.Spec PyProof.Rows L2
/-! ### syntactic facts -/
def nst:Expr→Bool
 | .Starred _ _=>false
 |_=>true
theorem Zbw {e:Expr} (h:nst e=true) (es:List Expr) (env:PySem.Env):starEach (e::es) env=(false,eval e env)::starEach es env:=by
 cases e<;>first
  |rfl
  |exact absurd h (by unfold nst; exact Zi4)
def ZdK (l:List Expr):Bool:=l.all nst
theorem Zd9 {l:List Expr} (h:ZdK l=true) (pos:Pos) (env:PySem.Env):(backTo pos (starEach l env)).any (·.1)=false:=by
 induction l with
 |nil=>rfl
 |cons e l ih=>
  unfold ZdK at h
  rw[ZbA,Zaa] at h
  rw[Zbw h.1]
  show (false||(backTo pos (starEach l env)).any (·.1))=false
  rw[ih h.2]
  rfl
def nsl:Expr→Bool
 | .Slice .. =>false
 |_=>true
theorem nsl_ok {e:Expr} (h:nsl e=true):PlainIx e:=by
 intro o i
 cases e<;>first
  |rfl
  |exact absurd h (by unfold nsl; exact Zi4)
def Zdh:Expr→Bool
 | .Call (.Name _ _) [] [] _=>false
 |_=>true
theorem ZcH {e:Expr} (h:Zdh e=true) (a:Str) (env:PySem.Env):attributeBase e a env (eval e env)=eval e env:=by
 unfold Zdh at h
 split at h
 ·cases h
 ·rename_i hn
  unfold attributeBase
  split
  ·rename_i id p pos
   exact absurd rfl (hn id p pos)
  ·rfl
def kwn (kws:List Keyword):Option (List Str):=match kws with
 |[]=>some []
 |⟨some n,_,_⟩::r=>(kwn r).map (n:: ·)
 |_=>none
theorem Zm7 {pos:Pos} {env:PySem.Env}:∀{kws:List Keyword} {ks:List Str},kwn kws=some ks→(backToKw pos (keywordEach kws env)).all (·.1.isSome)=true∧(backToKw pos (keywordEach kws env)).filterMap (·.1)=ks∧(backToKw pos (keywordEach kws env)).any (·.1.isNone)=false
 |[],ks,h=>by cases h; exact⟨rfl,rfl,rfl⟩
 |⟨none,_,_⟩::r,ks,h=>by cases h
 |⟨some n,e,p⟩::r,ks,h=>by
  obtain⟨js,h1,rfl⟩:=Zan.mp (show (kwn r).map (n:: ·)=some ks from h)
  obtain⟨a,b,c⟩:=Zm7 (pos:=pos) (env:=env) h1
  refine⟨?_,?_,?_⟩
  ·show (true&&(backToKw pos (keywordEach r env)).all (·.1.isSome))=true
   rw[a]; rfl
  ·show n::(backToKw pos (keywordEach r env)).filterMap (·.1)=n::js
   rw[b]
  ·show (false||(backToKw pos (keywordEach r env)).any (·.1.isNone))=false
   rw[c]; rfl
section
variable {X:Cx} {g:Gi} {c:Bool} {k:Nat} {E:SX'} {e a b d:Expr} {pos p1 p2:Pos} {run ra rb rd:Run D} {es:List Expr} {rs:Run (List D)}
/-! ### argument lists -/
def consR (ra:Run D) (rs:Run (List D)):Run (List D):=fun env h=>(ra env h).bind fun x h=>(rs env h).bind fun l h=>.ok (x::l) h
theorem tEs.step {α:Type} {rs:Run (List D)} {f:List D→AH→Res α} {P:Wd→AH→Hp→α→Prop} {w:Wd} {env:Env} {h:AH} {σ:L2.St} {H:Hp} {XE:XK}
  (q:Za4 g w h.nx ((rs env h).bind f) XE P) (rr:RR g w h H) (re:RE g w h.nx env σ) (hE:E σ=XE)
  {R:List V→Hp→Prop} (hR:∀w1 h1 H1 l xs,Ext w h.nx w1 h1.nx→RR g w1 h1 H1→RE g w1 h1.nx env σ→RVs g w1 h1.nx l xs→Za4 g w1 h1.nx (f l h1) XE P→R xs H1):tEs g E rs σ H R:=by
 subst hE
 exact⟨w,env,h,rr,re,q.bind.mono fun w1 h1 H1 l ext rr1 q1 xs rv=>hR w1 h1 H1 l xs ext rr1 (re.ext ext) rv q1⟩
theorem ZnI:PA X [] (tEs g E (fun _ h=>.ok [] h)):=pa_nil.imp fun σ H Q ⟨w,env,h,rr,re,q⟩=>q.now rr [] RVs.nil
theorem Zk1 (hn:nst e=true) (ha:PE X e (tE g E ra)) (hs:PA X es (tEs g E rs)):PA X (e::es) (tEs g E (consR ra rs)):=by
 refine (pa_cons ha hs (Zbw hn es X.env)).imp fun σ H Q ⟨w,env,h,rr,re,q⟩=>?_
 refine tE.step q rr re rfl fun w1 h1 H1 x v ext rr1 re1 rv q1=>?_
 exact tEs.step q1 rr1 re1 rfl fun w2 h2 H2 l xs ext2 rr2 re2 rvs q2=>q2.now rr2 _ (RVs.mk (rv.ext ext2 _ _) rvs)
theorem ZpJ {sp:Pos} {rs:Run (List D)} (G:GX g c k X) (ha:PE X e (tE g E ra)) (hs:PA X es (tEs g E rs)):PA X (.Starred e sp::es) (tEs g E fun env h=>(ra env h).bind fun x h=>match x with
   | .lst a=>(rs env h).bind fun l h=>.ok (a++l) h
   | .tup a=>(rs env h).bind fun l h=>.ok (a++l) h
   |_=>.stuck):=by
 have hK:=G.K
 refine (StX.pa_star ha hs).imp fun σ H Q ⟨w,env,h,rr,re,q⟩=>?_
 refine tE.step q rr re rfl fun w1 h1 H1 x v ext rr1 re1 rv q1=>?_
 cases x with
 |lst l=>
  obtain⟨a,xs,rfl,f1,r1⟩:=Zbd.mp rv
  exact⟨a,xs,rfl,.inr (SqL.of (rr1.sub _ _ f1)),tEs.step q1 rr1 re1 rfl fun w2 h2 H2 m ys ext2 rr2 re2 rvs q2=>q2.now rr2 _ ((r1.ext ext2).append rvs)⟩
 |tup l=>
  obtain⟨a,xs,rfl,f1,r1⟩:=ZcE rv
  exact⟨a,xs,rfl,.inl (by rw[hK]; exact SqT.ext rr1.sub f1),tEs.step q1 rr1 re1 rfl fun w2 h2 H2 m ys ext2 rr2 re2 rvs q2=>q2.now rr2 _ ((r1.ext ext2).append rvs)⟩
 |_=>exact q1.elim
theorem kv_nil:PK X [] (tEs g E (fun _ h=>.ok [] h)):=⟨fun pos pins s σ H Q I ⟨w,env,h,rr,re,q⟩=>pk_nil.run pos pins s σ H Q I (q.now rr [] RVs.nil)⟩
theorem ZoS {nm:Option Str} {kp:Pos} {kws:List Keyword} (ha:PE X e (tE g E ra)) (hs:PK X kws (tEs g E rs)):PK X (⟨nm,e,kp⟩::kws) (tEs g E (consR ra rs)):=by
 refine⟨fun pos pins s σ H Q I ⟨w,env,h,rr,re,q⟩=>(pk_cons ha hs).run pos pins s σ H Q I ?_⟩
 refine tE.step q rr re rfl fun w1 h1 H1 x v ext rr1 re1 rv q1=>?_
 exact tEs.step q1 rr1 re1 rfl fun w2 h2 H2 l xs ext2 rr2 re2 rvs q2=>q2.now rr2 _ (RVs.mk (rv.ext ext2 _ _) rvs)
/-! ### displays -/
theorem ev_tup (G:GX g c k X) {j:Nat} (hs:PA X es (tEs g E rs)):EV X g E (.Tuple es j pos) (fun env h=>(rs env h).bind fun l h=>if l.length≤line then .ok (.tup l) h else .stuck):=by
 refine EV.of G ((pe_tup hs).imp fun σ H Q ⟨w,env,h,rr,re,q⟩=>?_) fun _=>rfl
 refine tEs.step q rr re rfl fun w1 h1 H1 l xs ext rr1 re1 rvs q1=>?_
 obtain⟨hl,q1⟩:=Zbx q1
 exact⟨by rw[rvs.length,Zcy]; exact hl,fun p hp=>Zcd q1 rr1 hp (Zb5.mpr ⟨p,_,rfl,upd_same,rvs.ext (rr1.freeze hp).2⟩)⟩
theorem ev_lst (G:GX g c k X) (hs:PA X es (tEs g E rs)):EV X g E (.List es pos) (fun env h=>(rs env h).bind fun l h=>if l.length≤line then .ok (.lst l) h else .stuck):=by
 refine EV.of G ((pe_lst hs).imp fun σ H Q ⟨w,env,h,rr,re,q⟩=>?_) fun _=>rfl
 refine tEs.step q rr re rfl fun w1 h1 H1 l xs ext rr1 re1 rvs q1=>?_
 obtain⟨hl,q1⟩:=Zbx q1
 exact⟨by rw[rvs.length,Zcy]; exact hl,fun p hp=>Zcd q1 rr1 hp (Zbd.mpr ⟨p,_,rfl,upd_same,rvs.ext (rr1.freeze hp).2⟩)⟩
theorem ev_hls (G:GX g c k X) (hs:PA X es (tEs g E rs)):EV X g E (.List es pos) (fun env h=>(rs env h).bind fun l h=>if l.length≤line then .ok (.ref h.nx) (h.new (.lst l)) else .stuck):=by
 refine EV.of G ((pe_lst hs).imp fun σ H Q ⟨w,env,h,rr,re,q⟩=>?_) fun _=>rfl
 refine tEs.step q rr re rfl fun w1 h1 H1 l xs ext rr1 re1 rvs q1=>?_
 obtain⟨hl,q1⟩:=Zbx q1
 refine⟨by rw[rvs.length,Zcy]; exact hl,fun p hp=>?_⟩
 obtain⟨r2,x2⟩:=rr1.alloc hp rvs
 exact q1 _ _ x2 r2 _ (Zb0.mpr ⟨by show _=V.ref (if h1.nx=h1.nx then p else _); rw[if_pos rfl],Zbc _⟩)
/-! ### subscripts -/
theorem ev_idx (G:GX g c k X) (ha:EV X g E a ra) (hb:EV X g E b rb) (hn:nsl b=true):EV X g E (.Subscript a b pos) (fun env h=>(ra env h).bind fun x h=>(rb env h).bind fun y h=>ZfI x y h):=by
 refine EV.of G (PE.mk fun pins s σ H Q I ⟨w,env,h,rr,re,q⟩=>?_) fun _=>rfl
 refine (pe_ix (ix_ev (E:=E σ) G) ha.pe hb.pe (nsl_ok hn)).run pins s σ H Q I ?_
 refine tE.step q rr re rfl fun w1 h1 H1 x v ext rr1 re1 rv q1=>?_
 refine tE.step q1 rr1 re1 rfl fun w2 h2 H2 y u ext2 rr2 re2 rv2 q2=>?_
 exact⟨w2,h2,x,y,rr2,rv.ext ext2 _ _,rv2,q2⟩
def tO' (g:Gi) (E:SX') (run:Run (Option Int)):TO:=fun σ H Q=>∃w env h,RR g w h H∧RE g w h.nx env σ∧Za4 g w h.nx (run env h) (E σ) (fun _ _ H' o=>Q o H')
def opR (ra:Run D):Run (Option Int):=fun env h=>(ra env h).bind fun x h=>match x with
  | .int i=>.ok (some i) h
  |_=>.stuck
theorem ov_no:PO X none (tO' g E (fun _ h=>.ok none h)):=⟨fun pins s σ H Q I ⟨w,env,h,rr,re,q⟩=>po_none.run pins s σ H Q I (q.now rr)⟩
theorem ov_so (ha:EV X g E a ra):PO X (some a) (tO' g E (opR ra)):=by
 refine⟨fun pins s σ H Q I ⟨w,env,h,rr,re,q⟩=>(po_some ha.pe).run pins s σ H Q I ?_⟩
 refine tE.step q rr re rfl fun w1 h1 H1 x v ext rr1 re1 rv q1=>?_
 cases x with
 |int i=>exact⟨i,Za7.mp rv,q1.now rr1⟩
 |_=>exact q1.elim
theorem tO'.step {α:Type} {ro:Run (Option Int)} {f:Option Int→AH→Res α} {P:Wd→AH→Hp→α→Prop} {w:Wd} {env:Env} {h:AH} {σ:L2.St} {H:Hp} {XE:XK}
  (q:Za4 g w h.nx ((ro env h).bind f) XE P) (rr:RR g w h H) (re:RE g w h.nx env σ) (hE:E σ=XE)
  {R:Option Int→Hp→Prop} (hR:∀w1 h1 H1 o,Ext w h.nx w1 h1.nx→RR g w1 h1 H1→RE g w1 h1.nx env σ→Za4 g w1 h1.nx (f o h1) XE P→R o H1):tO' g E ro σ H R:=by
 subst hE
 exact⟨w,env,h,rr,re,q.bind.mono fun w1 h1 H1 l ext rr1 q1=>hR w1 h1 H1 l ext rr1 (re.ext ext) q1⟩
theorem ev_slc (G:GX g c k X) {lo hi:Option Expr} {rl rh:Run (Option Int)} (ha:EV X g E a ra) (hl:PO X lo (tO' g E rl)) (hh:PO X hi (tO' g E rh)):
  EV X g E (.Subscript a (.Slice lo hi none p2) pos) (fun env h=>(ra env h).bind fun x h=>(rl env h).bind fun l h=>(rh env h).bind fun u h=>Zfo x l u h):=by
 refine EV.of G (PE.mk fun pins s σ H Q I ⟨w,env,h,rr,re,q⟩=>?_) fun _=>rfl
 refine (pe_slice (sl_ev (E:=E σ) G) ha.pe hl hh).run pins s σ H Q I ?_
 refine tE.step q rr re rfl fun w1 h1 H1 x v ext rr1 re1 rv q1=>?_
 refine tO'.step q1 rr1 re1 rfl fun w2 h2 H2 l ext2 rr2 re2 q2=>?_
 refine tO'.step q2 rr2 re2 rfl fun w3 h3 H3 u ext3 rr3 re3 q3=>?_
 exact⟨w3,h3,x,rr3,(rv.ext ext2 _ _).ext ext3 _ _,q3⟩
/-! ### built-ins -/
theorem bboot (b:Bi):bootBuiltins (Zhp b)=some (bval b):=by cases b<;>decide+kernel
theorem Zmz (b:Bi):Zhp b≠"__name__"∧(Zhp b == ("__debug__":Str))=false:=by cases b<;>decide+kernel
theorem ev_bi (G:GX g c k X) (hc:c=true) (bb:Bi) (hg:Gl X (Zhp bb)) (hm:X.mg (Zhp bb)=none) (hn:nst a=true) (ha:EV X g E a ra):EV X g E (.Call (.Name (Zhp bb) p1) [a] [] pos) (fun env h=>(ra env h).bind fun x h=>ZeT bb x h):=by
 have hv:=bboot bb
 obtain⟨k1,k2⟩:=Zmz bb
 refine EV.of G (PE.mk fun pins s σ H Q I ⟨w,env,h,rr,re,q⟩=>?_) fun _=>rfl
 have hA:PA X [a] (tCons (tE g E ra) tNil):=pa_cons ha.pe pa_nil (Zbw hn [] X.env)
 have hR:tCB (rB g (E σ) bb) (tCons (tE g E ra) tNil) σ H Q:=by
  refine tE.step q rr re rfl fun w1 h1 H1 x v ext rr1 re1 rv q1=>?_
  exact⟨w1,h1,x,v,rr1,rv,rfl,q1⟩
 have hC:=ZpD (E:=E σ) G hc bb
 cases bb with
 |len=>exact (pe_callB hC hg hm hv hA k1 k2 (Zbw hn [] X.env)).run pins s σ H Q I hR
 |all=>exact (pe_callB hC hg hm hv hA k1 k2 (Zbw hn [] X.env)).run pins s σ H Q I hR
 |any=>exact (pe_callB hC hg hm hv hA k1 k2 (Zbw hn [] X.env)).run pins s σ H Q I hR
 |sorted=>exact (pe_callB hC hg hm hv hA k1 k2 (Zbw hn [] X.env)).run pins s σ H Q I hR
 |sum=>exact (pe_callB hC hg hm hv hA k1 k2 (Zbw hn [] X.env)).run pins s σ H Q I hR
 |max=>exact (pe_callB hC hg hm hv hA k1 k2 (Zbw hn [] X.env)).run pins s σ H Q I hR
 |abs=>exact (pe_callB hC hg hm hv hA k1 k2 (Zbw hn [] X.env)).run pins s σ H Q I hR
 |tuple=>exact (pe_callTy hC hg hm hv hA k1 k2 (Zbw hn [] X.env)).run pins s σ H Q I hR
 |list=>exact (pe_callTy hC hg hm hv hA k1 k2 (Zbw hn [] X.env)).run pins s σ H Q I hR
 |int=>exact (pe_callTy hC hg hm hv hA k1 k2 (Zbw hn [] X.env)).run pins s σ H Q I hR
 |str=>exact (pe_callTy hC hg hm hv hA k1 k2 (Zbw hn [] X.env)).run pins s σ H Q I hR
def mtR (m:Mt) (ra rb:Run D):Run D:=fun env h=>(ra env h).bind fun x h=>match x with
  | .str s=>(rb env h).bind fun y h=>Zla m (.str s) y h
  |_=>.stuck
theorem Zph (G:GX g c k X) {p3:Pos} (ha:EV X g E a ra) (hb:EV X g E b rb) (hn:nst b=true) (hsup:Zdh a=true) (hline:(p3.endLine == pos.line)=true):EV X g E (.Call (.Attribute a "join" p3) [b] [] pos) (mtR .join ra rb):=by
 refine EV.of G (PE.mk fun pins s σ H Q I ⟨w,env,h,rr,re,q⟩=>?_) fun _=>rfl
 refine (pe_m1 F.slot_str_join F.type_str_join (ZlS (E:=E σ) G) ha.pe hb.pe (Zbw hn [] X.env) (ZcH hsup _ _) hline).run pins s σ H Q I ?_
 unfold mtR at q
 refine tE.step q rr re rfl fun w1 h1 H1 x v ext rr1 re1 rv q1=>?_
 cases x with
 |str s=>
  obtain⟨rfl,_⟩:=Za1.mp rv
  refine⟨⟨_,rfl⟩,tE.step q1 rr1 re1 rfl fun w2 h2 H2 y u ext2 rr2 re2 rv2 q2=>?_⟩
  exact⟨w2,h2,.str s,y,u,rr2,rv.ext ext2 _ _,rv2,rfl,q2⟩
 |_=>exact q1.elim
theorem Zmm (G:GX g c k X) {p3:Pos} (ha:EV X g E a ra) (hb:EV X g E b rb) (hn:nst b=true) (hsup:Zdh a=true) (hline:(p3.endLine == pos.line)=true):EV X g E (.Call (.Attribute a "split" p3) [b] [] pos) (mtR .split ra rb):=by
 refine EV.of G (PE.mk fun pins s σ H Q I ⟨w,env,h,rr,re,q⟩=>?_) fun _=>rfl
 refine (pe_m1 F.slot_str_split F.type_str_split (ZjW (E:=E σ) G) ha.pe hb.pe (Zbw hn [] X.env) (ZcH hsup _ _) hline).run pins s σ H Q I ?_
 unfold mtR at q
 refine tE.step q rr re rfl fun w1 h1 H1 x v ext rr1 re1 rv q1=>?_
 cases x with
 |str s=>
  obtain⟨rfl,_⟩:=Za1.mp rv
  refine⟨⟨_,rfl⟩,tE.step q1 rr1 re1 rfl fun w2 h2 H2 y u ext2 rr2 re2 rv2 q2=>?_⟩
  exact⟨w2,h2,.str s,y,u,rr2,rv.ext ext2 _ _,rv2,rfl,q2⟩
 |_=>exact q1.elim
theorem Zmn (G:GX g c k X) {p3:Pos} (ha:EV X g E a ra) (hb:EV X g E b rb) (hn:nst b=true) (hsup:Zdh a=true) (hline:(p3.endLine == pos.line)=true):EV X g E (.Call (.Attribute a "index" p3) [b] [] pos) (mtR .index ra rb):=by
 refine EV.of G (PE.mk fun pins s σ H Q I ⟨w,env,h,rr,re,q⟩=>?_) fun _=>rfl
 refine (pe_m1 F.slot_str_index F.type_str_index (ZjX (E:=E σ) G) ha.pe hb.pe (Zbw hn [] X.env) (ZcH hsup _ _) hline).run pins s σ H Q I ?_
 unfold mtR at q
 refine tE.step q rr re rfl fun w1 h1 H1 x v ext rr1 re1 rv q1=>?_
 cases x with
 |str s=>
  obtain⟨rfl,_⟩:=Za1.mp rv
  refine⟨⟨_,rfl⟩,tE.step q1 rr1 re1 rfl fun w2 h2 H2 y u ext2 rr2 re2 rv2 q2=>?_⟩
  exact⟨w2,h2,.str s,y,u,rr2,rv.ext ext2 _ _,rv2,rfl,q2⟩
 |_=>exact q1.elim
theorem Zky (G:GX g c k X) {p3:Pos} (ha:EV X g E a ra) (hb:EV X g E b rb) (hn:nst b=true) (hsup:Zdh a=true) (hline:(p3.endLine == pos.line)=true):EV X g E (.Call (.Attribute a "rstrip" p3) [b] [] pos) (mtR .rstrip ra rb):=by
 refine EV.of G (PE.mk fun pins s σ H Q I ⟨w,env,h,rr,re,q⟩=>?_) fun _=>rfl
 refine (pe_m1 F.slot_str_rstrip F.type_str_rstrip (ZiM (E:=E σ) G) ha.pe hb.pe (Zbw hn [] X.env) (ZcH hsup _ _) hline).run pins s σ H Q I ?_
 unfold mtR at q
 refine tE.step q rr re rfl fun w1 h1 H1 x v ext rr1 re1 rv q1=>?_
 cases x with
 |str s=>
  obtain⟨rfl,_⟩:=Za1.mp rv
  refine⟨⟨_,rfl⟩,tE.step q1 rr1 re1 rfl fun w2 h2 H2 y u ext2 rr2 re2 rv2 q2=>?_⟩
  exact⟨w2,h2,.str s,y,u,rr2,rv.ext ext2 _ _,rv2,rfl,q2⟩
 |_=>exact q1.elim
theorem Zkx (G:GX g c k X) {p3:Pos} (ha:EV X g E a ra) (hb:EV X g E b rb) (hn:nst b=true) (hsup:Zdh a=true) (hline:(p3.endLine == pos.line)=true):EV X g E (.Call (.Attribute a "startswith" p3) [b] [] pos) (mtR .starts ra rb):=by
 refine EV.of G (PE.mk fun pins s σ H Q I ⟨w,env,h,rr,re,q⟩=>?_) fun _=>rfl
 refine (pe_m1 F.slot_str_startswith F.type_str_startswith (ZiL (E:=E σ) G) ha.pe hb.pe (Zbw hn [] X.env) (ZcH hsup _ _) hline).run pins s σ H Q I ?_
 unfold mtR at q
 refine tE.step q rr re rfl fun w1 h1 H1 x v ext rr1 re1 rv q1=>?_
 cases x with
 |str s=>
  obtain⟨rfl,_⟩:=Za1.mp rv
  refine⟨⟨_,rfl⟩,tE.step q1 rr1 re1 rfl fun w2 h2 H2 y u ext2 rr2 re2 rv2 q2=>?_⟩
  exact⟨w2,h2,.str s,y,u,rr2,rv.ext ext2 _ _,rv2,rfl,q2⟩
 |_=>exact q1.elim
def mname:Mt→Str
 | .join=>"join" | .split=>"split" | .index=>"index" | .rstrip=>"rstrip" | .starts=>"startswith"
/-! ### methods of several values -/
theorem ZhP {l:List Expr} (h:ZdK l=true) {pos:Pos} {env:PySem.Env}:(backTo pos (starEach l env)).all (fun x=> !x.1)=true:=by
 induction l with
 |nil=>rfl
 |cons e l ih=>
  unfold ZdK at h
  rw[ZbA,Zaa] at h
  rw[Zbw h.1]
  show (true&&(backTo pos (starEach l env)).all (fun x=> !x.1))=true
  rw[ih h.2]
  rfl
def mmT:Mm→String
 | .append=>"list" | .insert=>"list" | .zfill=>"str" | .extend=>"list"
def mmN:Mm→Str
 | .append=>"append" | .insert=>"insert" | .zfill=>"zfill" | .extend=>"extend"
def mmI:Mm→String
 | .append=>"list.append" | .insert=>"list.insert" | .zfill=>"str.zfill" | .extend=>"list.extend"
theorem mm_pa (m:Mm):PlainAttrs (mmT m):=by cases m<;>first |exact F.plainAttrs_list |exact F.plainAttrs_str
theorem ZoK (m:Mm):Slot (mmT m) (mmN m) (mmI m):=by
 cases m
 ·exact F.slot_list_append
 ·exact F.slot_list_insert
 ·exact F.slot_str_zfill
 ·exact F.slot_list_extend
theorem mm_ty (m:Mm):typeOf (.builtin (mmI m))=pure (.type "method_descriptor"):=by
 cases m
 ·exact F.type_list_append
 ·exact F.type_list_insert
 ·exact F.type_str_zfill
 ·exact F.type_list_extend
def rMM (g:Gi) (E:XK) (m:Mm):V→List V→Hp→VK→Prop:=fun x xs H Q=>∃w h d l,RR g w h H∧RV g w h.nx d x∧RVs g w h.nx l xs∧Za4 g w h.nx (ZjZ m d l h) E (PV g Q)
theorem zf_S {c:Nat} {s:List Nat} {i:Int} (hc:48≤c∧c≤57) (h0:0≤i):Txt.zfill (stt (c::s)) i=stt (List.replicate (i.toNat - (s.length+1)) 48++c::s):=by
 have hl:(stt (c::s)).length=s.length+1:=by rw[Zbk]; rfl
 unfold Txt.zfill
 rw[hl]
 by_cases h:i≤((s.length+1:Nat):Int)
 ·rw[if_pos h,show i.toNat - (s.length+1)=0 by omega]
  rfl
 ·rw[if_neg h]
  refine TL.ext_tl ?_
  unfold zfilled
  have e0:(stt (c::s)).cps[0]? =some c:=by simp[stt]
  rw[e0]
  split
  ·rename_i z; cases z; omega
  ·rename_i z; cases z; omega
  ·unfold PySem.Builtin.Str.padded TL.tl stt
   simp
theorem ZoL (G:GX g c k X) (m:Mm) {EE:XK}:MtR X (mmI m) (rMM g EE m):=by
 cases m with
 |append=>
  refine MtR.cas fun x xs H Q ⟨w,h,d,l,rr,rd,rl,q⟩=>?_
  unfold ZjZ at q
  dsimp only at q
  split at q
  ·rename_i n y
   obtain⟨rfl,hm⟩:=Zb0.mp rd
   cases ec:h.cell n with
   |lst zs=>
    rw[ec] at q
    obtain⟨hl,q⟩:=Zbx q
    obtain⟨ys,q1,r1⟩:=ZbF rr hm ec
    obtain⟨v,vs,rfl,rv,rn⟩:=ZaQ.mp rl
    rw[Zbo.mp rn]
    refine⟨_,mt_append,_,ys,v,rfl,rfl,q1,by rw[r1.length,Zcy]; exact hl,?_⟩
    exact q w _ (Ext.refl _ _) (rr.store hm ec (r1.append (RVs.mk rv RVs.nil))) _ (ZdY.mpr rfl)
   |_=>rw[ec] at q; exact q.elim
  ·exact q.elim
 |insert=>
  refine MtR.cas fun x xs H Q ⟨w,h,d,l,rr,rd,rl,q⟩=>?_
  unfold ZjZ at q
  dsimp only at q
  split at q
  ·rename_i n i y
   obtain⟨rfl,hm⟩:=Zb0.mp rd
   cases ec:h.cell n with
   |lst zs=>
    rw[ec] at q
    obtain⟨⟨hl,h0,h1⟩,q⟩:=Zbx q
    obtain⟨ys,q1,r1⟩:=ZbF rr hm ec
    obtain⟨v,vs,rfl,rv,rn⟩:=ZaQ.mp rl
    obtain⟨v2,vs2,rfl,rv2,rn2⟩:=ZaQ.mp rn
    rw[Zbo.mp rn2,Za7.mp rv]
    refine⟨_,mt_insert,_,ys,i,v2,rfl,rfl,q1,by rw[r1.length,Zcy]; exact hl,h0,h1,?_⟩
    exact q w _ (Ext.refl _ _) (rr.store hm ec (((r1.take _).append (RVs.mk rv2 RVs.nil)).append (r1.drop _))) _ (ZdY.mpr rfl)
   |_=>rw[ec] at q; exact q.elim
  ·exact q.elim
 |extend=>
  refine MtR.cas fun x xs H Q ⟨w,h,d,l,rr,rd,rl,q⟩=>?_
  unfold ZjZ at q
  dsimp only at q
  split at q
  ·rename_i n zs2
   obtain⟨rfl,hm⟩:=Zb0.mp rd
   cases ec:h.cell n with
   |lst zs=>
    rw[ec] at q
    obtain⟨hl,q⟩:=Zbx q
    obtain⟨ys,q1,r1⟩:=ZbF rr hm ec
    obtain⟨v,vs,rfl,rv,rn⟩:=ZaQ.mp rl
    obtain⟨ob,xs2,rfl,f2,r2⟩:=Zbd.mp rv
    rw[Zbo.mp rn]
    refine⟨_,mt_extend,_,ob,ys,xs2,rfl,rfl,q1,rr.sub _ _ f2,by rw[r1.length,r2.length,Zcy]; omega,?_⟩
    exact q w _ (Ext.refl _ _) (rr.store hm ec (r1.append r2)) _ (ZdY.mpr rfl)
   |_=>rw[ec] at q; exact q.elim
  ·exact q.elim
 |zfill=>
  refine MtR.cas fun x xs H Q ⟨w,h,d,l,rr,rd,rl,q⟩=>?_
  unfold ZjZ at q
  dsimp only at q
  split at q
  ·rename_i c' s i
   obtain⟨rfl,ho⟩:=Za1.mp rd
   obtain⟨⟨hc,h0,h1⟩,q⟩:=Zbx q
   obtain⟨v,vs,rfl,rv,rn⟩:=ZaQ.mp rl
   rw[Zbo.mp rn,Za7.mp rv]
   refine⟨_,mt_zfill,stt (c'::s),i,rfl,rfl,?_,?_⟩
   ·have hp:∀j:Nat,j≤1000→PadOk (j:Int)=true:=fun j hj=>by
     unfold PadOk fitsSsize PySem.Builtin.Str.tooLong
     simp
     refine⟨by omega,?_⟩
     first
      |omega
      |(have:(1000:Nat)≤sizeLine:=by decide
        omega)
    have z:=hp i.toNat (by omega)
    rwa [Zhu h0] at z
   ·rw[zf_S hc h0]
    refine Zba q rr (Za1.mpr ⟨rfl,Zdo ?_ ho⟩)
    unfold okS
    rw[Zaj]
    intro x hx
    rw[List.eq_of_mem_replicate hx]
    rfl
  ·exact q.elim
theorem ev_mm (G:GX g c k X) (m:Mm) {p3:Pos} {rs:Run (List D)} (ha:EV X g E a ra) {e0:Expr} {es0:List Expr} (hb:PA X (e0::es0) (tEs g E rs)) (hn:ZdK (e0::es0)=true) (hfew:(e0::es0).length < 30) (hsup:Zdh a=true) (hline:(p3.endLine == pos.line)=true):
  EV X g E (.Call (.Attribute a (mmN m) p3) (e0::es0) [] pos) (fun env h=>(ra env h).bind fun x h=>if Zlb m x h then (rs env h).bind fun l h=>ZjZ m x l h else .stuck):=by
 have hn1:nst e0=true∧ZdK es0=true:=by
  unfold ZdK at hn
  rw[ZbA,Zaa] at hn
  exact hn
 refine EV.of G (PE.mk fun pins s σ H Q I ⟨w,env,h,rr,re,q⟩=>?_) fun _=>rfl
 refine (pe_bm (mm_pa m) (ZoK m) (mm_ty m) (ZoL (EE:=E σ) G m) ha.pe hb (ZcH hsup _ _) ?_ hline (Zbw hn1.1 _ _) (Zd9 hn1.2 _ _)).run pins s σ H Q I ?_
 ·rw[ZhP hn]
  show (true&&true&&decide ((e0::es0).length+0+0 < 30))=true
  rw[ZaJ (show (e0::es0).length+0+0 < 30 by omega)]
  rfl
 ·refine tE.step q rr re rfl fun w1 h1 H1 x v ext rr1 re1 rv q1=>?_
  cases hm:Zlb m x h1 with
  |false=>rw[hm] at q1; exact q1.elim
  |true=>
   rw[hm] at q1
   simp only[if_true] at q1
   refine⟨?_,tEs.step q1 rr1 re1 rfl fun w2 h2 H2 l vs ext2 rr2 re2 rv2 q2=>⟨w2,h2,x,l,rr2,rv.ext ext2 _ _,rv2,q2⟩⟩
   have lst:Zlb .append x h1=true→tyV X.K "list" v H1:=fun hm=>by
    clear q1
    cases x with
    |ref n=>
     obtain⟨rfl,hn⟩:=Zb0.mp rv
     unfold Zlb at hm
     dsimp only at hm
     cases ec:h1.cell n with
     |lst zs=>
      obtain⟨ys,q3,_⟩:=ZbF rr1 hn ec
      exact .inl ⟨rfl,ys,SqL.of q3⟩
     |_=>rw[ec] at hm; cases hm
    |_=>cases hm
   cases m with
   |append=>exact lst hm
   |insert=>exact lst hm
   |extend=>exact lst hm
   |zfill=>
    cases x with
    |str z=>rw[(Za1.mp rv).1]; exact (rfl:mmT .zfill="str")
    |_=>cases hm
end
end Rk
/-! Rk.H:calls of the text's defs. -/
namespace Rk
open PySem PySem.Spec PyProof.Rows L2
structure Zcf (k:Nat) (A:Around):Prop where
 dp:A.depth+3 * k+5 < recursionLimit
 un:A.units+16 * k+200 < cLine
 gd:A.guards=some []
theorem Zcf.deeper {k:Nat} {A:Around} (r:Zcf (k+1) A) (env:PySem.Env):Zcf k (A.deeper env):=
 ⟨by have:=r.dp; show A.depth+1+3 * k+5 < _; omega,by have:=r.un; show A.units+3+16 * k+200 < _; omega,r.gd⟩
theorem Zcf.mono {j k:Nat} {A:Around} (r:Zcf k A) (h:j≤k):Zcf j A:=⟨by have:=r.dp; omega,by have:=r.un; omega,r.gd⟩
theorem GX.room {g:Gi} {c:Bool} {k:Nat} {X:Cx} (G:GX g c k X):Zcf k X.A:=⟨G.dp,G.un,G.gd⟩
def Zfd (z:Bool) (X:Cx) (W:L2.WX):Prop:=match z with
 |true=>L2N.Takes X W
 |false=>L2.Takes X W
def CXZ (z:Bool) (P:Program) (w:World):CXT:=match z with
 |true=>L2N.CX P w
 |false=>L2.CX P w
structure FnG (z:Bool) (P:Program) (w:World) (K:PySem.W.Frag) (mg:Str→Option Value) (base:Heap) (k:Nat) (c:Bool) (f:Addr) (fd:FuncData) (ps:List Str) (sp:Sp):Prop where
 runB:∀(A:Around) (outer:List PySem.Env) (s:Shared) (H:Hp) (args:Args) (Q:VK) (E:XK) (G:List V→Hp→Prop),Zcf k A→(c=true→A.handled=none)→Env0 P w K mg base A outer s H→
  StX.Bnd (CXZ z P w) P w K mg base fd args ps A outer s H E G→(∀vs H2,G vs H2→sp vs H2 Q E)→codeAny (model P w) A (.call (.ref f) args) (CR (CXZ z P w) outer P w H s Q E) s
theorem FnG.run {z:Bool} {P:Program} {w:World} {K:PySem.W.Frag} {mg:Str→Option Value} {base:Heap} {k:Nat} {c:Bool} {f:Addr} {fd:FuncData} {ps:List Str} {sp:Sp} (F:FnG z P w K mg base k c f fd ps sp):
  ∀(A:Around) (outer:List PySem.Env) (s:Shared) (H:Hp) (args:Args) (us:List Value) (vs:List V) (Q:VK) (E:XK),Zcf k A→(c=true→A.handled=none)→Env0 P w K mg base A outer s H→vs.length=ps.length→BindsTo s fd args (ps.zip us)→Vals vs us→sp vs H Q E→
  codeAny (model P w) A (.call (.ref f) args) (CR (CXZ z P w) outer P w H s Q E) s:=fun A outer s H args us vs Q E room calm e0 hl hb rel hsp=>
 F.runB A outer s H args Q E (fun xs H2=>xs=vs∧H2=H) room calm e0 (fun A' Ex Q' h=>hb _ _ _ _ (h s H vs us e0 Un.refl rfl (fun _ _ z=>z) rel hl ⟨rfl,rfl⟩)) fun xs H2 ⟨e1,e2⟩=>by subst e1; subst e2; exact hsp
theorem Zep {α β:Type} {R:α→β→Prop}:∀{sel:List Nat} {xs:List α} {us:List β} {vs:List α},Paired R xs us→ZbU sel xs=some vs→∃ws,ZbU sel us=some ws∧Paired R vs ws
 |[],xs,us,vs,r,h=>by cases h; exact⟨[],rfl,.nil⟩
 |i::sel,xs,us,vs,r,h=>by
  unfold ZbU at h
  split at h
  ·rename_i d s h1 h2
   cases h
   obtain⟨ws,e,rw'⟩:=Zep r h2
   have hu:∃u,us[i]? =some u∧R d u:=by
    clear h2 e rw'
    induction r generalizing i with
    |nil=>simp at h1
    |cons r1 r2 ih=>
     cases i with
     |zero=>simp at h1; subst h1; exact⟨_,rfl,r1⟩
     |succ i=>simpa using ih i (by simpa using h1)
   obtain⟨u,hu,ru⟩:=hu
   refine⟨u::ws,?_,.cons ru rw'⟩
   unfold ZbU
   rw[hu,e]
  ·cases h
theorem ZhM {g:Gi} {w:Wd} {n:Nat}:∀{sel:List Nat} {l:List D} {xs:List V} {m:List D},RVs g w n l xs→ZbU sel l=some m→∃ys,ZbU sel xs=some ys∧RVs g w n m ys
 |[],l,xs,m,r,h=>by cases h; exact⟨[],rfl,RVs.nil⟩
 |i::sel,l,xs,m,r,h=>by
  unfold ZbU at h
  split at h
  ·rename_i d s h1 h2
   cases h
   obtain⟨ys,e,rw'⟩:=ZhM r h2
   obtain⟨y,hy,ry⟩:=r.get h1
   refine⟨y::ys,?_,RVs.mk ry rw'⟩
   unfold ZbU
   rw[hy,e]
  ·cases h
theorem Zhy {xs ys:List V} {us ws:List Value} (a:Vals xs us) (b:Vals ys ws):Vals (xs++ys) (us++ws):=Vals.append a b
structure KB (g:Gi) (f n:Nat) (ks:List Str) (sel:List Nat):Prop where
 bind:∃ds:List Value,Vals (g.fdv f) ds∧∀(s:Shared) (us ws vs:List Value),g.K.In s.heap→us.length=n→ws.length=ks.length→ZbU sel (us++ws++ds)=some vs→BindsTo s (g.fd f) ⟨us,ks.zip ws⟩ ((g.fps f).zip vs)
section
variable {X:Cx} {g:Gi} {z c:Bool} {k:Nat} {E:SX'} {e a b d:Expr} {pos p1 p2:Pos} {es:List Expr} {rs rk:Run (List D)}
theorem Zos {fa:Addr} {fd:FuncData} {ps:List Str} {sp:Sp} {pins:List (Addr × Obj)} {σ:L2.St} {H:Hp} {s:Shared} {Q:VK} {us ws zs:List Value} {vs:List V} {ks:List Str} (G:GX g c k X) (F:FnG z X.prog X.w X.K X.mg X.base k c fa fd ps sp)
  (tk:Zfd z X (fun cls d σ H=>E σ cls d H)) (I:Inv X pins σ H s) (hl:vs.length=ps.length) (hb:BindsTo s fd ⟨us,ks.zip ws⟩ (ps.zip zs)) (r:Vals vs zs) (h:sp vs H Q (E σ)):
  wpAny (model X.prog X.w) X.A (call (.ref fa) us (ks.zip ws)) (EP X pins σ Q) X.xe s:=by
 refine wpAny_call (codeAny_mono (F.run X.A X.stack s H ⟨us,ks.zip ws⟩ zs vs Q (E σ) G.room (fun hc=>I.ok.hd (G.calm hc)) I.env0 hl hb r h) fun r s' hq=>?_)
 cases r with
 |error e=>
  cases z with
  |true=>exact tk e s' (L2N.XE.of_call I (fun cls d H' h=>h) hq)
  |false=>exact tk e s' (L2.XE.of_call I (fun cls d H' h=>h) hq)
 |ok fl=>
  cases fl with
  |ret u=>exact I.after hq
  |next=>exact False.elim hq
  |brk=>exact False.elim hq
  |cont=>exact False.elim hq
def calR (call:Cl) (dfl:List D) (c:Bool) (f:Nat) (sel:List Nat) (rs rk:Run (List D)):Run D:=fun env h=>(rs env h).bind fun l h=>(rk env h).bind fun m h=>match ZbU sel (l++m++dfl) with
  |some vs=>call.f c f vs h
  |none=>.stuck
theorem ZhN {α:Type}:∀{sel:List Nat} {l b m:List α},ZbU sel l=some m→ZbU sel (l++b)=some m
 |[],l,b,m,h=>by cases h; rfl
 |i::sel,l,b,m,h=>by
  unfold ZbU at h
  split at h
  ·rename_i d s h1 h2
   cases h
   unfold ZbU
   rw[Zbe (Zay.mp h1).choose,h1,ZhN h2]
  ·cases h
def DfV (g:Gi) (dfl:List D) (fdv:List V):Prop:=∃a b,fdv=a++b∧∀w n,RVs g w n dfl a
theorem DfV.pick {g:Gi} {w:Wd} {n:Nat} {dfl:List D} {fdv:List V} {sel:List Nat} {L vs:List D} {XS:List V} (hd:DfV g dfl fdv) (r:RVs g w n L XS) (hp:ZbU sel (L++dfl)=some vs):∃zs,ZbU sel (XS++fdv)=some zs∧RVs g w n vs zs:=by
 obtain⟨a,b,rfl,h⟩:=hd
 obtain⟨ys,e,r'⟩:=ZhM (r.append (h w n)) hp
 exact⟨ys,by rw[← ZbH]; exact ZhN e,r'⟩
theorem Zmx {pins:List (Addr × Obj)} {σ:L2.St} {H:Hp} {s:Shared} {Q:VK} {call':Cl} {f n:Nat} {dfl:List D} {ks:List Str} {sel:List Nat} {w:Wd} {h:AH} {l m:List D} {xs ys:List V} {us ws:List Value}
  (G:GX g c k X) (F:FnG z X.prog X.w X.K X.mg X.base k c (g.fa f) (g.fd f) (g.fps f) (spF g call' c f)) (hb:KB g f n ks sel) (hps:(g.fps f).length=sel.length) (hd:DfV g dfl (g.fdv f)) (tk:Zfd z X (fun cls d σ H=>E σ cls d H))
  (I:Inv X pins σ H s) (rr:RR g w h H) (r1:RVs g w h.nx l xs) (r2:RVs g w h.nx m ys) (v1:Vals xs us) (v2:Vals ys ws) (hn:us.length=n) (hk:ws.length=ks.length)
  (q:Za4 g w h.nx (match ZbU sel (l++m++dfl) with
   |some vs=>call'.f c f vs h
   |none=>.stuck) (E σ) (PV g Q)):
  wpAny (model X.prog X.w) X.A (PySem.call (.ref (g.fa f)) us (ks.zip ws)) (EP X pins σ Q) X.xe s:=by
 cases hp:ZbU sel (l++m++dfl) with
 |none=>rw[hp] at q; exact q.elim
 |some vs=>
  rw[hp] at q
  obtain⟨ds,vd,hbind⟩:=hb.bind
  obtain⟨zs,hz,rz⟩:=hd.pick (r1.append r2) hp
  obtain⟨bs,hbs,rb⟩:=Zep (Zhy (Zhy v1 v2) vd) hz
  have hlen:∀{α:Type} {sel:List Nat} {l:List α} {r:List α},ZbU sel l=some r→r.length=sel.length:=by
   intro α sel
   induction sel with
   |nil=>intro l r h; cases h; rfl
   |cons i sel ih=>
    intro l r h
    unfold ZbU at h
    split at h
    ·rename_i d s h1 h2
     cases h
     rw[Zae,Zae,ih h2]
    ·cases h
  exact Zos G F tk I (by rw[hlen hz,hps]) (hbind s us ws bs (G.K ▸ I.kIn) hn hk hbs) rb ⟨w,vs,h,rr,rz,q⟩
theorem ev_cal (G:GX g c k X) {x:Str} {call':Cl} {f:Nat} {dfl:List D} {ks:List Str} {sel:List Nat} {kws:List Keyword}
  (F:FnG z X.prog X.w X.K X.mg X.base k c (g.fa f) (g.fd f) (g.fps f) (spF g call' c f)) (hg:Gl X x) (hm:X.mg x=some (.ref (g.fa f))) (hkp:PySem.W.keepIn X.K (.ref (g.fa f))=true) (hdb:(x == ("__debug__":Str))=false)
  (hb:KB g f es.length ks sel) (hps:(g.fps f).length=sel.length) (hd:DfV g dfl (g.fdv f)) (tk:Zfd z X (fun cls d σ H=>E σ cls d H))
  (hn:ZdK es=true) (hk:kwn kws=some ks) (ha:PA X es (tEs g E rs)) (hkw:PK X kws (tEs g E rk)) (h0:es=[]→∀env h,rs env h=.ok [] h) (hl1:∀env h l h',rs env h=.ok l h'→l.length=es.length) (hl2:∀env h l h',rk env h=.ok l h'→l.length=ks.length):
  EV X g E (.Call (.Name x p1) es kws pos) (calR call' dfl c f sel rs rk):=by
 obtain⟨k1,k2,k3⟩:=Zm7 (pos:=pos) (env:=X.env) hk
 refine EV.of G (PE.mk fun pins s σ H Q I ⟨w,env,h,rr,re,q⟩=>?_) fun _=>rfl
 refine wpAny_Call_Name_kw (ld_glob I hg hm ?_ hdb)
 unfold calR at q
 have hpl:((backTo pos (starEach es X.env)).any (·.1)||(backToKw pos (keywordEach kws X.env)).any (·.1.isNone))=false:=by rw[Zd9 hn,k3]; rfl
 have tail:∀(us:List Value) (s1:Shared) (xs:List V) (H1:Hp),Inv X pins σ H1 s1→Vals xs us→us.length=es.length→(∃w1 h1 l,RR g w1 h1 H1∧RE g w1 h1.nx env σ∧RVs g w1 h1.nx l xs∧Za4 g w1 h1.nx ((rk env h1).bind fun m h=>match ZbU sel (l++m++dfl) with
   |some vs=>call'.f c f vs h
   |none=>.stuck) (E σ) (PV g Q))→
   wpAny (model X.prog X.w) X.A (evalAll ((backToKw pos (keywordEach kws X.env)).map (·.2))) (fun ws s₂=>X.K.In s₂.heap∧wpAny (model X.prog X.w) X.A (PySem.call (.ref (g.fa f)) ([]++us) (((backToKw pos (keywordEach kws X.env)).filterMap (·.1)).zip ws)) (EP X pins σ Q) X.xe s₂) X.xe s1:=by
  rintro us s1 xs H1 I1 v1 hlu ⟨w1,h1,l,rr1,re1,rvs,q1⟩
  cases hrk:rk env h1 with
  |stuck=>rw[hrk] at q1; exact q1.elim
  |_=>
   refine thn (hkw.run pos pins s1 σ H1 (fun ys H2=>ys.length=ks.length∧∃w2 h2 m,RR g w2 h2 H2∧RVs g w2 h2.nx l xs∧RVs g w2 h2.nx m ys∧Za4 g w2 h2.nx (match ZbU sel (l++m++dfl) with
    |some vs=>call'.f c f vs h2
    |none=>.stuck) (E σ) (PV g Q)) I1 ?_) fun ws s2 ⟨ys,H2,I2,v2,e2,w2,h2,m,rr2,r1,r2,q2⟩=>⟨I2.kIn,?_⟩
   ·refine⟨w1,env,h1,rr1,re1,?_⟩
    have q1:=q1.bind
    cases hrk:rk env h1 with
    |ok m h2=>
     rw[hrk] at q1
     exact fun w2 H2 ext rr2 ys rv=>⟨by rw[rv.length]; exact hl2 _ _ _ _ hrk,w2,h2,m,rr2,rvs.ext ext,rv,q1 w2 H2 ext rr2⟩
    |exc x h2=>rw[hrk] at q1; exact q1
    |stuck=>rw[hrk] at q1; exact q1
   ·rw[k2,ZaG]
    exact Zmx G F hb hps hd tk I2 rr2 r1 r2 v1 v2 hlu (by rw[← v2.length]; exact e2) q2
 cases es with
 |nil=>
  refine PySem.W.callWith_KW0 (h₀:=X.base) I.ok.mod.kin hkp k1 ?_ hpl
  rw[h0 rfl,bind_ok] at q
  exact tail [] s [] H I .nil rfl ⟨w,h,[],rr,re,RVs.nil,q⟩
 |cons e es=>
  have hn1:nst e=true:=by unfold ZdK at hn; rw[ZbA,Zaa] at hn; exact hn.1
  refine PySem.W.callWith_KW (h₀:=X.base) I.ok.mod.kin hkp k1 (thn (ha.run pos pins s σ H (fun xs H1=>xs.length=(e::es).length∧∃w1 h1 l,RR g w1 h1 H1∧RE g w1 h1.nx env σ∧RVs g w1 h1.nx l xs∧Za4 g w1 h1.nx ((rk env h1).bind fun m h=>match ZbU sel (l++m++dfl) with
   |some vs=>call'.f c f vs h
   |none=>.stuck) (E σ) (PV g Q)) I ⟨w,env,h,rr,re,?_⟩) fun us s1 ⟨xs,H1,I1,v1,e1,q1⟩=>tail us s1 xs H1 I1 v1 (by rw[← v1.length]; exact e1) q1) hpl (Zbw hn1 _ _)
  have q0:=q.bind
  cases hr:rs env h with
  |ok l h1=>
   rw[hr] at q0
   exact fun w1 H1 ext rr1 xs rv=>⟨by rw[rv.length]; exact hl1 _ _ _ _ hr,w1,h1,l,rr1,re.ext ext,rv,q0 w1 H1 ext rr1⟩
  |exc x h1=>rw[hr] at q0; exact q0
  |stuck=>rw[hr] at q0; exact q0
end
end Rk
/-! Rk.W:an error class of the program called. -/
namespace Rk
open PySem PySem.Spec PyProof.Rows PySem.W PySem.Calls
open PySem.Builtin PySem.Builtin.ObjectAttr
section
variable {prog:Program} {w:World} {A:Around} {E:Value→Shared→Prop} {R:Result→Shared→Prop} {hp:Heap} {g:Array GenState} {d:Drawn} {t:Nat} {os:OsState}
variable {B:String} {bmB:List Value} {K:PySem.W.Frag} {C x:Addr}
theorem xs_new {name:Str} {tk:Tok} {v:Value} {fv:Array Value} {cd:ClassData} (SF:StoreFacts B bmB "object.__setattr__" "object")
  (X:K.In hp) (hx:hp.get? x=some {cls:=.ref C,data:=.fields fv}) (ho:excOver K C bmB=true) (ht:takerIn K C name=some none) (hcd:PySem.W.clsIn K C=some cd) (hh:cd.hasDict=true)
  (hq:∀h' tk' dx,(∀b o,b≠x→hp.get? b=some o→h'.get? b=some o)→hp.objs.size≤dx→dx≠x→h'.get? x=some {cls:=.ref C,dict:=some dx,data:=.fields fv}→
   h'.Ns1 dx (fun y=>if y=name then some v else none)→R (.ok (.ret .none)) ⟨h',g,d,tk',os⟩):
  codeAny (model prog w) A (.call (.builtin "object.__setattr__") ⟨[.ref x,.str name tk,v],[]⟩) R ⟨hp,g,d,t,os⟩:=by
 have I:PySem.W.InstAt hp x {cls:=.ref C,data:=.fields fv} C none:=⟨hx,rfl,rfl,trivial⟩
 have hxs:x≠hp.objs.size:=Zbg (Heap.lt_size hx)
 refine osa_openX (s:=⟨hp,g,d,t,os⟩) SF X I ho ht fun b=>?_
 have hcls:PySem.W.Looks (model prog w) hp (classData C) cd:=PySem.W.looks_clsIn X hcd
 obtain⟨nm,bs,mro,ns,qn,hd,sn,sb,ab,col,del⟩:=cd
 dsimp only at hh
 subst hh
 dsimp only
 unfold storeInOwnDict ownDictForStores
 repeat (first |with_reducible refine HandSPX.store_in_new ?_ ?_ |with_reducible refine wpAny_loadPart_at hx ?_ |with_reducible refine hcls.at ?_ |wp_step)
 ·exact⟨_,#[],_,(Heap.get?_update_ne _ _ _ _ hxs.symm).trans (Heap.get?_push_at rfl rfl),rfl,fun e he=>absurd he (by simp),fun _=>rfl⟩
 ·intro h' tk' hn' hs
  have hx₁:(hp.push {cls:=.type "dict",data:=.dict #[]}).get? x=some {cls:=.ref C,data:=.fields fv}:=Heap.get?_push_of_some _ hx
  refine hq h' tk' hp.objs.size (fun b o hb ho=>?_) (Zai _) hxs.symm ?_ hn'
  ·exact (hs.2 b (Zbg (Heap.lt_size ho))).trans ((Heap.get?_update_ne _ _ _ _ hb).trans (Heap.get?_push_of_some _ ho))
  ·exact (hs.2 x hxs).trans (Heap.get?_update_self _ hx₁ rfl)
theorem xs_old {name:Str} {tk:Tok} {v:Value} {dx:Addr} {fv:Array Value} {cd:ClassData} {m0:Str→Option Value} {nl:List Str} (SF:StoreFacts B bmB "object.__setattr__" "object")
  (X:K.In hp) (hx:hp.get? x=some {cls:=.ref C,dict:=some dx,data:=.fields fv}) (hns:hp.Ns1 dx m0) (hw:Within m0 nl) (hz:nl.length≤1000) (ho:excOver K C bmB=true) (ht:takerIn K C name=some none) (hcd:PySem.W.clsIn K C=some cd) (hh:cd.hasDict=true)
  (hq:∀h' tk',(∀b o,b≠dx→hp.get? b=some o→h'.get? b=some o)→h'.Ns1 dx (fun y=>if y=name then some v else m0 y)→R (.ok (.ret .none)) ⟨h',g,d,tk',os⟩):
  codeAny (model prog w) A (.call (.builtin "object.__setattr__") ⟨[.ref x,.str name tk,v],[]⟩) R ⟨hp,g,d,t,os⟩:=by
 obtain⟨oD,esD,epD,hoD,hdD,_⟩:=hns.count hw
 have I:PySem.W.InstAt hp x {cls:=.ref C,dict:=some dx,data:=.fields fv} C (some oD):=⟨hx,rfl,rfl,hoD⟩
 refine osa_openX (s:=⟨hp,g,d,t,os⟩) SF X I ho ht fun b=>?_
 have hcls:PySem.W.Looks (model prog w) hp (classData C) cd:=PySem.W.looks_clsIn X hcd
 obtain⟨nm,bs,mro,ns,qn,hd,sn,sb,ab,col,del⟩:=cd
 dsimp only at hh
 subst hh
 dsimp only
 unfold storeInOwnDict ownDictForStores
 repeat (first |with_reducible refine PySem.OEX.store_in_old hns hw hz ?_ |with_reducible refine wpAny_loadPart_at hx ?_ |with_reducible refine hcls.at ?_ |wp_step)
 intro h' tk' hn' hs
 exact hq h' tk' (fun b o hb ho=>(hs.2 b hb).trans ho) hn'
end
/-! ### the class's __init__ -/
def Zli:List Stmt→Option (Str × Option Str)
 |[.Expr (.Call (.Attribute (.Call (.Name s _) [] [] _) i p2) [.Constant (.str c1) _ _] [] p4) _,.Assign [.Attribute (.Name s1 _) cd _] (.Constant (.str c2) _ _) _]=>
  if s=("super":Str)∧i=("__init__":Str)∧s1=("self":Str)∧cd=("code":Str)∧c1=c2∧p2.endLine=p4.line then some (c2,none) else none
 |[.Expr (.Call (.Attribute (.Call (.Name s _) [] [] _) i p2) [.Constant (.str c1) _ _] [] p4) _,.Assign [.Attribute (.Name s1 _) cd _] (.Constant (.str c2) _ _) _,.Assign [.Attribute (.Name s2 _) f1 _] (.Name f2 _) _]=>
  if s=("super":Str)∧i=("__init__":Str)∧s1=("self":Str)∧s2=("self":Str)∧cd=("code":Str)∧c1=c2∧f1=f2∧f1≠("self":Str)∧f1≠("code":Str)∧f1≠("__debug__":Str)∧p2.endLine=p4.line then some (c2,some f1) else none
 |_=>none
structure ExB (B newId initId:String) (bmB:List Value):Prop where
 FB:ExcBaseFacts B newId initId bmB
 SF:StoreFacts B bmB "object.__setattr__" "object"
 KF:KxsFacts B initId
structure ZnN (prog:Program) (K:PySem.W.Frag) (C fI:Addr) (code:Str) (fld:Option Str):Prop where
 base:∃B newId initId bmB,ExB B newId initId bmB∧excInitIn K C bmB newId=true∧excOver K C bmB=true∧ks_superIn K C C "__init__"=some (some (.builtin initId))∧subIn K (.ref C) (.type B)=some true
 iC:findIn K (.ref C) "__init__"=some (some (.ref fI))
 tI:typeIn K (.ref fI)=some (.type "function")
 fn:∃(oc:Value) (od:Option Addr) (osl:Array (Option Value)) (qual:Str) (params:Arguments) (body:List Stmt) (scope:Scope) (kV doc pm:Value) (an:Option Addr) (cda cc:Addr) (ct:Value) (ocd:Value) (odd:Option Addr) (vs:Array Value) (osd:Array (Option Value)) (file:Str) (tf:Tok) (cl:Value) (cld:Option Addr) (csl:Array (Option Value)),
  K.lookup fI=some ⟨oc,od,.func (ksFn "__init__" qual params body scope .none kV doc pm an (.ref cda) ct cc),osl⟩∧codeIn K (.ref cda) qual=true∧K.lookup cda=some ⟨ocd,odd,.fields vs,osd⟩∧vs[2]? =some (.str file tf)∧((prog.main.file:Str) == file)=true∧K.lookup cc=some ⟨cl,cld,.cell (some (.ref C)),csl⟩∧
  (prog.main.scope.names.lookup ("super":Str)).isSome=false∧scope.names.lookup ("super":Str)=some .globalImplicit∧scope.names.lookup ("__class__":Str)=some .free∧scope.names.lookup ("self":Str)=some .local∧scope.kind=.function∧scope.isCoroutine=false∧scope.isGenerator=false∧(∀x∈scope.names,x.2≠ .cell)∧
  Zli body=some (code,fld)∧(∃ar,(params.posonlyargs++params.args).head? =some ar∧ar.arg=("self":Str))∧(∀f,fld=some f→scope.names.lookup f=some .local∧∀u v:Value,bindArgs (ksFn "__init__" qual params body scope .none kV doc pm an (.ref cda) ct cc) ⟨[u,v],[]⟩=pure [(("self":Str),u),(f,v)])∧
  (fld=none→∀u:Value,bindArgs (ksFn "__init__" qual params body scope .none kV doc pm an (.ref cda) ct cc) ⟨[u],[]⟩=pure [(("self":Str),u)])
 nsS:nsIn K mainGlobals "super"=some none
 opq:nsIn K cStatics "thirdparty.any"=some none
 tkC:takerIn K C "code"=some none
 tkF:∀f,fld=some f→takerIn K C f=some none
 cls:∃cd,clsIn K C=some cd∧cd.hasDict=true
 mro:mroIn K C (.ref C)=some true
 sa:findIn K (.ref C) "__setattr__"=some (some (.builtin "object.__setattr__"))
section
variable {prog:Program} {w:World} {A:Around} {R:Result→Shared→Prop} {hp:Heap} {g:Array GenState} {d:Drawn} {t:Nat} {os:OsState}
variable {K:PySem.W.Frag} {C e fI t0:Addr} {code:Str} {mg:Str→Option Value}
abbrev exO (C t1:Addr) (d:Option Addr):Obj:={cls:=.ref C,dict:=d,data:=.fields #[.ref t1,.none,.none,.none,.bool false,.none]}
theorem ZoM {o:Expr} {name:Str} {apos pos:Pos} {a1:Expr} {env:PySem.Env} (hl:(apos.endLine == pos.line)=true) (h1:starEach [a1] env=[(false,eval a1 env)]:=by rfl):eval (.Call (.Attribute o name apos) [a1] [] pos) env=(do
   let ov ← attributeBase o name env (eval o env)
   standAt apos.atName
   let (f,first) ← holding [ov] (getMethod ov name (do return (← importBound o env).getD true))
   callWith pos f first (backTo pos (starEach [a1] env)) []):=by
 have e:eval (.Call (.Attribute o name apos) [a1] [] pos) env=(do
   let ov ← attributeBase o name env (eval o env)
   standAt apos.atName
   methodCall o name apos pos env ov 1 (backTo pos (starEach [a1] env)) []):=rfl
 rw[e]
 unfold methodCall methodCallPos calleeOf
 rw[h1]
 have e2:methodCallForm 1 (backTo pos [(false,eval a1 env)]) []=true:=rfl
 simp only[e2,hl,ZaM,Bool.or_true,if_true,pure_bind]
theorem Zgx {qual:Str} {scope:Scope} {L cda cc:Addr} {body rest:List Stmt} {fld:Option Str} {m:Str→Option Value} {p0 p1 p2 p3 p4 p5:Pos} {j:Nat} {E:Value→Shared→Prop} {Q:Flow→Shared→Prop} (XI:ZnN prog K C fI code fld)
  {oc:Value} {od:Option Addr} {osl:Array (Option Value)} {params:Arguments} {kV doc pm ct:Value} {an:Option Addr} {ocd:Value} {odd:Option Addr} {vs:Array Value} {osd:Array (Option Value)} {file:Str} {tf:Tok} {cl:Value} {cld:Option Addr} {csl:Array (Option Value)} {ar:Arg}
  (lk:K.lookup fI=some ⟨oc,od,.func (ksFn "__init__" qual params body scope .none kV doc pm an (.ref cda) ct cc),osl⟩) (hcode:K.lookup cda=some ⟨ocd,odd,.fields vs,osd⟩) (hvs:vs[2]? =some (.str file tf)) (hfile:((prog.main.file:Str) == file)=true)
  (hcell:K.lookup cc=some ⟨cl,cld,.cell (some (.ref C)),csl⟩) (htop:(prog.main.scope.names.lookup ("super":Str)).isSome=false) (hks:scope.names.lookup ("super":Str)=some .globalImplicit) (hkc:scope.names.lookup ("__class__":Str)=some .free) (hka:scope.names.lookup ("self":Str)=some .local) (hk:scope.kind=.function)
  (hp':(params.posonlyargs++params.args).head? =some ar) (har:ar.arg=("self":Str)) (KX:K.In hp) (glob:hp.Ns mainGlobals mg) (blt:∃mb,hp.Ns builtinsNs mb∧∀x:Str,x≠"__name__"→mb x=bootBuiltins x)
  (hl24:(p2.endLine == p4.line)=true) (hns:hp.Ns L m) (hv:m "self"=some (.ref e)) (he:hp.get? e=some (exO C t0 none))
  (h:∀h' tk t1,(∀b o,b≠e→hp.get? b=some o→h'.get? b=some o)→h'.get? e=some (exO C t1 none)→wpAny (model prog w) A (execs rest (ksEnv qual scope L fI (.ref cda) cc)) Q E ⟨h',g,d,tk,os⟩):
  PySem.wpAt (model prog w) A (.func body (ksEnv qual scope L fI (.ref cda) cc)) (execs (.Expr (.Call (.Attribute (.Call (.Name "super" p0) [] [] p1) "__init__" p2) [.Constant (.str code) j p3] [] p4) p5::rest) (ksEnv qual scope L fI (.ref cda) cc)) Q E ⟨hp,g,d,t,os⟩:=by
 obtain⟨B,newId,initId,bmB,XB,q,ov,hm,hB⟩:=XI.base
 obtain⟨mb,bns,bb⟩:=blt
 obtain⟨cd,hD,hhd⟩:=XI.cls
 obtain⟨oD,hD1,hD2⟩:∃oD,hp.get? C=some oD∧oD.data=.cls cd:=by
  unfold clsIn at hD
  split at hD
  ·rename_i c d cd' sl ho
   cases hD
   exact⟨_,KX _ _ ho,rfl⟩
  ·cases hD
 have hno:∀c:ClassData,(exO C t0 none).data≠ .cls c:=fun c z=>nomatch z
 refine ks_wpAt_execs_cons (ks_wpAt_Expr_any (ks_wpAt_MethodCall (pl:=do return (← importBound (.Call (.Name "super" p0) [] [] p1) (ksEnv qual scope L fI (.ref cda) cc)).getD true) ?_ (ZoM hl24)) (by unfold PySem.interactive; rw[show (ksEnv qual scope L fI (.ref cda) cc).scope.kind=.function from hk]; rfl))
 refine ks_wpAt_super_base (env:=ksEnv qual scope L fI (.ref cda) cc) hks hkc (by decide) rfl (KX _ _ lk) rfl hp' rfl (KX _ _ hcode) rfl hvs hfile htop ?_
 refine ks_loadName_global hk hks (loadGlobal_builtin (env:=ksEnv qual scope L fI (.ref cda) cc) glob (mg_none_of KX glob XI.nsS) bns ((bb _ (by decide+kernel)).trans (by decide+kernel:bootBuiltins "super"=some (.type "super"))) ⟨rfl,?_⟩)
 refine wpAny_loadName_free hk hkc rfl ⟨_,KX _ _ hcell,rfl⟩ ?_
 rw[har]
 refine wpAny_loadName_local hk hka hns hv ?_
 refine ks_wpAny_isType_cls hD1 hD2 ⟨rfl,?_⟩
 refine ks_wpAny_call_super hD1 hD2 he rfl hno (looks_mroIn KX XI.mro) (fun h1 e1 k1=>?_)
 have KX1:K.In h1:=KX.keeps k1
 have he1:=k1 _ _ he
 have I1:PySem.W.InstAt h1 e (exO C t0 none) C none:=⟨he1,rfl,rfl,trivial⟩
 have hI:PySem.W.Looks (model prog w) h1 (isInstance (.ref e) (.type B)) true:=I1.type.andThen (looks_subIn KX1 hB)
 have hm':=hm
 unfold ks_superIn at hm'
 rw[hD] at hm'
 refine kxs_getMethod XB.KF e1 (looks_opaque KX1 XI.opq) (l₀:=cd.mro) ?_ rfl KX1 hm' hI (ks_ne KX1 I1 hD) (by decide) ?_
 ·exact fun A Q E s k q=>wpAny_bind ((looks_clsIn KX1 hD) A _ E s k (wpAny_pure q))
 ·have hu:(h1.push (kxs_mw initId e)).get? h1.objs.size=some (kxs_mw initId e):=Heap.get?_push_at rfl rfl
  have k2:∀b o,h1.get? b=some o→(h1.push (kxs_mw initId e)).get? b=some o:=fun b o z=>Heap.get?_push_of_some _ z
  refine kxs_callWith (i:=initId) (x:=e) rfl (evalArgs_plain (spliced_cons ?_))
  show wpAny _ _ (eval (.Constant (.str code) j p3) (ksEnv qual scope L fI (.ref cda) cc)) _ _ _
  refine Constant_str (spliced_nil ⟨hu,?_⟩)
  obtain⟨nm,N',qn,bs,bm,hdct,sn,sub,ab,col,dd,k0,k1',k2',k3,k5,hC,hT⟩:=excInit_of (KX1.keeps k2) q
  refine wpAny_call (codeAny_of_tree ?_)
  show wpAny _ A.in1 (callAny (.ref h1.objs.size) _) _ _ _
  simp only[callAny]
  refine wpAny_bind (wpAny_load hu ?_)
  simp only[kxs_mw,show (Value.type "method-wrapper" == Value.type "method"||Value.type "method-wrapper" == Value.type "builtin_function_or_method"||Value.type "method-wrapper" == Value.type "method-wrapper")=true by decide,if_true]
  refine KFB.if_so (by decide) ?_
  refine wpAny_bind (check_bound_init XB.FB.toExcCallFacts hC (k2 _ _ he1) rfl ?_)
  refine wpAny_bind (wpAny_pure (wpAny_pure ?_))
  refine⟨plainId_quiet XB.FB.init.plain _,codeAny_builtin XB.FB.initEntry ?_⟩
  refine exc_init_tree (cls:=.ref C) (t0:=t0) (dv:=none) (c2:=.none) (c3:=.none) (b4:=.bool false) (k2 _ _ he1) (by rw[sizeLine_eq]; exact (by decide:1≤16777216)) fun h3 k3 e3 t3=>?_
  exact wpAt_of_wpAny (h h3 _ _ (fun b o hb z=>k3 b o hb (k2 b o (k1 b o z))) e3)
abbrev xNs (fld:Option Str) (ut uc:Value):Str→Option Value:=fun y=>if fld=some y then some ut else if y="code" then some uc else none
theorem Zml {fld:Option Str} {us:List Value} (XI:ZnN prog K C fI code fld) (hus:fld=none∧us=[]∨∃f u,fld=some f∧us=[u]) (hroom:A.depth < recursionLimit) (hKe:K.lookup e=none)
  (KX:K.In hp) (glob:hp.Ns mainGlobals mg) (blt:∃mb,hp.Ns builtinsNs mb∧∀x:Str,x≠"__name__"→mb x=bootBuiltins x) (lim:hp.NoLimit) (he:hp.get? e=some (exO C t0 none))
  (hq:∀(h':Heap) (tk':Nat) (t1 dx:Addr) (tc:Tok),(∀b o,b≠e→hp.get? b=some o→h'.get? b=some o)→hp.objs.size≤dx→h'.get? e=some (exO C t1 (some dx))→h'.Ns1 dx (xNs fld (us.headD .none) (.str code tc))→R (.ok (.ret .none)) ⟨h',g,d,tk',os⟩):
  codeAny (model prog w) A (.call (.ref fI) ⟨.ref e::us,[]⟩) R ⟨hp,g,d,t,os⟩:=by
 obtain⟨oc,od,osl,qual,params,body,scope,kV,doc,pm,an,cda,cc,ct,ocd,odd,vs,osd,file,tf,cl,cld,csl,lk,hcd,hcode,hvs,hfile,hcell,htop,hks,hkc,hka,hk,hco,hgen,hnc,hx,⟨ar,hpar,har⟩,hb1,hb0⟩:=XI.fn
 obtain⟨B,newId,initId,bmB,XB,q,ov,hm,hB⟩:=XI.base
 obtain⟨cd,hD,hhd⟩:=XI.cls
 have lt:e < hp.objs.size:=Heap.lt_size he
 have neL:hp.objs.size≠e:=Zf0 lt
 have go:∀(binds:List (Str × Value)) (mm:Str→Option Value),BindsTo ⟨hp,g,d,t,os⟩ (ksFn "__init__" qual params body scope .none kV doc pm an (.ref cda) ct cc) ⟨.ref e::us,[]⟩ binds→(∀y∈binds,scope.names.lookup y.1=some .local)→(fun x=>binds.reverse.lookup x)=mm→mm "self"=some (.ref e)→(∀f u,fld=some f→us=[u]→mm f=some u∧scope.names.lookup f=some .local)→
   codeAny (model prog w) A (.call (.ref fI) ⟨.ref e::us,[]⟩) R ⟨hp,g,d,t,os⟩:=by
  intro binds mm hbind hloc em h1 h2
  refine ks_codeAny_call_defAt (fd:=ksFn "__init__" qual params body scope .none kV doc pm an (.ref cda) ct cc) (body:=body) (binds:=binds) hroom (KX _ _ lk) rfl lim (codeRec_of KX hcd) rfl hbind hnc hloc (fun h₁ hns hk₁=>?_) hco hgen hk
  show PySem.wpAt _ _ (.func body (ksEnv qual scope hp.objs.size fI (.ref cda) cc)) (execs body (ksEnv qual scope hp.objs.size fI (.ref cda) cc)) _ _ _
  rw[em] at hns
  have hns:h₁.Ns hp.objs.size mm:=hns
  have keepK:∀h':Heap,(∀b o,b≠e→h₁.get? b=some o→h'.get? b=some o)→K.In h':=fun h' k' b o z=>k' b o (fun y=>by rw[y,hKe] at z; cases z) (hk₁ b o (KX b o z))
  have keepN:∀h':Heap,(∀b o,b≠e→h₁.get? b=some o→h'.get? b=some o)→h'.Ns hp.objs.size mm:=fun h' k'=>by
   obtain⟨o,es,ep,e1,e2,e3⟩:=hns
   exact⟨o,es,ep,k' _ _ neL e1,e2,e3⟩
  -- behind super().__init__:the field code
  have tail:∀(rest:List Stmt) {p6 p7 p8 p9:Pos} {j2:Nat} {Q:Flow→Shared→Prop} {E:Value→Shared→Prop} (h':Heap) (tk:Nat) (t1:Addr),(∀b o,b≠e→h₁.get? b=some o→h'.get? b=some o)→h'.get? e=some (exO C t1 none)→
    (∀(h2:Heap) (tk2:Nat) (dx:Addr),(∀b o,b≠e→h₁.get? b=some o→h2.get? b=some o)→hp.objs.size≤dx→dx≠e→dx≠hp.objs.size→h₁.get? dx=none→h2.get? e=some (exO C t1 (some dx))→h2.Ns1 dx (fun y=>if y="code" then some (.str code tk) else none)→
     wpAny (model prog w) (A.deeper (ksEnv qual scope hp.objs.size fI (.ref cda) cc)) (execs rest (ksEnv qual scope hp.objs.size fI (.ref cda) cc)) Q E ⟨h2,g,d,tk2,os⟩)→
    wpAny (model prog w) (A.deeper (ksEnv qual scope hp.objs.size fI (.ref cda) cc)) (execs (.Assign [.Attribute (.Name "self" p6) "code" p7] (.Constant (.str code) j2 p8) p9::rest) (ksEnv qual scope hp.objs.size fI (.ref cda) cc)) Q E ⟨h',g,d,tk,os⟩:=by
   intro rest p6 p7 p8 p9 j2 Q E h' tk t1 k' e' hrest
   refine wpAny_execs_cons (plainObj_wpAny_Assign_Attribute (Constant_str ?_))
   refine wpAny_Name (wpAny_loadName_local hk hka (keepN h' k') h1 ?_)
   have sz:∀b o,h₁.get? b=some o→b < h'.objs.size:=fun b o z=>by
    by_cases hb:b=e
    ·rw[hb]; exact Heap.lt_size e'
    ·exact Heap.lt_size (k' b o hb z)
   have hL:hp.objs.size < h'.objs.size:=by
    obtain⟨o,es,ep,e1,_⟩:=hns
    exact sz _ _ e1
   refine set_plain (keepK h' k') (ox:=exO C t1 none) (od:=none) ⟨e',rfl,rfl,trivial⟩ XI.sa ?_
   refine xs_new XB.SF (keepK h' k') e' ov XI.tkC hD hhd fun h2 tk2 dx k2 hdx hne he2 hn2=>?_
   refine hrest h2 tk2 dx (fun b o hb z=>k2 b o hb (k' b o hb z)) (ZaI (Nat.le_of_lt hL) hdx) hne (Zf0 (ZaT hL hdx)) ?_ he2 hn2
   cases z:h₁.get? dx with
   |none=>rfl
   |some o=>exact absurd (ZaT (sz _ _ z) hdx) (Nat.lt_irrefl _)
  unfold Zli at hx
  split at hx
  ·rename_i s0 p0 p1 i2 p2 c1 j1 p3 p4 p5 s1 p6 cd0 p7 c2 j2 p8 p9
   split at hx
   ·rename_i hc
    obtain⟨rfl,rfl,rfl,rfl,rfl,hl⟩:=hc
    have hx:=Option.some.inj hx
    have e1:c1=code:=congrArg Prod.fst hx
    have e2:(none:Option Str)=fld:=congrArg Prod.snd hx
    subst e1; subst e2
    refine Zgx XI lk hcode hvs hfile hcell htop hks hkc hka hk hpar har (KX.keeps hk₁) (glob.keeps hk₁) ?_ (by rw[hl]; exact ZaB _) hns h1 (hk₁ _ _ he) fun h' tk t1 k' e'=>?_
    ·obtain⟨mb,b1,b2⟩:=blt
     exact⟨mb,b1.keeps hk₁,b2⟩
    ·refine tail [] h' tk t1 k' e' fun h2 tk2 dx k2 d1 d2 d3 d4 he2 hn2=>wpAny_execs_nil ?_
     refine hq h2 tk2 t1 dx tk (fun b o hb z=>k2 b o hb (hk₁ b o z)) d1 he2 ?_
     have:xNs none (us.headD .none) (Value.str c1 tk)=fun y:Str=>if y="code" then some (Value.str c1 tk) else none:=by
      funext y
      show (if (none:Option Str)=some y then _ else _)=_
      rw[if_neg (by simp)]
     rw[this]
     exact hn2
   ·cases hx
  ·rename_i s0 p0 p1 i2 p2 c1 j1 p3 p4 p5 s1 p6 cd0 p7 c2 j2 p8 p9 s2 p10 f1 p11 f2 p12 p13
   split at hx
   ·rename_i hc
    obtain⟨rfl,rfl,rfl,rfl,rfl,rfl,rfl,n1,n2,n3,hl⟩:=hc
    have hx:=Option.some.inj hx
    have e1:c1=code:=congrArg Prod.fst hx
    have e2:some f1=fld:=congrArg Prod.snd hx
    subst e1; subst e2
    obtain⟨f,u,ef,rfl⟩:=hus.resolve_left fun z=>nomatch z.1
    cases ef
    obtain⟨hf,hfl⟩:=h2 f1 u rfl rfl
    refine Zgx XI lk hcode hvs hfile hcell htop hks hkc hka hk hpar har (KX.keeps hk₁) (glob.keeps hk₁) ?_ (by rw[hl]; exact ZaB _) hns h1 (hk₁ _ _ he) fun h' tk t1 k' e'=>?_
    ·obtain⟨mb,b1,b2⟩:=blt
     exact⟨mb,b1.keeps hk₁,b2⟩
    ·refine tail _ h' tk t1 k' e' fun h2 tk2 dx k2 d1 d2 d3 d4 he2 hn2=>?_
     refine wpAny_execs_cons (plainObj_wpAny_Assign_Attribute ?_)
     refine wpAny_Name (wpAny_loadName_local hk hfl (keepN h2 k2) hf ?_) (by rw[ZaU]; exact n3)
     refine wpAny_Name (wpAny_loadName_local hk hka (keepN h2 k2) h1 ?_)
     obtain⟨oD,esD,epD,hoD,hdD,_⟩:=hn2.count (Within.cons "code" (.str c1 tk) Within.nil)
     refine set_plain (keepK h2 k2) (ox:=exO C t1 (some dx)) (od:=some oD) ⟨he2,rfl,rfl,hoD⟩ XI.sa ?_
     refine xs_old XB.SF (keepK h2 k2) he2 hn2 (Within.cons "code" (.str c1 tk) Within.nil) (by simp) ov (XI.tkF f1 rfl) hD hhd fun h3 tk3 k3 hn3=>wpAny_execs_nil ?_
     refine hq h3 tk3 t1 dx tk (fun b o hb z=>?_) d1 (k3 _ _ (Ne.symm d2) he2) ?_
     ·have:b≠dx:=fun y=>by
       rw[y] at z
       rw[hk₁ _ _ z] at d4
       cases d4
      exact k3 b o this (k2 b o hb (hk₁ b o z))
     ·have:xNs (some f1) u (Value.str c1 tk)=fun y:Str=>if y=f1 then some u else if y="code" then some (Value.str c1 tk) else none:=by
       funext y
       show (if some f1=some y then _ else _)=_
       by_cases hy:y=f1
       ·subst hy; rw[if_pos rfl,if_pos rfl]
       ·rw[if_neg hy,if_neg fun z=>hy (Option.some.inj z).symm]
      show h3.Ns1 dx (xNs (some f1) u (.str c1 tk))
      rw[this]
      exact hn3
   ·cases hx
  ·cases hx
 rcases hus with⟨rfl,rfl⟩ |⟨f,u,rfl,rfl⟩
 ·refine go [("self",.ref e)] (fun x=>if x="self" then some (.ref e) else none) (.of_eq (hb0 rfl _)) ?_ ?_ (if_pos rfl) (fun f u h=>nomatch h)
  ·intro y hy
   rw[Zar.mp hy]
   exact hka
  ·funext x
   by_cases hx:x="self"
   ·subst hx; rfl
   ·have:(x == ("self":Str))=false:=by rw[ZaU]; exact hx
    simp[List.lookup,this,hx]
 ·obtain⟨l1,l2⟩:=hb1 f rfl
  have nf:f≠("self":Str):=by
   unfold Zli at hx
   split at hx
   ·split at hx
    ·cases Option.some.inj hx
    ·cases hx
   ·split at hx
    ·rename_i hc
     obtain⟨_,_,_,_,_,_,rfl,n1,_⟩:=hc
     have e2:some _=some f:=congrArg Prod.snd (Option.some.inj hx)
     cases e2
     exact n1
    ·cases hx
   ·cases hx
  refine go [("self",.ref e),(f,u)] (fun x=>if x=f then some u else if x="self" then some (.ref e) else none) (.of_eq (l2 _ _)) ?_ ?_ ?_ (fun f' u' h1 h2=>?_)
  ·intro y hy
   rcases Zak.mp hy with rfl |hy
   ·exact hka
   ·rw[Zar.mp hy]
    exact l1
  ·funext x
   by_cases hx:x=f
   ·subst hx
    simp[List.lookup]
   ·have t1:(x == f)=false:=by rw[ZaU]; exact hx
    by_cases hx2:x="self"
    ·subst hx2
     simp[List.lookup,t1,hx]
    ·have t2:(x == ("self":Str))=false:=by rw[ZaU]; exact hx2
     simp[List.lookup,t1,t2,hx,hx2]
  ·show (if (("self":Str)=f) then _ else _)=_
   rw[if_neg (Ne.symm nf),if_pos rfl]
  ·cases h1; cases h2
   exact⟨if_pos rfl,l1⟩
end
end Rk
/-! Rk.X:exceptions made and raised. -/
namespace Rk
open PySem PySem.Spec PyProof.Rows L2
section
variable {X:Cx} {es:List Expr} {p pos:Pos} {x:Str} {code:Str} {fld:Option Str} {C fI:Addr}
def xFs (code:Str) (fld:Option Str) (vs:List V):List (Str × V):=("code",.str code)::(match fld,vs with
 |some f,[v]=>[(f,v)]
 |_,_=>[])
def xAr (fld:Option Str) (vs:List V):Prop:=match fld with
 |none=>vs=[]
 |some _=>∃v,vs=[v]
def tMkX (C:Addr) (code:Str) (fld:Option Str) (ta:TA):L2.St→Hp→XK→Prop:=fun σ H Q=>ta σ H fun vs H1=>xAr fld vs∧∀d,H1 d=none→Q (.ref C) (some d) (upd H1 d (.xd (xFs code fld vs)))
theorem ZnP {vs:List V} {us:List Value} {tc:Tok} (hn:∀f,fld=some f→f≠("code":Str)) (r:Vals vs us) (ha:xAr fld vs):∀y,RelO ((xFs code fld vs).lookup y) (xNs fld (us.headD .none) (.str code tc) y):=by
 intro y
 unfold xAr at ha
 cases fld with
 |none=>
  show RelO ((((("code":Str),V.str code))::([]:List (Str × V))).lookup y) _
  rw[lookup_put]
  show RelO (if y="code" then some (V.str code) else none) (if (none:Option Str)=some y then _ else _)
  rw[if_neg (fun z:(none:Option Str)=some y=>nomatch z)]
  by_cases h:y="code"
  ·rw[if_pos h,if_pos h]; exact⟨tc,rfl⟩
  ·rw[if_neg h,if_neg h]; trivial
 |some f=>
  obtain⟨v,rfl⟩:=ha
  cases r with
  |cons ry rt=>
   cases rt
   have nf:=hn f rfl
   show RelO (((("code":Str),V.str code)::[(f,v)]).lookup y) (if some f=some y then some _ else _)
   rw[lookup_put,lookup_put]
   by_cases h:y=f
   ·subst h
    rw[if_neg nf,if_pos rfl,if_pos rfl]
    exact ry
   ·rw[if_neg (fun z=>h (Option.some.inj z).symm),if_neg h]
    by_cases h2:y="code"
    ·rw[if_pos h2,if_pos h2]; exact⟨tc,rfl⟩
    ·rw[if_neg h2,if_neg h2]; trivial
theorem x_end {pins:List (Addr × Obj)} {σ:L2.St} {H1:Hp} {Q:XK} {s:Shared} {vs:List V} {us:List Value} (I1:Inv X pins σ H1 s) (XI:ZnN X.prog X.K C fI code fld) (hr:X.A.depth+2 < recursionLimit) (hn:∀f,fld=some f→f≠("code":Str)) (r:Vals vs us) (ha:xAr fld vs)
  (hsub:PySem.W.subIn X.K (.ref C) (.type "BaseException")=some true) (hty:PySem.W.typeIn X.K (.ref C)=some (.type "type"))
  (q:∀d,H1 d=none→Q (.ref C) (some d) (upd H1 d (.xd (xFs code fld vs)))):
  wpAny (model X.prog X.w) X.A (PySem.call (.ref C) us) (fun u s'=>L2N.MkP X pins σ Q u s'∧L2H.Six u s') X.xe s:=by
 obtain⟨B,newId,initId,bmB,XB,hq,ov,hm,hB⟩:=XI.base
 obtain⟨nm,N',qn,bs,bm,hdct,sn,sub,ab,col,dd,k0,k1,k2,k3,k5,hC,hT⟩:=PySem.W.excInit_of I1.kIn hq
 have hus:fld=none∧us=[]∨∃f u,fld=some f∧us=[u]:=by
  unfold xAr at ha
  cases fld with
  |none=>subst ha; cases r; exact .inl ⟨rfl,rfl⟩
  |some f=>
   obtain⟨v,rfl⟩:=ha
   cases r with
   |cons ry rt=>cases rt; exact .inr ⟨f,_,rfl,rfl⟩
 have hlen:us.length≤sizeLine:=by
  rw[sizeLine_eq]
  rcases hus with⟨_,rfl⟩ |⟨_,_,_,rfl⟩<;>simp
 obtain⟨hp,g,dr,tk,os⟩:=s
 have kk:∀b o,hp.get? b=some o→((hp.push (PySem.W.kdv_tup us)).push (PySem.HandSPX.excO C hp.objs.size)).get? b=some o:=fun b o e=>Heap.get?_push_of_some _ (Heap.get?_push_of_some _ e)
 have hget:((hp.push (PySem.W.kdv_tup us)).push (PySem.HandSPX.excO C hp.objs.size)).get? (hp.objs.size+1)=some (PySem.HandSPX.excO C hp.objs.size):=by heap_get
 have hKe:X.K.lookup (hp.objs.size+1)=none:=by
  cases z:X.K.lookup (hp.objs.size+1) with
  |none=>rfl
  |some o=>
   have:=Heap.lt_size (I1.kIn _ _ z)
   exact absurd this (by show ¬hp.objs.size+1 < hp.objs.size; omega)
 have glob:hp.Ns mainGlobals X.mg:=I1.mod.glob.keeps I1.bk
 obtain⟨mb,hmb,hbb⟩:=I1.mod.blt
 have blt:hp.Ns builtinsNs mb:=hmb.keeps I1.bk
 refine wpAny_call (PySem.HandSPX.call_own XB.FB hT hC (PySem.W.looks_findIn I1.kIn XI.iC) (fun self=>PySem.W.bind_fn I1.kIn self XI.tI) hlen ?_)
 refine Zml (t0:=hp.objs.size) XI hus (by rw[make_depth]; show X.A.depth+1 < _; omega) hKe (I1.kIn.keeps kk) (glob.keeps kk) ⟨mb,blt.keeps kk,hbb⟩ (I1.nolimit.keeps kk) hget fun h' tk' t1 dx tc k' hdx he' hn'=>?_
 have hsz:((hp.push (PySem.W.kdv_tup us)).push (PySem.HandSPX.excO C hp.objs.size)).objs.size=hp.objs.size+2:=by rw[Heap.size_push,Heap.size_push]
 have hdx:hp.objs.size+2≤dx:=hsz ▸ hdx
 have ksz:hp.objs.size≤dx:=by omega
 have nea:∀{b:Addr} {o:Obj},hp.get? b=some o→b≠hp.objs.size+1:=fun {b o} z=>Zbg (Zcl (Heap.lt_size z))
 have kh:∀b o,hp.get? b=some o→h'.get? b=some o:=fun b o z=>k' b o (nea z) (kk b o z)
 have nda:dx≠hp.objs.size+1:=Zf0 hdx
 obtain⟨G,g1,g2⟩:=L2.restrict h' fun b=>decide (b≠hp.objs.size+1)
 have gk:∀b,b≠hp.objs.size+1→G.get? b=h'.get? b:=fun b hb=>g1 b (ZaJ hb)
 have ge:G.get? (hp.objs.size+1)=none:=g2 _ (by simp)
 have J:Inv X pins σ (upd H1 dx (.xd (xFs code fld vs))) ⟨G,g,dr,tk',os⟩:=I1.laid (t':=tk') (h':=G) (fun b u z=>by rw[gk b (nea z)]; exact kh b u z) ksz (by
  refine⟨_,hn'.at fun o z=>(gk dx nda).trans z,?_⟩
  exact ZnP hn r ha)
 have hH1:H1 dx=none:=I1.hok.fresh ksz
 have na:upd H1 dx (.xd (xFs code fld vs)) (hp.objs.size+1)=none:=by
  rw[upd_ne (Ne.symm nda)]
  exact I1.hok.fresh (ZbE _)
 refine⟨rfl,⟨hp.objs.size+1,_,_,⟨G,g,dr,tk',os⟩,_,.ref C,some dx,rfl,J,fun b o z=>?_,ge,he',⟨rfl,rfl,fun vs hv=>?_⟩,rfl,rfl,na,rfl,I1.bare,raises_own hsub hty,q dx hH1⟩,fun a oe vs ea2 hg2 hd2=>?_⟩
 ·by_cases hb:b=hp.objs.size+1
  ·rw[hb,ge] at z; cases z
  ·exact (gk b hb).symm.trans z
 ·cases hv; rfl
 ·cases ea2
  have hg3:h'.get? (hp.objs.size+1)=some oe:=hg2
  rw[he'] at hg3
  cases hg3
  cases hd2
  show (4:Nat) < 6
  decide
theorem ZmZ {ta:TA} (XI:ZnN X.prog X.K C fI code fld) (hr:X.A.depth+2 < recursionLimit) (hn:∀f,fld=some f→f≠("code":Str)) (hsub:PySem.W.subIn X.K (.ref C) (.type "BaseException")=some true) (hty:PySem.W.typeIn X.K (.ref C)=some (.type "type"))
  (hk:PySem.W.keepIn X.K (.ref C)=true) (hg:Gl X x) (hm:X.mg x=some (.ref C)) (hdb:(x == ("__debug__":Str))=false) (ha:PA X es ta) (hns:ZdK es=true) (h0:es=[]→∀σ H Q,ta σ H Q→Q [] H):
  L2H.PMk5 X (.Call (.Name x p) es [] pos) (tMkX C code fld ta):=by
 intro pins s σ H Q I h
 refine wpAny_Call_Name_kw (ld_glob I hg hm ?_ hdb)
 cases es with
 |nil=>
  obtain⟨h1,h2⟩:=h0 rfl _ _ _ h
  refine PySem.W.callWith_KW0 (h₀:=X.base) I.ok.mod.kin hk rfl (wpAny_pure ⟨I.kIn,?_⟩)
  exact x_end I XI hr hn .nil h1 hsub hty h2
 |cons e es=>
  have hn1:nst e=true∧ZdK es=true:=by
   unfold ZdK at hns
   rw[ZbA,Zaa] at hns
   exact hns
  refine PySem.W.callWith_K (h₀:=X.base) I.ok.mod.kin hk (thn (ha.run pos pins s σ H _ I h) fun us s1 ⟨vs,H1,I1,r1,h1,h2⟩=>⟨I1.kIn,?_⟩) (Zbw hn1.1 _ _) (Zd9 hn1.2 _ _)
  exact x_end I1 XI hr hn r1 h1 hsub hty h2
theorem pmk_n {e:Expr} {t:L2.St→Hp→XK→Prop} (h:L2N.PMk X e t):L2.PMk X e t:=fun pins s σ H Q I q=>thn (h pins s σ H Q I q) fun _ _ ⟨a,oe,vs,sI,H',cls,d,h1,h2,h3,h4,h5,h6,h7⟩=>⟨a,oe,vs,sI,H',cls,d,h1,h2,h3,h4,h5,h6.zc,h7⟩
end
end Rk
/-! Rk.Y:try with one clause. -/
namespace Rk
open PySem PySem.Spec PyProof.Rows L2
section
end
section
end
end Rk
/-! Rk.Z:lambdas made. -/
namespace Rk
open PySem PySem.Spec PyProof.Rows L2
structure LamK (X:Cx) (g:Gi):Prop where
 ex:∃c P,X.env.code=.ref c∧(P,X.env.qual++"<lambda>")∈g.tabs∧(∀p∈g.tabs,p.1=P→p.2=X.env.qual++"<lambda>")∧LamX.TabB X.base X.mg c P
 cells:g.cells=X.env.cells
 qual:g.qual=X.env.qual
section
end
end Rk
/-! Rk.En:enumerate over a tuple. -/
namespace Rk
open PySem PySem.Spec PyProof.Rows L2
section
end
section
end
end Rk
/-! Rk.Es:enumerate over a text. -/
namespace Rk
open PySem PySem.Spec PyProof.Rows L2
section
end
end Rk
/-! Rk.I:what loops walk; targets; comprehensions. -/
namespace Rk
open PySem PySem.Spec PyProof.Rows L2
structure Zff (g:Gi) (J:L2.It) (w0:Wd) (n0:Nat) (s:Src):Prop where
 it:∀w h H i d,Zdi w0 n0 w h.nx→RR g w h H→s.get i h=some (some d)→J.go i H∧∀x H',J.yld i H x H'→∃w',Ext w h.nx w' h.nx∧RR g w' h H'∧RV g w' h.nx d x
 stop:∀w h H i,Zdi w0 n0 w h.nx→RR g w h H→s.get i h=some none→J.stop i H
section
variable {g:Gi} {w0:Wd} {n0:Nat} {K:PySem.W.Frag} {a:Addr}
theorem RVs.none {w:Wd} {n:Nat} {l:List D} {xs:List V} {i:Nat} (r:RVs g w n l xs) (h:l[i]? =none):xs.length≤i:=by
 rw[r.length]
 exact Zcv.mp h
theorem ZiE {l:List D} {xs:List V} (r:RVs g w0 n0 l xs) (hq:∀w h H,Zdi w0 n0 w h.nx→RR g w h H→SqL K H a xs):Zff g (Itl K a) w0 n0 (.fix l):=by
 refine⟨fun w h H i d ext rr e=>?_,fun w h H i ext rr e=>?_⟩
 ·have e:l[i]? =some d:=Option.some.inj e
  obtain⟨x,hx,rx⟩:=r.get e
  refine⟨⟨xs,x,hq w h H ext rr,hx⟩,fun x' H' y=>?_⟩
  obtain⟨e1,y⟩:=y
  subst e1
  have:=y xs (hq w h _ ext rr)
  rw[hx] at this
  cases this
  exact⟨w,Ext.refl _ _,rr,RV.extF ext _ _ rx⟩
 ·exact⟨xs,hq w h H ext rr,r.none (Option.some.inj e)⟩
theorem Ze1 {l:List D} {xs:List V} (r:RVs g w0 n0 l xs) (hq:∀w h H,Zdi w0 n0 w h.nx→RR g w h H→SqT K H a xs):Zff g (Itt K a) w0 n0 (.fix l):=by
 refine⟨fun w h H i d ext rr e=>?_,fun w h H i ext rr e=>?_⟩
 ·have e:l[i]? =some d:=Option.some.inj e
  obtain⟨x,hx,rx⟩:=r.get e
  refine⟨⟨xs,x,hq w h H ext rr,hx⟩,fun x' H' y=>?_⟩
  obtain⟨e1,y⟩:=y
  subst e1
  have:=y xs (hq w h _ ext rr)
  rw[hx] at this
  cases this
  exact⟨w,Ext.refl _ _,rr,RV.extF ext _ _ rx⟩
 ·exact⟨xs,hq w h H ext rr,r.none (Option.some.inj e)⟩
theorem ZiC {s:List Nat} (hs:okS s=true):Zff g (Its (stt s)) w0 n0 (.fix (s.map fun c=>.str [c])):=by
 refine⟨fun w h H i d ext rr e=>?_,fun w h H i ext rr e=>?_⟩
 ·have e:(s.map fun c=>D.str [c])[i]? =some d:=Option.some.inj e
  rw[ZaK] at e
  obtain⟨c,hc,rfl⟩:=Zan.mp e
  have hi:i < s.length:=(Zay.mp hc).1
  refine⟨by show i < s.toArray.size; simpa using hi,fun x' H' y=>?_⟩
  obtain⟨e1,c',hc',e2⟩:=y
  subst e1 e2
  have hc':s[i]? =some c':=by simpa [stt] using hc'
  rw[hc] at hc'
  cases hc'
  exact⟨w,Ext.refl _ _,rr,Za1.mpr ⟨rfl,ZjO hs hc⟩⟩
 ·have e:(s.map fun c=>D.str [c])[i]? =none:=Option.some.inj e
  have:=Zcv.mp e
  show s.toArray.size≤i
  simpa using this
theorem Zgj (i j:Int):(Zcm i j).length=(j - i).toNat:=by unfold Zcm; rw[Zac,Zby]
theorem ZiD {i j:Int}:Zff g (Itr i (j - i).toNat) w0 n0 (.fix (Zcm i j)):=by
 refine⟨fun w h H k d ext rr e=>?_,fun w h H k ext rr e=>?_⟩
 ·have e:(Zcm i j)[k]? =some d:=Option.some.inj e
  have hk:k < (Zcm i j).length:=(Zay.mp e).1
  rw[Zgj] at hk
  refine⟨hk,fun x' H' y=>?_⟩
  obtain⟨e1,e2⟩:=y
  subst e1 e2
  refine⟨w,Ext.refl _ _,rr,?_⟩
  unfold Zcm at e
  rw[ZaK,List.getElem?_range hk] at e
  cases e
  exact Za7.mpr rfl
 ·have e:(Zcm i j)[k]? =none:=Option.some.inj e
  have:=Zcv.mp e
  rw[Zgj] at this
  exact this
theorem Zid {m i:Nat} {h:AH} {o:Option D} (e:(Src.cell m).get i h=some o):∃l,h.cell m=.lst l∧l[i]? =o:=by
 have e:(match h.cell m with
  | .lst l=>some l[i]?
  |_=>none)=some o:=e
 cases ec:h.cell m with
 |lst l=>rw[ec] at e; exact⟨l,rfl,Option.some.inj e⟩
 |_=>rw[ec] at e; cases e
theorem ZgV {m:Nat} (hm:m < n0):Zff g (Itl K (w0.m m)) w0 n0 (.cell m):=by
 refine⟨fun w h H i d ext rr e=>?_,fun w h H i ext rr e=>?_⟩
 ·obtain⟨l,ec,e⟩:=Zid e
  obtain⟨xs,q1,r1⟩:=ZbF rr (ZaT hm ext.le) ec
  rw[ext.m m hm] at q1
  obtain⟨x,hx,rx⟩:=r1.get e
  refine⟨⟨xs,x,SqL.of q1,hx⟩,fun x' H' y=>?_⟩
  obtain⟨e1,y⟩:=y
  subst e1
  have:=y xs (SqL.of q1)
  rw[hx] at this
  cases this
  exact⟨w,Ext.refl _ _,rr,rx⟩
 ·obtain⟨l,ec,e⟩:=Zid e
  obtain⟨xs,q1,r1⟩:=ZbF rr (ZaT hm ext.le) ec
  rw[ext.m m hm] at q1
  exact⟨xs,SqL.of q1,r1.none e⟩
end
theorem PI.cas {X:Cx} {tg iter:Expr} {wi:TI} (h:∀σ H R,wi σ H R→∃wi',PI X tg iter wi'∧wi' σ H R):PI X tg iter wi:=⟨fun pins s σ H R I q=>by
 obtain⟨wi',o,q'⟩:=h σ H R q
 exact o.run pins s σ H R I q'⟩
def tI (g:Gi) (X:SX') (run:Run Src):TI:=fun σ H R=>∃w env h,RR g w h H∧RE g w h.nx env σ∧Za4 g w h.nx (run env h) (X σ) (fun w1 h1 H1 src=>∀J,Zff g J w1 h1.nx src→R J H1)
section
variable {X:Cx} {g:Gi} {c:Bool} {k:Nat} {E:SX'} {e a b d tg iter:Expr} {pos:Pos} {run ra rb rd:Run D}
theorem lst_sq {K:PySem.W.Frag} {w0:Wd} {n0:Nat} {a:Addr} {xs:List V} (q:w0.F a=some (.lst xs)):∀(w:Wd) (h:AH) (H:Hp),Zdi w0 n0 w h.nx→RR g w h H→SqL K H a xs:=fun w h H ext rr=>SqL.of (rr.sub _ _ (ext.F _ _ q))
theorem Zof {m:Nat} {h:AH} {s:Src} (e:Zlw (.ref m) h=some s):∃l,h.cell m=.lst l∧s=.cell m:=by
 have e:(match h.cell m with
  | .lst _=>some (Src.cell m)
  |_=>none)=some s:=e
 cases ec:h.cell m with
 |lst l=>rw[ec] at e; exact⟨l,rfl,(Option.some.inj e).symm⟩
 |_=>rw[ec] at e; cases e
theorem Zfz {α:Type} {o:Option α} {w:Wd} {n:Nat} {h:AH} {E:XK} {P:Wd→AH→Hp→α→Prop} (q:Za4 g w n (Zbv o h) E P):∃a,o=some a∧Za4 g w n (.ok a h) E P:=by
 cases o with
 |none=>exact q.elim
 |some a=>exact⟨a,rfl,q⟩
theorem iv_seq (G:GX g c k X) (ha:EV X g E e ra):PI X tg e (tI g E (fun env h=>(ra env h).bind fun x h=>Zbv (Zlw x h) h)):=by
 refine PI.cas fun σ H R ⟨w,env,h,rr,re,q⟩=>?_
 dsimp only at q
 cases hra:ra env h with
 |stuck=>rw[hra] at q; exact q.elim
 |exc y h1=>
  rw[hra] at q
  exact⟨_,pi_list ha.pe,w,env,h,rr,re,by rw[hra]; exact q⟩
 |ok x h1=>
  rw[hra,bind_ok] at q
  obtain⟨src,hs,q⟩:=Zfz q
  have use:∀{T:V→Hp→Prop},(∀w1 H1 v,Ext w h.nx w1 h1.nx→RR g w1 h1 H1→RV g w1 h1.nx x v→T v H1)→tE g E ra σ H T:=fun {T} hT=>⟨w,env,h,rr,re,by
   rw[hra]
   exact fun w1 H1 ext rr1 v rv=>hT w1 H1 v ext rr1 rv⟩
  cases x with
  |lst l=>
   cases hs
   refine⟨_,pi_list ha.pe,use fun w1 H1 v ext rr1 rv=>?_⟩
   obtain⟨a,xs,rfl,q1,r1⟩:=Zbd.mp rv
   exact⟨a,rfl,⟨xs,SqL.of (rr1.sub _ _ q1)⟩,q w1 H1 ext rr1 _ (ZiE r1 (lst_sq q1))⟩
  |tup l=>
   cases hs
   refine⟨_,pi_tup ha.pe,use fun w1 H1 v ext rr1 rv=>?_⟩
   obtain⟨a,xs,rfl,q1,r1⟩:=ZcE rv
   have sq:∀(w:Wd) (h:AH) (H:Hp),Zdi w1 h1.nx w h.nx→RR g w h H→SqT X.K H a xs:=fun w h H ext rr=>by rw[G.K]; exact SqT.ext (fun b o e=>rr.sub _ _ (ext.F _ _ e)) q1
   exact⟨a,rfl,⟨xs,sq w1 h1 H1 (Ext.refl _ _).f rr1⟩,q w1 H1 ext rr1 _ (Ze1 r1 sq)⟩
  |ktp l=>
   cases hs
   refine⟨_,pi_tup ha.pe,use fun w1 H1 v ext rr1 rv=>?_⟩
   obtain⟨a,xs,rfl,q1,r1⟩:=Zoo rv
   have sq:∀(w:Wd) (h:AH) (H:Hp),Zdi w1 h1.nx w h.nx→RR g w h H→SqT X.K H a xs:=fun w h H ext rr=>by rw[G.K]; exact SqT.ext (fun b o e=>rr.sub _ _ (ext.F _ _ e)) q1
   exact⟨a,rfl,⟨xs,sq w1 h1 H1 (Ext.refl _ _).f rr1⟩,q w1 H1 ext rr1 _ (Ze1 r1 sq)⟩
  |str s=>
   cases hs
   refine⟨_,pi_str ha.pe,use fun w1 H1 v ext rr1 rv=>?_⟩
   obtain⟨rfl,ho⟩:=Za1.mp rv
   exact⟨_,rfl,q w1 H1 ext rr1 _ (ZiC ho)⟩
  |ref m=>
   obtain⟨l,ec,rfl⟩:=Zof hs
   refine⟨_,pi_list ha.pe,use fun w1 H1 v ext rr1 rv=>?_⟩
   obtain⟨rfl,hm⟩:=Zb0.mp rv
   obtain⟨xs,q1,r1⟩:=ZbF rr1 hm ec
   exact⟨_,rfl,⟨xs,SqL.of q1⟩,q w1 H1 ext rr1 _ (ZgV hm)⟩
  |_=>cases hs
theorem iv_rng (G:GX g c k X) {p:Pos} (hgl:Gl X "range") (hml:X.mg "range"=none) (ha:EV X g E a ra) (hn:nst a=true):PI X tg (.Call (.Name "range" p) [a] [] pos) (tI g E (fun env h=>(ra env h).bind fun x h=>match x with
  | .int i=>if -(2 ^ 62)≤i∧i < 2 ^ 62 then .ok (.fix (Zcm 0 i)) h else .stuck
  |_=>.stuck)):=by
 refine PI.cas fun σ H R ⟨w,env,h,rr,re,q⟩=>⟨_,pi_range1 hgl hml (pa_cons ha.pe pa_nil (Zbw hn _ _)) (Zbw hn _ _),?_⟩
 refine tE.step q rr re rfl fun w1 h1 H1 x v ext rr1 re1 rv q1=>?_
 cases x with
 |int i=>
  rw[Za7.mp rv]
  obtain⟨hl,q1⟩:=Zbx q1
  refine⟨i,rfl,hl.1,hl.2,q1.now rr1 _ ?_⟩
  have:=ZiD (g:=g) (w0:=w1) (n0:=h1.nx) (i:=0) (j:=i)
  rw[Int.sub_zero] at this
  exact this
 |_=>exact q1.elim
/-! ### targets -/
structure REu (g:Gi) (w:Wd) (n:Nat) (U:Nat→Prop) (env:Env) (σ:L2.St):Prop where
 len:env.length=σ.length
 at':∀(i:Nat) (d:Sl) (o:Option V),¬U i→env[i]? =some d→σ[i]? =some o→RS g w n d o
theorem REu.set {w:Wd} {n:Nat} {U:Nat→Prop} {env:Env} {σ:L2.St} (r:REu g w n U env σ) (i:Nat) {d:D} {v:V} (q:RV g w n d v):REu g w n (fun j=>U j∧j≠i) (env.set i (.v d)) (σ.set i (some v)):=by
 refine⟨by simp[r.len],fun j e u hj h1 h2=>?_⟩
 by_cases hij:i=j
 ·subst hij
  by_cases hi:i < env.length
  ·rw[ZbI hi] at h1
   rw[ZbI (r.len ▸ hi)] at h2
   cases h1; cases h2
   exact⟨v,rfl,q⟩
  ·rw[ZbR (by simpa using hi)] at h1
   cases h1
 ·rw[Zcq hij] at h1 h2
  exact r.at' j e u (fun z=>hj ⟨z,Ne.symm hij⟩) h1 h2
theorem REu.re {w:Wd} {n:Nat} {U:Nat→Prop} {env:Env} {σ:L2.St} (r:REu g w n U env σ) (h:∀i,¬U i):RE g w n env σ:=⟨r.len,fun i d o e1 e2=>r.at' i d o (h i) e1 e2⟩
theorem RE.u {w:Wd} {n:Nat} {U:Nat→Prop} {env:Env} {σ:L2.St} (r:RE g w n env σ):REu g w n U env σ:=⟨r.len,fun i d o _ e1 e2=>r.at' i d o e1 e2⟩
theorem REu.ext {w w':Wd} {n n':Nat} {U:Nat→Prop} {env:Env} {σ:L2.St} (r:REu g w n U env σ) (x:Ext w n w' n'):REu g w' n' U env σ:=⟨r.len,fun i d o hu e1 e2=>(r.at' i d o hu e1 e2).extF x.f⟩
theorem REu.of_wipe {w:Wd} {n:Nat} {env:Env} {σ:L2.St} (r:RE g w n env σ) (vs:List Nat):REu g w n (· ∈vs) env (wipe σ vs):=⟨by rw[wipe_length]; exact r.len,fun i d o hu e1 e2=>by
 rw[wipe_out hu] at e2
 exact r.at' i d o e1 e2⟩
theorem Zdk {σ:L2.St} {i:Nat}:∀{vs:List Nat},i∈vs→(wipe σ vs)[i]? =if i < σ.length then some none else none
 |[],h=>by cases h
 |v::vs,h=>by
  unfold wipe
  by_cases e:v=i
  ·subst e
   by_cases hi:v < σ.length
   ·rw[if_pos hi,ZbI (by rw[wipe_length]; exact hi)]
   ·rw[if_neg hi,ZbR (by rw[List.length_set,wipe_length]; omega)]
  ·rw[Zcq e]
   exact Zdk (by rcases Zak.mp h with z |z; exact absurd z.symm e; exact z)
theorem Zhv {σ:L2.St} {i:Nat} {v:Option V} {vs:List Nat} (h:i∈vs):wipe (σ.set i v) vs=wipe σ vs:=by
 refine Zd5 fun j=>?_
 by_cases hj:j∈vs
 ·rw[Zdk hj,Zdk hj,List.length_set]
 ·rw[wipe_out hj,wipe_out hj,Zcq fun (e:i=j)=>hj (e ▸ h)]
def tG (g:Gi) (tg:List Nat):TG:=fun v σ H Q=>∃w env h d env' U,RR g w h H∧REu g w h.nx U env σ∧(∀i,U i→i∈tg)∧RV g w h.nx d v∧ZbB tg d env=some env'∧∀σ',RE g w h.nx env' σ'→(∀ws,(∀i∈tg,i∈ws)→wipe σ' ws=wipe σ ws)→Q σ' H
theorem _root_.L2.PG.imp {X:Cx} {e:Expr} {t t':TG} (h:PG X e t) (k:∀v σ H Q,t' v σ H Q→t v σ H Q):PG X e t':=⟨fun pins s σ H v u Q I r q=>h.run pins s σ H v u Q I r (k _ _ _ _ q)⟩
theorem gv_one {i:Nat} {x:Str} (hN:X.N.Nodup) (hi:X.N[i]? =some x) (hx:Loc X.env.scope x) (hf:X.fn x=true∨X.env.scope.names.lookup x=some .local):PG X (.Name x pos) (tG g [i]):=by
 refine (pg_name hN hi hx hf).imp fun v σ H Q ⟨w,env,h,d,env',U,rr,re,hu,rv,hb,q⟩=>?_
 have hb:some (env.set i (.v d))=some env':=hb
 cases hb
 exact q _ ((re.set i rv).re fun j ⟨z,n⟩=>n (by simpa using hu j z)) fun ws hw=>Zhv (hw i Zag)
inductive TN (X:Cx):List Expr→List Nat→Prop where
 |nil:TN X [] []
 |cons {x:Str} {pos:Pos} {i:Nat} {es:List Expr} {is:List Nat} (hi:X.N[i]? =some x) (hx:Loc X.env.scope x) (hf:X.fn x=true∨X.env.scope.names.lookup x=some .local) (r:TN X es is):TN X (.Name x pos::es) (i::is)
def ZhG {α:Type} (σ:List (Option α)):List (Nat × α)→List (Option α)
 |[]=>σ
 |p::r=>ZhG (σ.set p.1 (some p.2)) r
def Zjx (σ:Env):List (Nat × D)→Env
 |[]=>σ
 |p::r=>Zjx (σ.set p.1 (.v p.2)) r
theorem Zc9:∀(l:List (Nat × D)) (σ:Env),l.foldl (fun e p=>e.set p.1 (.v p.2)) σ=Zjx σ l
 |[],_=>rfl
 |p::l,σ=>by rw[Zcj,Zc9 l]; rfl
def gSets (is:List Nat):TGs:=fun vs σ H Q=>vs.length=is.length∧Q (ZhG σ (is.zip vs)) H
theorem PGs.imp {X:Cx} {e:List Expr} {t t':TGs} (h:PGs X e t) (k:∀v σ H Q,t' v σ H Q→t v σ H Q):PGs X e t':=⟨fun pins s σ H v u Q I r q=>h.run pins s σ H v u Q I r (k _ _ _ _ q)⟩
theorem TN.pgs (hN:X.N.Nodup):∀{es:List Expr} {is:List Nat},TN X es is→PGs X es (gSets is)
 |_,_,.nil=>PGs.imp pgs_nil fun v σ H Q ⟨h1,h2⟩=>⟨ZaL h1,h2⟩
 |_,_,.cons hi hx hf r=>PGs.imp (pgs_cons (pg_name hN hi hx hf) (TN.pgs hN r)) fun v σ H Q ⟨h1,h2⟩=>by
  cases v with
  |nil=>cases h1
  |cons v vs=>exact⟨v,vs,rfl,by simpa using h1,h2⟩
theorem TN.each:∀{es:List Expr} {is:List Nat},TN X es is→(assignEach es X.env).length=is.length∧(assignEach es X.env).findIdx? (·.1)=none
 |_,_,.nil=>⟨rfl,rfl⟩
 |_,_,.cons (x:=x) (pos:=pos) (es:=es) hi hx hf r=>by
  obtain⟨h1,h2⟩:=TN.each r
  have e:assignEach (.Name x pos::es) X.env=(false,assign (.Name x pos) X.env)::assignEach es X.env:=rfl
  rw[e]
  refine⟨by rw[Zae,Zae,h1],?_⟩
  rw[List.findIdx?_cons,h2]
  rfl
theorem REu.setAll {w:Wd} {n:Nat}:∀{is:List Nat} {l:List D} {xs:List V} {U:Nat→Prop} {env:Env} {σ:L2.St},REu g w n U env σ→RVs g w n l xs→is.length=l.length→REu g w n (fun j=>U j∧j∉is) (Rk.Zjx env (is.zip l)) (Rk.ZhG σ (is.zip xs))
 |[],_,_,U,env,σ,r,_,_=>⟨r.len,fun i d o hu e1 e2=>r.at' i d o (fun z=>hu ⟨z,by simp⟩) e1 e2⟩
 |i::is,[],_,_,_,_,_,_,h=>by cases h
 |i::is,d::l,xs,U,env,σ,r,q,h=>by
  obtain⟨x,ys,rfl,h1,h2⟩:=ZaQ.mp q
  have z:=REu.setAll (r.set i h1) h2 (by simpa using h)
  refine⟨z.len,fun j e o hu=>z.at' j e o fun⟨⟨y1,y2⟩,y3⟩=>hu ⟨y1,by simp only[Zak,not_or]; exact⟨y2,y3⟩⟩⟩
theorem Zdj {ws:List Nat}:∀{is:List Nat} {xs:List V} {σ:L2.St},(∀i∈is,i∈ws)→wipe (ZhG σ (is.zip xs)) ws=wipe σ ws
 |[],_,_,_=>rfl
 |i::is,[],_,_=>rfl
 |i::is,x::xs,σ,h=>(Zdj fun j hj=>h j (Zaf _ hj)).trans (Zhv (h i Zag))
theorem PG.cas {X:Cx} {tg:Expr} {t:TG} (h:∀v σ H Q,t v σ H Q→∃t',PG X tg t'∧t' v σ H Q):PG X tg t:=⟨fun pins s σ H v u Q I r q=>by
 obtain⟨t',o,q'⟩:=h v σ H Q q
 exact o.run pins s σ H v u Q I r q'⟩
theorem Zkl (G:GX g c k X) (hc:X.calm=true) {es:List Expr} {is:List Nat} {kk:Nat} (t:TN X es is) (h2:2≤is.length):PG X (.Tuple es kk pos) (tG g is):=by
 obtain⟨e1,e2⟩:=t.each
 refine PG.cas fun v σ H Q ⟨w,env,h,d,env',U,rr,re,hu,rv,hb,q⟩=>?_
 unfold ZbB at hb
 split at hb
 ·simp at h2
 ·split at hb
  ·rename_i l
   obtain⟨a,xs,rfl,q1,r1⟩:=ZcE rv
   obtain⟨hl,hb⟩:=Zcr hb
   subst hb
   refine⟨_,pg_tup (n:=is.length) hc (t.pgs G.nd) e1 e2,a,xs,rfl,by rw[G.K]; exact SqT.ext rr.sub q1,by rw[r1.length,hl],by rw[r1.length,hl],?_⟩
   refine q _ ?_ fun ws hw=>Zdj hw
   rw[Zc9]
   exact (re.setAll r1 hl.symm).re fun j ⟨z,n⟩=>n (hu j z)
  ·rename_i l
   obtain⟨a,xs,rfl,q1,r1⟩:=Zbd.mp rv
   obtain⟨hl,hb⟩:=Zcr hb
   subst hb
   refine⟨_,pg_lst (n:=is.length) hc (t.pgs G.nd) e1 e2,a,xs,rfl,SqL.of (rr.sub _ _ q1),by rw[r1.length,hl],by rw[r1.length,hl],?_⟩
   refine q _ ?_ fun ws hw=>Zdj hw
   rw[Zc9]
   exact (re.setAll r1 hl.symm).re fun j ⟨z,n⟩=>n (hu j z)
  ·cases hb
/-! ### [elt for target in iter if ..] -/
def E0:SX':=fun _ _ _ _=>False
def Zl0 (tgs:List Nat) (rf:Run Bool) (re:Run D) (env:Env):D→AH→Res (Option D):=fun x h=>match ZbB tgs x env with
    |some e=>(rf e h).bind fun b h=>if b then (re e h).bind fun y h=>.ok (some y) h else .ok none h
    |none=>.stuck
def Zpy (rI:Run Src) (tgs:List Nat) (rf:Run Bool) (re:Run D):Run D:=fun env h=>(rI env h).bind fun s h=>if s.len h≤line then
   (Za6 (Zeb s (Zl0 tgs rf re env) (s.len h+1) 0 h)).bind fun r h=>.ok (.lst r) h
  else .stuck
theorem Za4.from {α:Type} {w w':Wd} {n n':Nat} {r:Res α} {X:XK} {P:Wd→AH→Hp→α→Prop} (q:Za4 g w n r X P) (x:Ext w n w' n'):Za4 g w' n' r X P:=by
 cases r with
 |ok a h=>exact fun w1 H1 e1=>q w1 H1 (x.trans e1)
 |exc y h=>exact fun w1 H1 cls d e1=>q w1 H1 cls d (x.trans e1)
 |stuck=>exact q
theorem ZiK (o:Option D) (r:Res (List D)) (F:List D→AH→Res D):(Za6 (r.bind fun r h=>.ok (push o r) h)).bind F=(Za6 r).bind fun r h=>F (push o r) h:=by
 cases r<;>rfl
theorem Zez {σ:L2.St} {H:Hp} {Q:VK} {rI:Run Src} {tgs vs:List Nat} {rf:Run Bool} {re:Run D} (hsub:∀i∈vs,i∈tgs) (hsup:∀i∈tgs,i∈vs) (h:tE g E (Zpy rI tgs rf re) σ H Q):tLc (tI g E rI) (tG g tgs) (tB' g E0 rf) (tE g E0 re) vs σ H Q:=by
 obtain⟨w,env,h,rr,renv,q⟩:=h
 refine⟨w,env,h,rr,renv,q.bind.mono fun w1 h1 H1 src ext rr1 q1 J sv L hD=>?_⟩
 obtain⟨hl,q1⟩:=Zbx q1
 obtain⟨rr2,ext2⟩:=rr1.side (o:=.lst []) hD
 have zD:w1.Z L=none:=rr1.noZ hD
 have re1:=renv.ext ext
 refine⟨fun i m H=>∃w3 h3 acc accv,Ext w1 h1.nx w3 h3.nx∧RR g w3 h3 H∧w3.Z L=some (.lst accv)∧RVs g w3 h3.nx acc accv∧acc.length+m≤line∧
   Za4 g w1 h1.nx ((Za6 (Zeb src (Zl0 tgs rf re env) (m+1) i h3)).bind fun r h=>.ok (.lst (acc++r)) h) (E σ) (PV g Q),
  ⟨src.len h1,_,h1,[],[],ext2,rr2,upd_same,RVs.nil,by simpa using hl,by simpa using q1⟩,?_⟩
 rintro i m H3 ⟨w3,h3,acc,accv,ext3,rr3,z3,r3,len3,q3⟩
 unfold Zeb at q3
 cases hg:src.get i h3 with
 |none=>rw[hg] at q3; exact q3.elim
 |some o=>
  cases o with
  |none=>
   rw[hg] at q3
   refine .inl ⟨sv.stop w3 h3 H3 i ext3.f rr3 hg,?_⟩
   have q3:Za4 g w1 h1.nx (.ok (.lst (acc++[])) h3) (E σ) (PV g Q):=q3
   rw[Zaw] at q3
   refine q3 ⟨w3.m,upd w3.F L (.lst accv),fun a=>if a=L then none else w3.Z a⟩ H3 ⟨ext3.le,ext3.m,fun a o e=>?_,fun a o e=>?_,ext3.nz⟩ (rr3.sideF z3) _ (Zbd.mpr ⟨L,accv,rfl,upd_same,RVs.moreF (fun a o e=>?_) r3⟩)
   ·show upd w3.F L _ a=some o
    rw[upd_ne (ne_of_none (ext3.F _ _ e) (rr3.subz _ _ z3).2)]
    exact ext3.F _ _ e
   ·show (if a=L then none else w3.Z a)=some o
    rw[if_neg (ne_of_none e zD)]
    exact ext3.Z _ _ e
   ·rw[upd_ne (ne_of_none e (rr3.subz _ _ z3).2)]
    exact e
  |some x=>
   rw[hg] at q3
   obtain⟨go,yl⟩:=sv.it w3 h3 H3 i x ext3.f rr3 hg
   refine .inr ⟨go,fun H'=>∃m',m' < m∧∃w3 h3 acc accv,Ext w1 h1.nx w3 h3.nx∧RR g w3 h3 H'∧w3.Z L=some (.lst accv)∧RVs g w3 h3.nx acc accv∧acc.length+m'≤line∧
    Za4 g w1 h1.nx ((Za6 (Zeb src (Zl0 tgs rf re env) (m'+1) (i+1) h3)).bind fun r h=>.ok (.lst (acc++r)) h) (E σ) (PV g Q),fun H' z=>z,fun x' H' y=>?_⟩
   obtain⟨w4,ext4,rr4,rv4⟩:=yl x' H' y
   have ext14:=ext3.trans ext4
   dsimp only at q3
   cases hb:ZbB tgs x env with
   |none=>
    have e0:Zl0 tgs rf re env x h3=.stuck:=by unfold Zl0; rw[hb]
    rw[e0] at q3
    exact q3.elim
   |some env'=>
    have e0:Zl0 tgs rf re env x h3=((rf env' h3).bind fun b h=>if b then (re env' h).bind fun y h=>.ok (some y) h else .ok none h):=by unfold Zl0; rw[hb]
    rw[e0] at q3
    refine⟨w4,env,h3,x,env',_,rr4,REu.of_wipe (re1.ext ext14) vs,hsub,rv4,hb,fun σ2 re2 hw=>⟨?_,?_⟩⟩
    ·rw[hw vs hsup]
     refine Zd5 fun j=>?_
     by_cases hj:j∈vs
     ·rw[Zdk hj,Zdk hj,wipe_length]
     ·rw[wipe_out hj]
    refine⟨w4,env',h3,rr4,re2,?_⟩
    -- what is left behind a turn
    have left:∀(w5:Wd) (h5:AH) (H5:Hp) (o:Option D) (acc':List D) (accv':List V),Ext w1 h1.nx w5 h5.nx→RR g w5 h5 H5→w5.Z L=some (.lst accv')→RVs g w5 h5.nx acc' accv'→acc'.length+m≤line+1→(∀r,acc++push o r=acc'++r)→
      Za4 g w1 h1.nx ((Za6 ((Zeb src (Zl0 tgs rf re env) m (i+1) h5).bind fun r h''=>.ok (push o r) h'')).bind fun r h=>.ok (.lst (acc++r)) h) (E σ) (PV g Q)→
      ∃m',m' < m∧∃w3 h3 acc accv,Ext w1 h1.nx w3 h3.nx∧RR g w3 h3 H5∧w3.Z L=some (.lst accv)∧RVs g w3 h3.nx acc accv∧acc.length+m'≤line∧
       Za4 g w1 h1.nx ((Za6 (Zeb src (Zl0 tgs rf re env) (m'+1) (i+1) h3)).bind fun r h=>.ok (.lst (acc++r)) h) (E σ) (PV g Q):=by
     intro w5 h5 H5 o acc' accv' ext5 rr5 z5 r5 len5 hpush q5
     rw[ZiK] at q5
     cases m with
     |zero=>exact q5.elim
     |succ m'=>
      refine⟨m',Zbc _,w5,h5,acc',accv',ext5,rr5,z5,r5,by omega,?_⟩
      have e:(fun (r:List D) (h:AH)=>Res.ok (D.lst (acc++push o r)) h)=fun r h=>Res.ok (D.lst (acc'++r)) h:=by
       funext r h
       rw[hpush r]
      rw[e] at q5
      exact q5
    cases hrf:rf env' h3 with
    |stuck=>rw[hrf] at q3; exact q3.elim
    |exc y h5=>rw[hrf] at q3; exact q3.elim
    |ok b h5=>
     rw[hrf,bind_ok] at q3
     intro w5 H5 ext5 rr5
     show if b=true then _ else _
     cases b with
     |false=>
      refine iteF ?_
      exact left w5 h5 H5 none acc accv (ext14.trans ext5) rr5 (ext5.Z _ _ (ext4.Z _ _ z3)) ((r3.ext ext4).ext ext5) (by omega) (fun r=>rfl) q3
     |true=>
      refine iteT ⟨w5,env',h5,rr5,re2.ext ext5,?_⟩
      simp only[if_true] at q3
      cases hre:re env' h5 with
      |stuck=>rw[hre] at q3; exact q3.elim
      |exc y h6=>rw[hre] at q3; exact q3.elim
      |ok yd h6=>
       rw[hre,bind_ok,bind_ok] at q3
       intro w6 H6 ext6 rr6 yv rv6
       have z6:=ext6.Z _ _ (ext5.Z _ _ (ext4.Z _ _ z3))
       have r6:=(((r3.ext ext4).ext ext5).ext ext6).append (RVs.mk rv6 RVs.nil)
       have hm:0 < m:=by
        cases m with
        |zero=>exact q3.elim
        |succ m'=>exact Zlg _
       refine⟨accv,(rr6.subz _ _ z6).1,by rw[r3.length,Zcy]; omega,?_⟩
       have ext16:=(ext14.trans ext5).trans ext6
       refine left ⟨w6.m,w6.F,upd w6.Z L (.lst (accv++[yv]))⟩ h6 _ (some yd) (acc++[yd]) (accv++[yv]) ⟨ext16.le,ext16.m,ext16.F,fun a o e=>?_,ext16.nz⟩ (rr6.side2 z6) upd_same (RVs.noZ r6) (by rw[Zal]; simp; omega) (fun r=>by simp[push]) q3
       show upd w6.Z L _ a=some o
       rw[upd_ne (ne_of_none e zD)]
       exact ext16.Z _ _ e
end
end Rk
/-! Rk.La:lambdas called. -/
namespace Rk
open PySem PySem.Spec PyProof.Rows L2
structure ZpX (N:List Str) (sc scope:Scope) (params:Arguments) (ws:List Nat):Prop where
 kind:scope.kind=.function
 co:scope.isCoroutine=false
 gen:scope.isGenerator=false
 cell:∀y∈scope.names,y.2≠ .cell
 free:∀y∈scope.names,y.2=.free→sc.names.lookup y.1=some .cell∨sc.names.lookup y.1=some .free
 own:∀i y,N[i]? =some y→scope.names.lookup y=some .local→i∈ws
 par:∀y i,ZoR params=some (some (y,i))→scope.names.lookup y=some .local
def Zj9 (N:List Str) (sc scope:Scope) (params:Arguments) (ws:List Nat):Bool:=
 decide (scope.kind=.function)&& !scope.isCoroutine&& !scope.isGenerator&&(scope.names.all fun y=> !decide (y.2=.cell)&&(!decide (y.2=.free)||decide (sc.names.lookup y.1=some .cell)||decide (sc.names.lookup y.1=some .free)))&&
  ((List.range N.length).all fun i=>match N[i]? with
   |some y=> !decide (scope.names.lookup y=some .local)||ws.contains i
   |none=>true)&&(match ZoR params with
   |some (some (y,_))=>decide (scope.names.lookup y=some .local)
   |_=>true)
theorem ZlW {N:List Str} {sc scope:Scope} {params:Arguments} {ws:List Nat} (h:Zj9 N sc scope params ws=true):ZpX N sc scope params ws:=by
 unfold Zj9 at h
 simp only[Zaa,ZaP,Zbz,Zab,decide_eq_false_iff_not,Zaj] at h
 obtain⟨⟨⟨⟨⟨h1,h2⟩,h3⟩,h4⟩,h5⟩,h6⟩:=h
 refine⟨h1,h2,h3,fun y hy=>(h4 y hy).1,fun y hy e=>?_,fun i y hi hl=>?_,fun y i hp=>?_⟩
 ·rcases (h4 y hy).2 with (z |z) |z
  ·exact absurd e z
  ·exact .inl z
  ·exact .inr z
 ·have:=h5 i (ZaN.mpr (Zay.mp hi).1)
  rw[hi] at this
  simp only[ZaP,Zbz,decide_eq_false_iff_not] at this
  rcases this with z |z
  ·exact absurd hl z
  ·exact Zax.mp z
 ·rw[hp] at h6
  exact ZaC h6
abbrev ZdT (X:Cx) (scope:Scope) (L f c':Addr):PySem.Env:=PySem.W.envX (X.env.qual++"<lambda>") scope L f (.ref c') (cloFrom X.env.cells scope.names [])
def Zm6 (X:Cx) (A:Around) (outer:List PySem.Env) (s:Shared) (H:Hp) (E:XK) (scope:Scope) (f c':Addr):Cx where
 prog:=X.prog
 w:=X.w
 K:=X.K
 mg:=X.mg
 base:=X.base
 A:=A.deeper (ZdT X scope s.heap.objs.size f c')
 N:=X.N
 s_0:=s
 H_0:=H
 env:=ZdT X scope s.heap.objs.size f c'
 outer:=outer
 stack:=ZdT X scope s.heap.objs.size f c'::outer
 ex:=[]
 fn:=fun _=>false
 calm:=true
 pn:=[]
 xe:=fun e s'=>wpAny (model X.prog X.w) (A.deeper (ZdT X scope s.heap.objs.size f c')) (leaving (ZdT X scope s.heap.objs.size f c') e) (fun _ s''=>L2.CX X.prog X.w outer H s E e s'') (fun e' s''=>L2.CX X.prog X.w outer H s E e' s'') s'
section
end
end Rk
/-! Rk.V:instances in the heap. -/
namespace Rk
open PySem PySem.Spec PyProof.Rows L2
def NmOk (g:Gi):Prop:=∀i j,i < g.nn→j < g.nn→g.an i=g.an j→i=j
section
variable {g:Gi} {w:Wd} {n:Nat}
theorem ZbV {i:Nat} {d:D} {l:List (Nat × D)} {xs:List (Str × V)}:RVf g w n ((i,d)::l) xs↔∃x r,xs=(g.an i,x)::r∧i < g.nn∧RV g w n d x∧RVf g w n l r:=by
 conv=>lhs; unfold RVf
theorem Zch {xs:List (Str × V)}:RVf g w n [] xs↔xs=[]:=by unfold RVf; exact Iff.rfl
theorem RVf.look (ok:NmOk g) {i:Nat} (hi:i < g.nn) {d:D}:∀{fs:List (Nat × D)} {gs:List (Str × V)},RVf g w n fs gs→lkN i fs=some d→∃v,gs.lookup (g.an i)=some v∧RV g w n d v
 |[],gs,_,h=>by cases h
 |(j,e)::r,gs,q,h=>by
  obtain⟨x,t,rfl,hj,rx,rt⟩:=ZbV.mp q
  unfold lkN at h
  rw[ZaZ]
  by_cases e1:j=i
  ·rw[if_pos e1] at h
   cases h
   subst e1
   rw[ZaB]
   exact⟨x,rfl,rx⟩
  ·rw[if_neg e1] at h
   have:(g.an i == g.an j)=false:=by
    rw[ZaU]
    exact fun z=>e1 (ok j i hj hi z.symm)
   rw[this]
   exact RVf.look ok hi rt h
theorem RVf.put (ok:NmOk g) {i:Nat} (hi:i < g.nn) {d:D} {v:V} (rv:RV g w n d v):∀{fs:List (Nat × D)} {gs:List (Str × V)},RVf g w n fs gs→RVf g w n (Zd1 i d fs) (putF (g.an i) v gs)
 |[],gs,q=>by
  rw[Zch.mp q]
  exact ZbV.mpr ⟨v,[],rfl,hi,rv,Zch.mpr rfl⟩
 |(j,e)::r,gs,q=>by
  obtain⟨x,t,rfl,hj,rx,rt⟩:=ZbV.mp q
  unfold Zd1 putF
  by_cases e1:j=i
  ·subst e1
   rw[if_pos rfl,if_pos rfl]
   exact ZbV.mpr ⟨v,t,rfl,hj,rv,rt⟩
  ·rw[if_neg e1,if_neg fun z=>e1 (ok j i hj hi z)]
   exact ZbV.mpr ⟨x,_,rfl,hj,rx,RVf.put ok hi rv rt⟩
theorem RVf.len:∀{fs:List (Nat × D)} {gs:List (Str × V)},RVf g w n fs gs→gs.length=fs.length
 |[],gs,q=>by rw[Zch.mp q]; rfl
 |(j,e)::r,gs,q=>by
  obtain⟨x,t,rfl,hj,rx,rt⟩:=ZbV.mp q
  rw[Zae,Zae,RVf.len rt]
theorem RVf.no {m:Str} (hm:∀i,i < g.nn→g.an i≠m):∀{fs:List (Nat × D)} {gs:List (Str × V)},RVf g w n fs gs→gs.lookup m=none
 |[],gs,q=>by rw[Zch.mp q]; rfl
 |(j,e)::r,gs,q=>by
  obtain⟨x,t,rfl,hj,rx,rt⟩:=ZbV.mp q
  rw[ZaZ]
  have:(m == g.an j)=false:=by
   rw[ZaU]
   exact fun z=>hm j hj z.symm
  rw[this]
  exact RVf.no hm rt
end
section
end
end Rk
/-! Rk.Lb:a lambda asked for its answer or its error. -/
namespace Rk
open PySem PySem.Spec PyProof.Rows L2
def spX (g:Gi) (call:Cl) (f:Nat) (p:Addr × Obj) (H:Hp) (Q:VK):Prop:=∃(w:Wd) (h:AH) (c:Nat) (fs:List (Nat × D)) (dd:Addr) (gs:List (Str × V)),RR g w h H∧Zc (.ref (g.ca c)) (some dd) p.2∧(∃vs,p.2.data=.fields vs)∧w.F dd=some (.xd gs)∧RVf g w h.nx fs gs∧g.xk c∧
 Za4 g w h.nx (call.x f c fs h) (fun _ _ _=>False) (PV g Q)
structure FnX (P:Program) (w:World) (K:PySem.W.Frag) (mg:Str→Option Value) (base:Heap) (k:Nat) (f:Addr) (fd:FuncData) (ps:List Str) (sp:Addr × Obj→Hp→VK→Prop):Prop where
 run:∀(A:Around) (outer:List PySem.Env) (s:Shared) (H:Hp) (p:Addr × Obj) (Q:VK),Zcf k A→L2H.PinOk outer H s p→Env0 P w K mg base A outer s H→BindsTo s fd ⟨[.ref p.1],[]⟩ (ps.zip [.ref p.1])→sp p H Q→
  codeAny (model P w) A (.call (.ref f) ⟨[.ref p.1],[]⟩) (CR (CXZ false P w) outer P w H s Q (fun _ _ _=>False)) s
def XkOk (g:Gi) (K:PySem.W.Frag):Prop:=∀c,g.xk c→XfC K (g.ca c)∧∀i,i < g.nn→PySem.W.findIn K (.ref (g.ca c)) (g.an i)=some none
def whyT:List Stmt→Option (Str × Str × Str × Str × Str × Str)
 |[.Try [.Return (some (.Tuple [.Constant (.str t) _ _,.Call (.Name a _) [] [] _] _ _)) _] [.ExceptHandler (some (.Tuple [.Name x1 _,.Name x2 _,.Name x3 _] _ _)) (some e) [.Return (some (.Tuple [.Attribute (.Name e1 _) cd _,.Call (.Name lf _) [.Name e2 _] [] _] _ _)) _] _] [] [] _]=>
  if t=("told":Str)∧e1=e∧e2=e∧cd=("code":Str) then some (a,e,x1,x2,x3,lf) else none
 |_=>none
section
variable {X:Cx} {pins:List (Addr × Obj)} {σ:L2.St} {H HW:Hp} {s sW:Shared} {g:Gi} {gG:G} {callm:Cl}
structure LamAt (X:Cx) (g:Gi) (gG:G) (callm:Cl) (m kl:Nat) (L:Zd6):Prop where
 sc:ZpX X.N X.env.scope L.scope L.params (gG.lamw kl)
 cells:g.cells=X.env.cells
 qual:g.qual=X.env.qual
 body:∀(A:Around) (outer:List PySem.Env) (s1:Shared) (H1:Hp) (E:XK) (f c':Addr),Zcf m (A.deeper (ZdT X L.scope s1.heap.objs.size f c'))→A.handled=none→PE (Zm6 X A outer s1 H1 E L.scope f c') L.body (tE g (fun _=>E) (evE gG callm true (gG.lam kl)))
structure ZpO (P:Program) (w:World) (K:PySem.W.Frag) (mg:Str→Option Value) (base:Heap) (g:Gi) (gG:G) (callm:Cl) (m:Nat) (fw:Addr) (fd:FuncData) (a:Str):Prop where
 ex:∃(qual:Str) (params:Arguments) (body:List Stmt) (scope:Scope) (fdl:FuncData) (psl:List Str) (fl:Addr) (e x1 x2 x3 lf:Str) (C1 C2 C3:Addr),FunD K "_law_why" qual params body scope [] [] fw fd∧FnScope [a,e] [a] scope∧whyT body=some (a,e,x1,x2,x3,lf)∧
  (∀(s:Shared) (u:Value),K.In s.heap→BindsTo s fd ⟨[u],[]⟩ [(a,u)])∧scope.names.lookup a=some .local∧scope.names.lookup e=some .local∧(∀y∈[x1,x2,x3,lf],scope.names.lookup y=some .globalImplicit)∧
  (∀y∈[a,e,x1,x2,x3,lf],(y == ("__debug__":Str))=false∧(y == ("__classdict__":Str))=false)∧mg x1=some (.ref C1)∧mg x2=some (.ref C2)∧mg x3=some (.ref C3)∧mg lf=some (.ref fl)∧PySem.W.keepIn K (.ref fl)=true∧
  (∀c,g.xk c→PySem.W.exmAny K (.ref (g.ca c)) [.ref C1,.ref C2,.ref C3]=some true)∧FnX P w K mg base m fl fdl psl (spX g callm gG.fld)∧(∀(s:Shared) (u:Value),K.In s.heap→BindsTo s fdl ⟨[u],[]⟩ (psl.zip [u]))
 xo:XkOk g K
 nm:NmOk g
 ic:gG.cod < g.nn
 ec:g.an gG.cod=("code":Str)
end
end Rk
/-! Rk.Ld:[f(x) for x in xs],f(x) read with what its block knows of its entry. -/
namespace Rk
open PySem PySem.Spec PyProof.Rows L2
section
end
end Rk
/-! Rk.Le:a list of lambdas asked. -/
namespace Rk
open PySem PySem.Spec PyProof.Rows L2
def ZnV:List Stmt→Option (Str × Str × Str × Scope)
 |[.Return (some (.ListComp (.Call (.Name wy _) [.Name d _] [] _) [⟨.Name d1 _,.Name a _,[],0⟩] sc _)) _]=>if d1=d then some (a,d,wy,sc) else none
 |_=>none
structure ZnL (K:PySem.W.Frag) (mg:Str→Option Value) (fw fs:Addr) (fd:FuncData) (a:Str):Prop where
 ex:∃(qual:Str) (params:Arguments) (body:List Stmt) (scope sc:Scope) (d wy:Str),FunD K "_law_whys" qual params body scope [] [] fs fd∧FnScope [a,d] [a] scope∧ZnV body=some (a,d,wy,sc)∧
  (∀(s:Shared) (u:Value),K.In s.heap→BindsTo s fd ⟨[u],[]⟩ [(a,u)])∧scope.names.lookup a=some .local∧blkC [a,d] scope sc [(d,1)]=true∧(relS sc scope).names.lookup d=some .local∧(relS sc scope).names.lookup wy=some .globalImplicit∧
  (∀y∈[a,d,wy],(y == ("__debug__":Str))=false∧(y == ("__classdict__":Str))=false)∧mg wy=some (.ref fw)∧PySem.W.keepIn K (.ref fw)=true
section
variable {X:Cx} {pins:List (Addr × Obj)} {σ:L2.St} {H HW:Hp} {s sW:Shared} {g:Gi} {gG:G} {callm:Cl}
theorem ZeD.len {w:Wd}:∀{ks:List Nat} {xs:List V},ZeD g w ks xs→xs.length=ks.length
 |[],_,h=>by
  rw[show _=[] from h]
  rfl
 |_::_,_,⟨_,_,e,_,r⟩=>by
  rw[e,Zae,Zae,r.len]
theorem ZeD.get {w:Wd}:∀{ks:List Nat} {xs:List V} {i k:Nat},ZeD g w ks xs→ks[i]? =some k→∃v,xs[i]? =some v∧LamV g w k v
 |[],_,_,_,_,e=>by cases e
 |_::_,_,0,_,⟨x,r,e,h,_⟩,e1=>by
  cases e1
  exact⟨x,by rw[e]; rfl,h⟩
 |_::_,_,i+1,_,⟨_,_,e,_,h⟩,e1=>by
  obtain⟨v,a,b⟩:=ZeD.get h (i:=i) e1
  exact⟨v,by rw[e]; exact a,b⟩
end
end Rk
/-! Rk.Ij:[elt for target in iter if .. for target1 in iter1 if ..] -/
namespace Rk
open PySem PySem.Spec PyProof.Rows L2
section
variable {X:Cx} {g:Gi} {E:SX'}
theorem RE.extF {w w':Wd} {n n':Nat} {env:Env} {σ:L2.St} (r:RE g w n env σ) (x:Zdi w n w' n'):RE g w' n' env σ:=⟨r.len,fun i d o e1 e2=>(r.at' i d o e1 e2).extF x⟩
end
end Rk
/-! Rk.J:statements. -/
namespace Rk
open PySem PySem.Spec PyProof.Rows L2
abbrev xw (W:L2.WX):SX':=fun σ cls d H=>W cls d σ H
abbrev NoX:XK:=fun _ _ _=>False
section
variable {X:Cx} {g:Gi} {c:Bool} {k:Nat} {W:L2.WX} {e a b d tg iter:Expr} {pos:Pos} {run ra rb rd:Run Rk.D} {env:Env} {w:Wd} {h:AH} {H:Hp} {σ:L2.St}
theorem bX.to {α:Type} {r:Res α} {f:α→AH→Res Fl} {D:Ends} (q:Za4 g w h.nx (r.bindX env f) NoX (PF g W D)) (re:RE g w h.nx env σ):
  Za4 g w h.nx r (xw W σ) (fun w1 h1 H1 x=>Za4 g w1 h1.nx (f x h1) NoX (PF g W D)):=by
 cases r with
 |ok x h1=>
  intro w1 H1 e1 rr1
  exact Za4.from (show Za4 g w h.nx (f x h1) NoX (PF g W D) from q) e1
 |exc x h1=>
  intro w1 H1 cls d e1 rr1 rx
  exact q w1 H1 e1 rr1 σ cls d (re.ext e1) rx
 |stuck=>exact q
theorem bX.step {f:D→AH→Res Fl} {D:Ends} (q:Za4 g w h.nx ((ra env h).bindX env f) NoX (PF g W D)) (rr:RR g w h H) (re:RE g w h.nx env σ)
  {R:V→Hp→Prop} (hR:∀w1 h1 H1 x v,Ext w h.nx w1 h1.nx→RR g w1 h1 H1→RE g w1 h1.nx env σ→RV g w1 h1.nx x v→Za4 g w1 h1.nx (f x h1) NoX (PF g W D)→R v H1):tE g (xw W) ra σ H R:=
 ⟨w,env,h,rr,re,(bX.to q re).mono fun w1 h1 H1 x ext rr1 q1 v rv=>hR w1 h1 H1 x v ext rr1 (re.ext ext) rv q1⟩
theorem bXT.step {f:Bool→AH→Res Fl} {D:Ends} (q:Za4 g w h.nx ((Zdb ra env h).bindX env f) NoX (PF g W D)) (rr:RR g w h H) (re:RE g w h.nx env σ)
  {R:Bool→Hp→Prop} (hR:∀w1 h1 H1 x,Ext w h.nx w1 h1.nx→RR g w1 h1 H1→RE g w1 h1.nx env σ→Za4 g w1 h1.nx (f x h1) NoX (PF g W D)→R x H1):tB' g (xw W) (Zdb ra) σ H R:=
 ⟨w,env,h,rr,re,(bX.to q re).mono fun w1 h1 H1 x ext rr1 q1=>hR w1 h1 H1 x ext rr1 (re.ext ext) q1⟩
theorem bXA.step {ra:Run (List D)} {f:List D→AH→Res Fl} {D:Ends} (q:Za4 g w h.nx ((ra env h).bindX env f) NoX (PF g W D)) (rr:RR g w h H) (re:RE g w h.nx env σ)
  {R:List V→Hp→Prop} (hR:∀w1 h1 H1 x v,Ext w h.nx w1 h1.nx→RR g w1 h1 H1→RE g w1 h1.nx env σ→RVs g w1 h1.nx x v→Za4 g w1 h1.nx (f x h1) NoX (PF g W D)→R v H1):tEs g (xw W) ra σ H R:=
 ⟨w,env,h,rr,re,(bX.to q re).mono fun w1 h1 H1 x ext rr1 q1 v rv=>hR w1 h1 H1 x v ext rr1 (re.ext ext) rv q1⟩
abbrev SV (X:Cx) (g:Gi) (W:L2.WX) (st:Stmt) (run:Run Fl):Prop:=PS X st (tS g W run)
abbrev SVs (X:Cx) (g:Gi) (W:L2.WX) (st:List Stmt) (run:Run Fl):Prop:=PSs X st (tS g W run)
theorem ZgQ:SVs X g W [] (fun env h=>.ok (.nx env) h):=pss_nil.imp fun D σ H ⟨w,env,h,rr,re,q⟩=>q.now rr σ re
theorem ZhD {st:Stmt} {rest:List Stmt} {rs rr':Run Fl} (h1:SV X g W st rs) (h2:SVs X g W rest rr'):SVs X g W (st::rest) (fun env h=>(rs env h).bind fun f h=>match f with
  | .nx e=>rr' e h
  |f=>.ok f h):=by
 refine (pss_cons h1 h2).imp fun D σ H ⟨w,env,h,rr,re,q⟩=>⟨w,env,h,rr,re,q.bind.mono fun w1 h1 H1 f ext rr1 q1=>?_⟩
 cases f with
 |nx e=>exact fun σ1 re1=>⟨w1,e,h1,rr1,re1,q1⟩
 |rt d=>exact q1.now rr1
 |bk e=>exact q1.now rr1
 |ct e=>exact q1.now rr1
 |xc x e=>exact q1.now rr1
def ncp:Expr→Bool
 | .ListComp .. =>false
 | .SetComp .. =>false
 | .DictComp .. =>false
 |_=>true
def ZjT:Expr→Bool
 | .Set .. =>false
 |_=>true
theorem Zgq (h:ncp e=true) (t:Option Expr) (l:Nat) (env:PySem.Env):swapsWith e t l env=pure false:=by
 cases e<;>first
  |rfl
  |cases h
theorem Zeq (h:ZjT e=true) (env:PySem.Env) (x:Value):foldedSetIterable e env x=pure x:=by
 cases e<;>first
  |rfl
  |cases h
theorem ZhT (h:ncp e=true) (t:Expr) (l:Nat) (env:PySem.Env):swapsWithSole [t] e l env=pure false:=Zgq h (some t) l env
theorem Zn1 (he:EV X g (xw W) e run) (hn:ncp e=true):SV X g W (.Expr e pos) (fun env h=>(run env h).bindX env fun _ h=>.ok (.nx env) h):=
 (ps_expr he.pe (Zgq hn _ _ _)).imp fun D σ H ⟨w,env,h,rr,re,q⟩=>bX.step q rr re fun w1 h1 H1 x v ext rr1 re1 rv q1=>q1.now rr1 σ re1
theorem ZfZ {i:Nat} {D:Ends} {run:Run Rk.D} (q:tS g W (fun env h=>(run env h).bindX env fun x h=>.ok (.nx (env.set i (.v x))) h) D σ H):tAsg (tE g (xw W) run) (gName i) D σ H:=by
 obtain⟨w,env,h,rr,re,q⟩:=q
 exact bX.step q rr re fun w1 h1 H1 x v ext rr1 re1 rv q1=>q1.now rr1 _ (re1.set i rv)
theorem sv_asg (G:GX g c k X) {i:Nat} {x:Str} {pos':Pos} (hi:X.N[i]? =some x) (hx:Loc X.env.scope x) (hf:X.fn x=true∨X.env.scope.names.lookup x=some .local) (he:EV X g (xw W) e run) (hn:ncp e=true):
  SV X g W (.Assign [.Name x pos'] e pos) (fun env h=>(run env h).bindX env fun x h=>.ok (.nx (env.set i (.v x))) h):=
 (ps_set G.nd hi hx he.pe (Zgq hn _ _ _) hf).imp fun D σ H q=>ZfZ q
theorem bk_fun {env:PySem.Env} (h:env.scope.kind=.function):env.blockKind=.function:=by unfold Env.blockKind; rw[h]; rfl
theorem Zn3 (G:GX g c k X) (hc:X.calm=true) (hk:X.env.scope.kind=.function) {i:Nat} {y:Str} {py spos:Pos} {elt:Expr} {ifs:List Expr} {scope:Scope} {own:List (Str × Nat)} {tgs:List Nat} {rI:Run Src} {rf:Run Bool} {re:Run D}
  (hy:X.N[i]? =some y) (hx:Loc X.env.scope y) (hf:X.fn y=true∨X.env.scope.names.lookup y=some .local)
  (hi:PI X tg iter (tI g (xw W) rI)) (ok:BlkOk X.N X.env.scope scope own) (hsub:∀i∈own.map (·.2),i∈tgs) (hsup:∀i∈tgs,i∈own.map (·.2))
  (hg:∀(s:Shared) (H:Hp) (C:Addr) (cl:List (Str × Addr)) (fp:List Addr),PG (X.blk s H scope (compEnvC scope cl C X.env) fp) tg (tG g tgs)) (ht:∀(s:Shared) (H:Hp) (C:Addr) (cl:List (Str × Addr)) (fp:List Addr),PTs (X.blk s H scope (compEnvC scope cl C X.env) fp) ifs (tB' g E0 rf))
  (he:∀(s:Shared) (H:Hp) (C:Addr) (cl:List (Str × Addr)) (fp:List Addr),PE (X.blk s H scope (compEnvC scope cl C X.env) fp) elt (tE g E0 re)) (hs:ZjT iter=true):
  SV X g W (.Assign [.Name y py] (.ListComp elt [⟨tg,iter,ifs,0⟩] scope pos) spos) (fun env h=>(Zpy rI tgs rf re env h).bindX env fun x h=>.ok (.nx (env.set i (.v x))) h):=by
 have hsw:swapsWith (.ListComp elt [⟨tg,iter,ifs,0⟩] scope pos) (some (.Name y py)) spos.line X.env=pure (X.env.blockKind == .function&&X.env.kindOf y == some .local&&py.line == pos.line&& !(scope.names.any fun (n,k)=>n == y&&(k == .local||k == .cell))):=rfl
 cases hb:(X.env.blockKind == .function&&X.env.kindOf y == some .local&&py.line == pos.line&& !(scope.names.any fun (n,k)=>n == y&&(k == .local||k == .cell))) with
 |true=>
  rw[hb] at hsw
  simp only[Zaa] at hb
  have hyl:X.env.scope.names.lookup y=some .local:=by
   have z:X.env.kindOf y=some .local:=by simpa using hb.1.1.2
   exact z
  refine (ps_setLc hc G.nd hy hyl hsw hi ok hg ht he (Zeq hs _)).imp fun D σ H q=>?_
  have q:=ZfZ q
  exact Zez hsub hsup q
 |false=>
  rw[hb] at hsw
  exact (ps_set G.nd hy hx ((pe_lc hc G.nd hi ok hg ht he (Zeq hs _)).imp fun σ H Q q=>Zez hsub hsup q) hsw hf).imp fun D σ H q=>ZfZ q
theorem Zpi (G:GX g c k X) (hc:X.calm=true) {E:SX'} {elt:Expr} {ifs:List Expr} {scope:Scope} {own:List (Str × Nat)} {tgs:List Nat} {rI:Run Src} {rf:Run Bool} {re:Run D}
  (hi:PI X tg iter (tI g E rI)) (ok:BlkOk X.N X.env.scope scope own) (hsub:∀i∈own.map (·.2),i∈tgs) (hsup:∀i∈tgs,i∈own.map (·.2))
  (hg:∀(s:Shared) (H:Hp) (C:Addr) (cl:List (Str × Addr)) (fp:List Addr),PG (X.blk s H scope (compEnvC scope cl C X.env) fp) tg (tG g tgs)) (ht:∀(s:Shared) (H:Hp) (C:Addr) (cl:List (Str × Addr)) (fp:List Addr),PTs (X.blk s H scope (compEnvC scope cl C X.env) fp) ifs (tB' g E0 rf))
  (he:∀(s:Shared) (H:Hp) (C:Addr) (cl:List (Str × Addr)) (fp:List Addr),PE (X.blk s H scope (compEnvC scope cl C X.env) fp) elt (tE g E0 re)) (hs:ZjT iter=true):
  EV X g E (.ListComp elt [⟨tg,iter,ifs,0⟩] scope pos) (Zpy rI tgs rf re):=
 EV.of G ((pe_lc hc G.nd hi ok hg ht he (Zeq hs _)).imp fun σ H Q q=>Zez hsub hsup q) fun _=>rfl
/-! ### several names at once -/
def isT:Expr→Bool
 | .Tuple .. =>true
 |_=>false
def swE (names:List (Str × NameKind)) (ts vs:List Expr):Option (List Str):=
 if !(ts.length == 2||ts.length == 3)||vs.length != ts.length then none else
 if vs.any fun | .Starred .. =>true |_=>false then none else
 let line:=(ts.head?.map (·.pos.line)).getD 0
 let nm:=ts.filterMap fun
  | .Name id pos=>if names.lookup id == some .local&&pos.line == line then some id else none
  |_=>none
 if nm.length != ts.length||nm.eraseDups.length != nm.length then none else
 if vs.all (foldedForSure 8) then none else
 if vs.all (constantsAlone 8) then none else some nm
def swOk (vs:List Expr):Bool:=vs.all (foldedForSure 8)|| !vs.all (constantsAlone 8)
theorem ZmO {env:PySem.Env} (hk:env.scope.kind=.function) {ts vs:List Expr} {k1 k2:Nat} {p1 p2:Pos} (ho:swOk vs=true):swappedStores [.Tuple ts k1 p1] (.Tuple vs k2 p2) env=pure (swE env.scope.names ts vs):=by
 have hb:=bk_fun hk
 have key:∀{c:Prop} [Decidable c] {a b:Sem (Option (List Str))} {a' b':Option (List Str)},a=pure a'→b=pure b'→(if c then a else b)=pure (if c then a' else b'):=fun {c} _ {a b a' b'} h1 h2=>by
  by_cases hc:c
  ·rw[if_pos hc,if_pos hc,h1]
  ·rw[if_neg hc,if_neg hc,h2]
 unfold swappedStores swE
 simp only[hb]
 have e1:(!(ts.length == 2||ts.length == 3)||vs.length != ts.length||ScopeKind.function != ScopeKind.function)=(!(ts.length == 2||ts.length == 3)||vs.length != ts.length):=by simp
 rw[e1]
 refine key rfl (key rfl (key rfl ?_))
 unfold swOk at ho
 by_cases h4:vs.all (foldedForSure 8)=true
 ·rw[if_pos h4,if_pos h4]
 ·have h5:vs.all (constantsAlone 8)=false:=by
   rw[ZaP] at ho
   rcases ho with z |z
   ·exact absurd z h4
   ·simpa using z
  rw[if_neg h4,if_neg h4,h5]
  rfl
def Zhr (is:List Nat) (run:Run D):Run Fl:=fun env h=>(run env h).bindX env fun x h=>Zbv ((ZbB is x env).map .nx) h
theorem ZgE {is:List Nat} {D:Ends} {run:Run Rk.D} (q:tS g W (Zhr is run) D σ H):tAsg (tE g (xw W) run) (tG g is) D σ H:=by
 obtain⟨w,env,h,rr,re,q⟩:=q
 refine bX.step q rr re fun w1 h1 H1 x v ext rr1 re1 rv q1=>?_
 obtain⟨f,hf,q1⟩:=Zfz q1
 obtain⟨e,he,rfl⟩:=Zan.mp hf
 exact⟨w1,env,h1,x,e,fun _=>False,rr1,re1.u,fun i z=>z.elim,rv,he,fun σ' re' _=>q1.now rr1 σ' re'⟩
theorem Zn2 (G:GX g c k X) (hc:X.calm=true) {es:List Expr} {is:List Nat} {kk:Nat} {p1:Pos} (t:TN X es is) (h2:2≤is.length) (he:EV X g (xw W) e run) (hn:ncp e=true) (ht:isT e=false):
  SV X g W (.Assign [.Tuple es kk p1] e pos) (Zhr is run):=by
 refine (ps_asg he.pe (Zkl G hc t h2) (ZhT hn _ _ _) ?_ rfl).imp fun D σ H q=>ZgE q
 cases e<;>first
  |rfl
  |cases ht
theorem Zlq (G:GX g c k X) (hc:X.calm=true) (hk:X.env.scope.kind=.function) {es vs:List Expr} {is:List Nat} {k1 k2:Nat} {p1 p2:Pos} (t:TN X es is) (h2:2≤is.length) (he:EV X g (xw W) (.Tuple vs k2 p2) run) (ho:swOk vs=true) (hw:swE X.env.scope.names es vs=none):
  SV X g W (.Assign [.Tuple es k1 p1] (.Tuple vs k2 p2) pos) (Zhr is run):=
 (ps_asg he.pe (Zkl G hc t h2) rfl (by rw[ZmO hk ho,hw]) rfl).imp fun D σ H q=>ZgE q
def tupR (rs:Run (List D)):Run D:=fun env h=>(rs env h).bind fun l h=>if l.length≤line then .ok (.tup l) h else .stuck
theorem ZhO {rs:Run (List Rk.D)} {is:List Nat} {D:Ends} (h2:2≤is.length) (q:tS g W (Zhr is (tupR rs)) D σ H):tEs g (xw W) rs σ H (fun vs H1=>vs.length=is.length∧D.nx (ZhG σ (is.zip vs)) H1):=by
 obtain⟨w,env,h,rr,re,q⟩:=q
 have e:Zhr is (tupR rs) env h=(rs env h).bindX env fun l h=>if l.length≤line then Zbv ((ZbB is (.tup l) env).map .nx) h else .stuck:=by
  unfold Zhr tupR
  cases hr:rs env h with
  |ok l h1=>
   rw[bind_ok,bindX_ok]
   by_cases hl:l.length≤line
   ·rw[if_pos hl,if_pos hl]; rfl
   ·rw[if_neg hl,if_neg hl]; rfl
  |_=>rfl
 rw[e] at q
 refine bXA.step q rr re fun w1 h1 H1 l vs ext rr1 re1 rvs q1=>?_
 obtain⟨_,q1⟩:=Zbx q1
 obtain⟨f,hf,q1⟩:=Zfz q1
 obtain⟨e,he,rfl⟩:=Zan.mp hf
 unfold ZbB at he
 split at he
 ·simp at h2
 ·obtain⟨hl,he⟩:=Zcr he
  subst he
  refine⟨by rw[rvs.length,hl],q1.now rr1 _ ?_⟩
  rw[Zc9]
  have z:REu g w1 h1.nx (fun _=>False) env σ:=re1.u
  exact (z.setAll rvs hl.symm).re fun j ⟨z,n⟩=>z
theorem nodup2 {i j:Nat} (h:[i,j].Nodup):i≠j:=by simp at h; exact h
theorem nodup3 {i j l:Nat} (h:[i,j,l].Nodup):i≠j∧i≠l∧j≠l:=by simp at h; exact⟨h.1.1,h.1.2,h.2⟩
theorem sv_par (G:GX g c k X) (hc:X.calm=true) (hk:X.env.scope.kind=.function) {es vs:List Expr} {is:List Nat} {k1 k2:Nat} {p1 p2:Pos} {rs:Run (List D)} (t:TN X es is) (hd:is.Nodup) (ha:PA X vs (tEs g (xw W) rs)) (ho:swOk vs=true) {nm:List Str} (hw:swE X.env.scope.names es vs=some nm)
  (hloc:∀e∈es,∀x p,e=.Name x p→X.env.scope.names.lookup x=some .local) (hnm:∀l,TN X es l→nm=es.filterMap fun | .Name x _=>some x |_=>none) (hl:es.length=vs.length) (h23:es.length=2∨es.length=3):
  SV X g W (.Assign [.Tuple es k1 p1] (.Tuple vs k2 p2) pos) (Zhr is (tupR rs)):=by
 have hw2:=(ZmO (k1:=k1) (k2:=k2) (p1:=p1) (p2:=p2) hk ho).trans (by rw[hw])
 have hnm:=hnm _ t
 rcases h23 with h2 |h3
 ·cases t with
  |nil=>cases h2
  |cons hi hx hf t=>
   cases t with
   |nil=>cases h2
   |cons hj hy hg t=>
    cases t with
    |cons _ _ _ _=>simp at h2
    |nil=>
     obtain⟨v1,v2,rfl⟩:∃a b,vs=[a,b]:=by
      match vs,hl with
      |[a,b],_=>exact⟨a,b,rfl⟩
     have hnm:nm=[_,_]:=hnm
     subst hnm
     refine (ps_par hc G.nd hi hj (nodup2 hd) (hloc _ Zag _ _ rfl) (hloc _ (Zaf _ Zag) _ _ rfl) ha hw2 rfl).imp fun D σ H q=>?_
     have q:=ZhO (by simp) q
     obtain⟨w,env,h,rr,re,q⟩:=q
     refine⟨w,env,h,rr,re,q.mono fun w1 h1 H1 l ext rr1 q1 xs rv=>?_⟩
     obtain⟨hl2,q1⟩:=q1 xs rv
     match xs,hl2 with
     |[a,b],_=>exact⟨a,b,rfl,q1⟩
 ·cases t with
  |nil=>cases h3
  |cons hi hx hf t=>
   cases t with
   |nil=>cases h3
   |cons hj hy hg t=>
    cases t with
    |nil=>cases h3
    |cons hm hz hh t=>
     cases t with
     |cons _ _ _ _=>simp at h3
     |nil=>
      obtain⟨v1,v2,v3,rfl⟩:∃a b c,vs=[a,b,c]:=by
       match vs,hl with
       |[a,b,c],_=>exact⟨a,b,c,rfl⟩
      have hnm:nm=[_,_,_]:=hnm
      subst hnm
      obtain⟨n1,n2,n3⟩:=nodup3 hd
      refine (ps_par3 hc G.nd hi hj hm n1 n2 n3 (hloc _ Zag _ _ rfl) (hloc _ (Zaf _ Zag) _ _ rfl) (hloc _ (Zaf _ (Zaf _ Zag)) _ _ rfl) ha hw2 rfl).imp fun D σ H q=>?_
      have q:=ZhO (by simp) q
      obtain⟨w,env,h,rr,re,q⟩:=q
      refine⟨w,env,h,rr,re,q.mono fun w1 h1 H1 l ext rr1 q1 xs rv=>?_⟩
      obtain⟨hl2,q1⟩:=q1 xs rv
      match xs,hl2 with
      |[a,b,c],_=>exact⟨a,b,c,rfl,q1⟩
/-! ### return,if,for,while -/
theorem sv_ret (he:EV X g (xw W) e run):SV X g W (.Return (some e) pos) (fun env h=>(run env h).bindX env fun x h=>.ok (.rt x) h):=
 (ps_ret he.pe).imp fun D σ H ⟨w,env,h,rr,re,q⟩=>bX.step q rr re fun w1 h1 H1 x v ext rr1 re1 rv q1=>q1.now rr1 v rv
theorem sv_if {rs rt:Run Fl} {p q:List Stmt} (he:EV X g (xw W) e run) (hp:SVs X g W p rs) (hq:SVs X g W q rt):SV X g W (.If e p q pos) (fun env h=>(Zdb run env h).bindX env fun k h=>if k then rs env h else rt env h):=
 (ps_if he.pt hp hq).imp fun D σ H ⟨w,env,h,rr,re,q⟩=>bXT.step q rr re fun w1 h1 H1 b ext rr1 re1 q1=>by
  cases b with
  |true=>exact iteT ⟨w1,env,h1,rr1,re1,q1⟩
  |false=>exact iteF ⟨w1,env,h1,rr1,re1,q1⟩
theorem Zlp {st:Stmt}:SV X g W st (fun _ _=>.stuck):=ps_never.imp fun D σ H ⟨w,env,h,rr,re,q⟩=>q.elim
def Zmy (tgs:List Nat) (rb:Run Fl):D→Env→AH→Res Fl:=fun x env h=>match ZbB tgs x env with
   |some e=>rb e h
   |none=>.stuck
def forR' (rI:Run Src) (tgs:List Nat) (rb:Run Fl):Run Fl:=fun env h=>(rI env h).bindX env fun s h=>ZiU s (Zmy tgs rb) (s.len h+1) 0 env h
theorem sv_for {rI:Run Src} {tgs:List Nat} {rb:Run Fl} {body:List Stmt} (hc:X.calm=true) (hp:PassesOwn (model X.prog X.w) X.A X.env X.xe) (hi:PI X tg iter (tI g (xw W) rI)) (hg:PG X tg (tG g tgs)) (hb:SVs X g W body rb) (hs:ZjT iter=true):
  SV X g W (.For tg iter body [] pos) (forR' rI tgs rb):=by
 refine (ps_for hp hc hi hg hb (Zeq hs _)).imp fun D σ H ⟨w,env,h,rr,re,q⟩=>?_
 refine⟨w,env,h,rr,re,(bX.to q re).mono fun w1 h1 H1 src ext rr1 q1 J sv=>?_⟩
 refine⟨fun i m σ H=>∃w env h,Ext w1 h1.nx w h.nx∧RR g w h H∧RE g w h.nx env σ∧Za4 g w h.nx (ZiU src (Zmy tgs rb) (m+1) i env h) NoX (PF g W D),⟨_,w1,env,h1,Ext.refl _ _,rr1,re.ext ext,q1⟩,?_⟩
 rintro i m σ H ⟨w,env,h,ext,rr,re,q⟩
 unfold ZiU at q
 cases hg:src.get i h with
 |none=>rw[hg] at q; exact q.elim
 |some o=>
  rw[hg] at q
  cases o with
  |none=>exact .inl ⟨sv.stop w h H i ext.f rr hg,q.now rr σ re⟩
  |some x=>
   obtain⟨go,yl⟩:=sv.it w h H i x ext.f rr hg
   refine .inr ⟨go,fun σ' H'=>∃m',m' < m∧∃w env h,Ext w1 h1.nx w h.nx∧RR g w h H'∧RE g w h.nx env σ'∧Za4 g w h.nx (ZiU src (Zmy tgs rb) (m'+1) (i+1) env h) NoX (PF g W D),fun _ _ z=>z,fun x' H' y=>?_⟩
   obtain⟨w4,ext4,rr4,rv4⟩:=yl x' H' y
   dsimp only at q
   cases hb:ZbB tgs x env with
   |none=>
    have e0:Zmy tgs rb x env h=.stuck:=by unfold Zmy; rw[hb]
    rw[e0] at q
    exact q.elim
   |some env'=>
    have e0:Zmy tgs rb x env h=rb env' h:=by unfold Zmy; rw[hb]
    rw[e0] at q
    have re4:=re.ext ext4
    refine⟨w4,env,h,x,env',fun _=>False,rr4,re4.u,fun i z=>z.elim,rv4,hb,fun σ2 re2 _=>?_⟩
    refine⟨w4,env',h,rr4,re2,(q.bind.from ext4).mono fun w5 h5 H5 f ext5 rr5 q5=>?_⟩
    have next:∀(e:Env) (σ5:L2.St),RE g w5 h5.nx e σ5→Za4 g w5 h5.nx (ZiU src (Zmy tgs rb) m (i+1) e h5) NoX (PF g W D)→∃m',m' < m∧∃w env h,Ext w1 h1.nx w h.nx∧RR g w h H5∧RE g w h.nx env σ5∧Za4 g w h.nx (ZiU src (Zmy tgs rb) (m'+1) (i+1) env h) NoX (PF g W D):=fun e σ5 re5 q5=>by
     cases m with
     |zero=>exact q5.elim
     |succ m'=>exact⟨m',Zbc _,w5,e,h5,(ext.trans ext4).trans ext5,rr5,re5,q5⟩
    cases f with
    |nx e=>exact fun σ5 re5=>next e σ5 re5 q5
    |ct e=>exact fun σ5 re5=>next e σ5 re5 q5
    |bk e=>exact fun σ5 re5=>q5.now rr5 σ5 re5
    |rt d=>exact q5.now rr5
    |xc x e=>exact q5.now rr5
/-! ### o[i]=e -/
def setiR (ro ri re:Run D):Run Fl:=fun env h=>(re env h).bindX env fun x h=>(ro env h).bindX env fun y h=>(ri env h).bindX env fun z h=>match y,z with
  | .ref n,.int k=>match h.cell n with
   | .lst l=>match L2.ixN l.length k with
    |some j=>.ok (.nx env) (h.put n (.lst (l.set j x)))
    |none=>.stuck
   |_=>.stuck
  |_,_=>.stuck
theorem ZnZ {o i:Expr} {ro ri re:Run D} {p1:Pos} (he:EV X g (xw W) e re) (ho:EV X g (xw W) o ro) (hi:EV X g (xw W) i ri) (hn:ncp e=true) (hp:nsl i=true):
  SV X g W (.Assign [.Subscript o i p1] e pos) (setiR ro ri re):=by
 have store:PG X (.Subscript o i p1) (gSub (tE g (xw W) ro) (tE g (xw W) ri) rSetL):=by
  refine pg_sub ho.pe hi.pe set_list ?_
  intro v
  cases i<;>first
   |rfl
   |cases hp
 refine (ps_asg he.pe store (ZhT hn _ _ _) rfl rfl).imp fun D σ H ⟨w,env,h,rr,renv,q⟩=>?_
 refine bX.step q rr renv fun w1 h1 H1 x v ext rr1 re1 rv q1=>?_
 refine bX.step q1 rr1 re1 fun w2 h2 H2 y v2 ext2 rr2 re2 rv2 q2=>?_
 refine bX.step q2 rr2 re2 fun w3 h3 H3 z v3 ext3 rr3 re3 rv3 q3=>?_
 have rv:=(rv.ext ext2 _ _).ext ext3 _ _
 have rv2:=rv2.ext ext3 _ _
 cases y with
 |ref n=>
  cases z with
  |int kk=>
   obtain⟨rfl,hm⟩:=Zb0.mp rv2
   rw[Za7.mp rv3]
   dsimp only at q3
   cases ec:h3.cell n with
   |lst l=>
    rw[ec] at q3
    dsimp only at q3
    obtain⟨xs,q4,r4⟩:=ZbF rr3 hm ec
    cases hj:ixN l.length kk with
    |none=>rw[hj] at q3; exact q3.elim
    |some j=>
     rw[hj] at q3
     refine⟨_,xs,kk,j,rfl,rfl,q4,by rw[r4.length]; exact hj,?_⟩
     exact q3 w3 _ (Ext.refl _ _) (rr3.store hm ec (r4.set j rv)) σ re3
   |_=>rw[ec] at q3; exact q3.elim
  |_=>exact q3.elim
 |_=>exact q3.elim
end
end Rk
/-! Rk.K:the same value and the same text. -/
namespace Rk
open PySem PySem.Spec PyProof.Rows L2
def rtx:PyData→Str
 | .none=>"None"
 | .bool b=>if b then "True" else "False"
 |d=>d.shown
def rRp (g:Gi):List V→Hp→VK→Prop:=fun xs H Q=>∃w h d x m,RR g w h H∧RV g w h.nx d x∧xs=[x]∧wt d=some m∧m≤60000∧dpt 60 d=true∧Q (.str (rtx (py d))) H
mutual
theorem Zef:∀(d e:D),Zbb d e=true→d=e
 | .non,e,h=>by cases e<;>(unfold Zbb at h; first |rfl |cases h)
 | .bl b,e,h=>by cases e<;>(unfold Zbb at h; first |(rw[Zbi] at h; rw[h]) |cases h)
 | .int b,e,h=>by cases e<;>(unfold Zbb at h; first |(rw[Zbi] at h; rw[h]) |cases h)
 | .str b,e,h=>by cases e<;>(unfold Zbb at h; first |(rw[Zbi] at h; rw[h]) |cases h)
 | .tup l,e,h=>by
  cases e with
  |tup m=>unfold Zbb at h; rw[dsames_eq l m h]
  |_=>unfold Zbb at h; cases h
 | .lst l,e,h=>by
  cases e with
  |lst m=>unfold Zbb at h; rw[dsames_eq l m h]
  |_=>unfold Zbb at h; cases h
 | .ref _,e,h=>by cases e<;>(unfold Zbb at h; cases h)
 | .ins _ _,e,h=>by cases e<;>(unfold Zbb at h; cases h)
 | .exc _ _,e,h=>by cases e<;>(unfold Zbb at h; cases h)
 | .scr _,e,h=>by cases e<;>(unfold Zbb at h; cases h)
 | .dct _ _,e,h=>by cases e<;>(unfold Zbb at h; cases h)
 | .set _,e,h=>by cases e<;>(unfold Zbb at h; cases h)
 | .ktp _,e,h=>by cases e<;>(unfold Zbb at h; cases h)
theorem dsames_eq:∀(l m:List D),dsames l m=true→l=m
 |[],[],_=>rfl
 |[],_::_,h=>by unfold dsames at h; cases h
 |_::_,[],h=>by unfold dsames at h; cases h
 |d::l,e::m,h=>by
  unfold dsames at h
  rw[Zaa] at h
  rw[Zef d e h.1,dsames_eq l m h.2]
end
section
variable {X:Cx} {g:Gi} {c:Bool} {k:Nat} {E:SX'} {e a b d tg iter:Expr} {pos:Pos}
theorem ZgC (G:GX g c k X):CallR X (.builtin "repr") (rRp g):=by
 intro pins s σ H xs us Q I r h
 obtain⟨w,h,d,x,m,rr,rv,rfl,hw,hm,hd,q⟩:=h
 obtain⟨u,rfl,rx⟩:=vals1 r
 obtain⟨h1,h2,h3,h4⟩:=ZhF d m hw (Zm2 d x rv)
 have hfit:(py d).shown.length≤sizeLine:=PyData.shown_fits_bulk (B:=13) (by decide) (by decide) h1 (by omega)
 have hcont:∀(a:Addr),u=.ref a→(∀i,d≠ .int i)→rtx (py d)=(py d).shown→wpAny (model X.prog X.w) X.A (call (.builtin "repr") [u]) (EP X pins σ Q) X.xe s:=fun a hu _ e=>by
  obtain⟨as,rd⟩:=Dp.reads I (py d) x u (by rw[G.K]; exact ZcJ rr.sub 60 d x hd rv) rx
  subst hu
  have hdep:=(Ze5 60 d x hd rv).2
  refine repr_of_reads' rd h2 (PyData.noDict_hsm h3) G.gd (by have:=G.un; omega) (fun _ _ e=>e) (fun h' u tk hk=>?_) hfit
  exact⟨.str (py d).shown,H,I.kept (t':=tk) hk,⟨u,rfl⟩,e ▸ q⟩
 cases d with
 |non=>
  rw[ZdY.mp rv] at rx
  cases rx
  exact P.repr_of_none ⟨.str (rtx (py .non)),H,I.tok _,⟨_,by unfold py; rfl⟩,q⟩
 |bl bb=>
  rw[Zde.mp rv] at rx
  cases rx
  exact P.repr_of_bool ⟨.str (rtx (py (.bl bb))),H,I.tok _,⟨_,by unfold py; cases bb<;>rfl⟩,q⟩
 |int i=>
  rw[Za7.mp rv] at rx
  obtain⟨t,rfl⟩:=rx
  have hl:i.natAbs.log2 < 1920:=by
   unfold py at h2
   simpa [PyData.showable] using h2
  refine P.repr_of_int hl ⟨.str (rtx (py (.int i))),H,I.tok _,⟨s.toks,?_⟩,q⟩
  unfold py
  show Value.str (Str.ofString (toString i)) _=Value.str (PyData.int i).shown _
  rw[PyData.shown_int]
 |str z=>
  rw[(Za1.mp rv).1] at rx
  obtain⟨t,rfl⟩:=rx
  have e:(PyData.str (stt z)).shown=reprText (stt z):=by simp[PyData.shown]
  refine P.repr_of_str ⟨.str (rtx (py (.str z))),H,I.tok _,⟨s.toks,?_⟩,q⟩ (by rw[← e]; unfold py at hfit; exact hfit)
  unfold py
  show Value.str (reprText (stt z)) _=Value.str (PyData.str (stt z)).shown _
  rw[e]
 |tup l=>
  obtain⟨p,ys,ex,_,_⟩:=ZcE rv
  rw[ex] at rx
  cases rx
  exact hcont p rfl (fun _ z=>nomatch z) (by unfold py; rfl)
 |lst l=>
  obtain⟨p,ys,ex,_,_⟩:=Zbd.mp rv
  rw[ex] at rx
  cases rx
  exact hcont p rfl (fun _ z=>nomatch z) (by unfold py; rfl)
 |_=>unfold wt at hw; cases hw
theorem Zim {w:Wd} {h:AH} {H:Hp} (r:RR g w h H):∀(l:List D) (xs:List V),RVs g w h.nx l xs→∃(w1:Wd) (h1:AH),RR g w1 h1 H∧Ext w h.nx w1 h1.nx∧h1.nx=h.nx∧
  (∀n,n < h.nx→w1.m n=w.m n∧(h1.cell n=h.cell n∨∃l,h.cell n=.lst l∧∃xs,w1.F (w.m n)=some (.lst xs)∧RVs g w1 h1.nx l xs))∧RVs g w1 h1.nx (l.map fun y=>ZeF y h) xs
 |[],xs,t=>⟨w,h,r,Ext.refl _ _,rfl,fun n _=>⟨rfl,.inl rfl⟩,t⟩
 |d::l,xs,t=>by
  obtain⟨x,ys,rfl,rd,rl⟩:=ZaQ.mp t
  obtain⟨w1,h1,r1,e1,n1,inv,rl1⟩:=Zim r l ys rl
  have same:ZeF d h=d→∃(w1:Wd) (h1:AH),RR g w1 h1 H∧Ext w h.nx w1 h1.nx∧h1.nx=h.nx∧(∀n,n < h.nx→w1.m n=w.m n∧(h1.cell n=h.cell n∨∃l,h.cell n=.lst l∧∃xs,w1.F (w.m n)=some (.lst xs)∧RVs g w1 h1.nx l xs))∧RVs g w1 h1.nx ((d::l).map fun y=>ZeF y h) (x::ys):=fun e=>
   ⟨w1,h1,r1,e1,n1,inv,by rw[Zap,e]; exact ZaQ.mpr ⟨x,ys,rfl,rd.ext e1,rl1⟩⟩
  cases d with
  |ref n=>
   obtain⟨rfl,hn⟩:=Zb0.mp rd
   cases hc:h.cell n with
   |lst l0=>
    have ed:ZeF (.ref n) h=.lst l0:=by unfold ZeF; dsimp only; rw[hc]
    obtain⟨em,q⟩:=inv n hn
    rcases q with q |⟨l1,c1,xs1,f1,v1⟩
    ·have hn1:n < h1.nx:=by rw[n1]; exact hn
     have c:=r1.cell n hn1
     rw[q,hc] at c
     obtain⟨_,xs0,c2,c3⟩:=c
     obtain⟨r2,x2⟩:=r1.still hn1 (q.trans hc) c2
     refine⟨_,_,r2,e1.trans x2,n1,fun j hj=>⟨(inv j hj).1,?_⟩,?_⟩
     ·by_cases e:j=n
      ·subst e
       exact .inr ⟨l0,hc,xs0,by rw[← em]; exact upd_same,RVs.ext x2 _ _ c3⟩
      ·rcases (inv j hj).2 with q3 |⟨l3,c5,xs3,f3,v3⟩
       ·exact .inl ((if_neg e).trans q3)
       ·exact .inr ⟨l3,c5,xs3,x2.F _ _ f3,RVs.ext x2 _ _ v3⟩
     ·rw[Zap,ed]
      exact ZaQ.mpr ⟨_,ys,rfl,Zbd.mpr ⟨_,xs0,rfl,by rw[← em]; exact upd_same,RVs.ext x2 _ _ c3⟩,RVs.ext x2 _ _ rl1⟩
    ·rw[hc] at c1
     cases c1
     refine⟨w1,h1,r1,e1,n1,inv,?_⟩
     rw[Zap,ed]
     exact ZaQ.mpr ⟨_,ys,rfl,Zbd.mpr ⟨_,xs1,rfl,f1,v1⟩,rl1⟩
   |_=>exact same (by unfold ZeF; dsimp only; rw[hc])
  |_=>exact same rfl
theorem Znw {w:Wd} {h:AH} {H:Hp} {d:D} {x:V} (r:RR g w h H) (t:RV g w h.nx d x):∃(w1:Wd) (h1:AH),RR g w1 h1 H∧RV g w1 h1.nx (Zmt d h) x:=by
 cases d with
 |ref n=>
  show ∃(w1:Wd) (h1:AH),RR g w1 h1 H∧RV g w1 h1.nx (ZeF (.ref n) h) x
  unfold ZeF
  dsimp only
  cases e:h.cell n with
  |lst l=>
   obtain⟨rfl,hn⟩:=Zb0.mp t
   have c:=r.cell n hn
   rw[e] at c
   obtain⟨_,xs,c2,c3⟩:=c
   obtain⟨r1,x1⟩:=r.still hn e c2
   exact⟨_,_,r1,Zbd.mpr ⟨_,xs,rfl,upd_same,RVs.ext x1 _ _ c3⟩⟩
  |_=>exact⟨w,h,r,t⟩
 |lst l=>
  obtain⟨a,xs,rfl,f,v⟩:=Zbd.mp t
  obtain⟨w1,h1,r1,e1,_,_,v1⟩:=Zim r l xs v
  exact⟨w1,h1,r1,Zbd.mpr ⟨a,xs,rfl,e1.F _ _ f,v1⟩⟩
 |_=>exact⟨w,h,r,t⟩
theorem Zfb:bootBuiltins "repr"=some (.builtin "repr"):=by decide+kernel
theorem Zpf (G:GX g c k X) {i j:Nat} {x y:Str} {p1 p2 p3 p4 p5 p6 p7 p8 p9 p10:Pos} (hi:X.N[i]? =some x) (hj:X.N[j]? =some y) (hx:Vis X.env.scope x) (hy:Vis X.env.scope y) (dx:(x == ("__debug__":Str))=false) (cx:(x == ("__classdict__":Str))=false) (dy:(y == ("__debug__":Str))=false) (cy:(y == ("__classdict__":Str))=false)
  (hg:Gl X "repr") (hm:X.mg "repr"=none):
  EV X g E (.BoolOp .And [.Compare (.Name x p1) [.Eq] [.Name y p2] p3,.Compare (.Call (.Name "repr" p4) [.Name x p5] [] p6) [.Eq] [.Call (.Name "repr" p7) [.Name y p8] [] p9] p10] pos) (fun env h=>(ldV env i h).bind fun x h=>(ldV env j h).bind fun y h=>Zdg x y h):=by
 have v1:∀{p:Pos},PE X (.Name x p) (tVar i):=fun {p}=>pe_var hi hx dx cx
 have v2:∀{p:Pos},PE X (.Name y p) (tVar j):=fun {p}=>pe_var hj hy dy cy
 have r1:PE X (.Call (.Name "repr" p4) [.Name x p5] [] p6) (tCB (rRp g) (tCons (tVar i) tNil)):=pe_callB (ZgC G) hg hm Zfb (pa_cons v1 pa_nil)
 have r2:PE X (.Call (.Name "repr" p7) [.Name y p8] [] p9) (tCB (rRp g) (tCons (tVar j) tNil)):=pe_callB (ZgC G) hg hm Zfb (pa_cons v2 pa_nil)
 have c1:PE X (.Compare (.Name x p1) [.Eq] [.Name y p2] p3) (tOp (rEqD X.K) (tVar i) (tVar j)):=pe_cmpR (op_eqD (by have:=G.un; omega)) v1 v2 rfl
 have c2:=pe_cmpR (pos:=p10) op_eq r1 r2 rfl
 have c1t:=pt_cmpR (pos:=p3) (op_eqD (X:=X) (by have:=G.un; omega)) (v1 (p:=p1)) (v2 (p:=p2)) rfl
 have c2t:=pt_cmpR (pos:=p10) op_eq r1 r2 rfl
 have key:∀{w:Wd} {env:Env} {h:AH} {σ:L2.St} {H:Hp} {XE:XK} {P:Wd→AH→Hp→D→Prop},RR g w h H→RE g w h.nx env σ→Za4 g w h.nx ((ldV env i h).bind fun x h=>(ldV env j h).bind fun y h=>Zdg x y h) XE P→
   ∃(d:D) (m:Nat) (x1 x2:V) (w1 w2:Wd) (h1 h2:AH),σ[i]? =some (some x1)∧σ[j]? =some (some x2)∧RR g w1 h1 H∧RR g w2 h2 H∧RV g w1 h1.nx d x1∧RV g w2 h2.nx d x2∧wt d=some m∧m≤60000∧dpt 60 d=true∧P w h H (.bl true):=by
  intro w env h σ H XE P rr re q
  unfold ldV at q
  split at q
  ·rename_i d1 he1
   rw[bind_ok] at q
   split at q
   ·rename_i d2 he2
    rw[bind_ok] at q
    obtain⟨x1,s1,t1⟩:=re.at_ _ _ he1
    obtain⟨x2,s2,t2⟩:=re.at_ _ _ he2
    unfold Zdg at q
    split at q
    ·rename_i hs
     have ep:=Zef _ _ hs
     subst ep
     cases hw:wt d1 with
     |none=>rw[hw] at q; exact q.elim
     |some m=>
      rw[hw] at q
      obtain⟨⟨hm1,hd⟩,q3⟩:=Zbx q
      exact⟨d1,m,x1,x2,w,w,h,h,s1,s2,rr,rr,t1,t2,hw,hm1,hd,q3.now rr⟩
    ·obtain⟨hs,q2⟩:=Zbx q
     clear q
     have ep:=Zef _ _ hs
     obtain⟨w1,h1,r1,u1⟩:=Znw rr t1
     obtain⟨w2,h2,r2,u2⟩:=Znw rr t2
     rw[← ep] at u2
     cases hw:wt (Zmt d1 h) with
     |none=>rw[hw] at q2; exact q2.elim
     |some m=>
      rw[hw] at q2
      obtain⟨⟨hm1,hd⟩,q3⟩:=Zbx q2
      exact⟨Zmt d1 h,m,x1,x2,w1,w2,h1,h2,s1,s2,r1,r2,u1,u2,hw,hm1,hd,q3.now rr⟩
   ·exact q.elim
  ·exact q.elim
 refine⟨PE.imp (pe_andT c1 (pe_one (pos:=pos) c2)) fun σ H Q ⟨w,env,h,rr,re,q⟩=>?_,(PW.imp' (pw_and c1t (pw_and1 c2t)) fun σ H Q ⟨w,env,h,rr,re,q⟩=>?_).pt⟩
 ·obtain⟨d,m,x1,x2,w1,w2,h1,h2,s1,s2,r1,r2,t1,t2,hw,hm1,hd,q⟩:=key rr re q
  have hp1:=ZcJ r1.sub 60 d x1 hd t1
  have hp2:=ZcJ r2.sub 60 d x2 hd t2
  refine⟨x1,s1,x2,s2,py d,py d,by rw[G.K]; exact hp1,by rw[G.K]; exact hp2,ZbC hd t1,ZbC hd t2,true,?_,iteT ?_⟩
  ·rw[Zew 60 d hd]; exact rfl
  ·refine⟨x1,s1,w1,h1,d,x1,m,r1,t1,rfl,hw,hm1,hd,x2,s2,w2,h2,d,x2,m,r2,t2,rfl,hw,hm1,hd,rfl,?_⟩
   rw[ZaJ rfl]
   exact q _ (Zde.mpr rfl)
 ·have e:Zdb (fun env h=>(ldV env i h).bind fun x h=>(ldV env j h).bind fun y h=>Zdg x y h) env h=((ldV env i h).bind fun x h=>(ldV env j h).bind fun y h=>Zdg x y h).bind fun x h=>Zbv (ZbM x) h:=rfl
  rw[e] at q
  obtain⟨d,m,x1,x2,w1,w2,h1,h2,s1,s2,r1,r2,t1,t2,hw,hm1,hd,q⟩:=key rr re q.bind
  have hp1:=ZcJ r1.sub 60 d x1 hd t1
  have hp2:=ZcJ r2.sub 60 d x2 hd t2
  refine⟨x1,s1,x2,s2,py d,py d,by rw[G.K]; exact hp1,by rw[G.K]; exact hp2,ZbC hd t1,ZbC hd t2,true,by rw[Zew 60 d hd],iteT ?_⟩
  refine⟨x1,s1,w1,h1,d,x1,m,r1,t1,rfl,hw,hm1,hd,x2,s2,w2,h2,d,x2,m,r2,t2,rfl,hw,hm1,hd,rfl,true,by rw[ZaJ rfl],?_⟩
  exact q.now rr
end
end Rk
/-! Rk.Lf:the rules of errors and lambdas. -/
namespace Rk
open PySem PySem.Spec PyProof.Rows L2
theorem Za4.nx {α:Type} {g:Gi} {w:Wd} {n:Nat} {r:Res α} {X X':XK} {P:Wd→AH→Hp→α→Prop} (q:Za4 g w n r X P) (h:∀x h',r≠ .exc x h'):Za4 g w n r X' P:=by
 cases r with
 |ok a h1=>exact q
 |exc x h1=>exact absurd rfl (h x h1)
 |stuck=>exact q
section
variable {X:Cx} {g:Gi} {gG:G} {c:Bool} {k:Nat} {E:SX'} {W:L2.WX} {call:Cl}
structure XcAt (X:Cx) (g:Gi) (gG:G) (kc:Nat) (x:Str):Prop where
 ex:∃(fI:Addr) (code:Str) (fld:Option Str),ZnN X.prog X.K (g.ca kc) fI code fld∧(∀f,fld=some f→f≠("code":Str))∧PySem.W.subIn X.K (.ref (g.ca kc)) (.type "BaseException")=some true∧PySem.W.typeIn X.K (.ref (g.ca kc))=some (.type "type")∧PySem.W.keepIn X.K (.ref (g.ca kc))=true∧X.mg x=some (.ref (g.ca kc))∧g.xk kc∧
  ∃cd fo,gG.xcl kc=some (cd,fo)∧code=stt cd∧okS cd=true∧fld=fo.map g.an∧∀f,fo=some f→f < g.nn
 ic:gG.cod < g.nn
 ec:g.an gG.cod=("code":Str)
theorem sv_rse (G:GX g c k X) (hc:X.calm=true) (tk:Takes X W) {kc:Nat} {x:Str} {es:List Expr} {rs:Run (List D)} {p pos pos':Pos} (XC:XcAt X g gG kc x) (hg:Gl X x) (hdb:(x == ("__debug__":Str))=false) (ha:PA X es (tEs g (xw W) rs)) (hns:ZdK es=true) (h0:es=[]→∀env h,rs env h=.ok [] h):
  SV X g W (.Raise (some (.Call (.Name x p) es [] pos)) none pos') (fun env h=>(rs env h).bindX env fun l h=>Zbv ((mkX gG kc l).map fun x=>.xc x env) h):=by
 obtain⟨fI,code,fld,XI,hn,hsub,hty,hk,hm,xk,cd,fo,hcl,rfl,okc,hfo,hff⟩:=XC.ex
 refine (ps_raise hc tk (pmk_n (ZmZ (p:=p) (pos:=pos) XI (by have:=G.dp; omega) hn hsub hty hk hg hm hdb ha hns fun z σ H Q ⟨w,env,h,rr,re,q⟩=>by rw[h0 z] at q; exact q.now rr [] RVs.nil).pmk)).imp fun DD σ H ⟨w,env,h,rr,re,q⟩=>?_
 refine bXA.step q rr re fun w1 h1 H1 l vs ext rr1 re1 rvs q1=>?_
 obtain⟨xx,hx,q1⟩:=ZcZ q1
 obtain⟨xd,hxd,rfl⟩:=Zan.mp hx
 have sc:∀w n,RV g w n (.str cd) (.str (stt cd)):=fun w n=>Za1.mpr ⟨rfl,okc⟩
 have fin:∀(fs:List (Nat × D)),xd=.exc kc fs→(∀w n,Ext w1 h1.nx w n→RVf g w n fs (xFs (stt cd) fld vs))→∀d,H1 d=none→W (.ref (g.ca kc)) (some d) σ (upd H1 d (.xd (xFs (stt cd) fld vs))):=fun fs e1 e2 d hd=>by
  subst e1
  obtain⟨rr2,ext2⟩:=rr1.freeze (o:=.xd (xFs (stt cd) fld vs)) hd
  exact q1 _ _ ext2 rr2 σ _ _ (re1.ext ext2) ⟨kc,fs,d,_,rfl,rfl,rfl,upd_same,e2 _ _ ext2,xk⟩
 unfold mkX at hxd
 rw[hcl] at hxd
 cases fo with
 |none=>
  have hfo:fld=none:=hfo
  subst hfo
  cases l with
  |nil=>
   cases hxd
   rw[Zbo.mp rvs]
   refine⟨rfl,fun d hd=>?_⟩
   rw[Zbo.mp rvs] at fin
   exact fin _ rfl (fun w n e=>ZbV.mpr ⟨_,_,by rw[XC.ec]; rfl,XC.ic,sc _ _,Zch.mpr rfl⟩) d hd
  |cons _ _=>cases hxd
 |some f=>
  have hfo:fld=some (g.an f):=hfo
  subst hfo
  cases l with
  |nil=>cases hxd
  |cons v r=>
   cases r with
   |cons _ _=>cases hxd
   |nil=>
    cases hxd
    obtain⟨u,r2,rfl,rv,r3⟩:=ZaQ.mp rvs
    have r3:=Zbo.mp r3
    subst r3
    refine⟨⟨u,rfl⟩,fun d hd=>?_⟩
    exact fin _ rfl (fun w n e=>ZbV.mpr ⟨_,_,by rw[XC.ec]; rfl,XC.ic,sc _ _,ZbV.mpr ⟨u,[],rfl,hff f rfl,rv.ext e,Zch.mpr rfl⟩⟩) d hd
end
end Rk
/-! Rk.Lg:the rules of lambdas. -/
namespace Rk
open PySem PySem.Spec PyProof.Rows L2
structure ZpY (X:Cx) (g:Gi) (lamB:Nat→Zd6→Bool):Prop where
 lk:LamK X g
 ok:∀k L,lamB k L=true→g.lamOk k L
 free:∀k L,lamB k L=true→∀y∈L.scope.names,y.2=.free→X.env.scope.names.lookup y.1=some .cell∨X.env.scope.names.lookup y.1=some .free
 par:∀k L,lamB k L=true→(ZoR L.params).isSome=true
section
variable {X:Cx} {g:Gi} {gG:G} {c:Bool} {k:Nat} {E:SX'} {W:L2.WX} {call:Cl} {lamB:Nat→Zd6→Bool}
structure ZpN (X:Cx) (g:Gi) (gG:G) (call:Cl) (k:Nat) (wx wsx:Str):Prop where
 low:(∀kl env h,call.why kl env h=.stuck)∨∃(m:Nat) (callm:Cl) (fw fs:Addr) (fd fds:FuncData) (a a2:Str),k=m+1∧call.why=whyR gG callm∧X.mg wx=some (.ref fw)∧PySem.W.keepIn X.K (.ref fw)=true∧ZpO X.prog X.w X.K X.mg X.base g gG callm m fw fd a∧(wsx≠""→X.mg wsx=some (.ref fs)∧PySem.W.keepIn X.K (.ref fs)=true∧ZnL X.K X.mg fw fs fds a2)∧∀kl L,g.lamOk kl L→LamAt X g gG callm m kl L
end
end Rk
/-! Rk.Lh:a frame's own part; a def that gets the exception that is handled. -/
namespace Rk
open PySem PySem.Spec PyProof.Rows L2
def Gi.at (g:Gi) (pn:List (Addr × Obj)) (cells:List (Str × Addr)) (qual:Str) (lamOk:Nat→Zd6→Prop) (me:Option Addr:=none):Gi:={g with pn:=pn,cells:=cells,qual:=qual,lamOk:=lamOk,me:=me}
section
variable {g:Gi} {pn:List (Addr × Obj)} {cells:List (Str × Addr)} {qual:Str} {lamOk:Nat→Zd6→Prop} {me:Option Addr} {w:Wd} {n:Nat}
mutual
theorem ZhJ:∀(d:D) (v:V),RV (g.at pn cells qual lamOk me) w n d v↔RV g w n d v
 | .non,v=>by unfold RV; exact Iff.rfl
 | .bl _,v=>by unfold RV; exact Iff.rfl
 | .int _,v=>by unfold RV; exact Iff.rfl
 | .str _,v=>by unfold RV; exact Iff.rfl
 | .tup l,v=>by
  unfold RV
  exact exists_congr fun a=>exists_congr fun xs=>and_congr_right fun _=>and_congr Iff.rfl (rvs_at' l xs)
 | .lst l,v=>by
  unfold RV
  exact exists_congr fun a=>exists_congr fun xs=>and_congr_right fun _=>and_congr_right fun _=>rvs_at' l xs
 | .scr l,v=>by unfold RV; exact Iff.rfl
 | .ref k,v=>by unfold RV; exact Iff.rfl
 | .ins c fs,v=>by
  unfold RV
  exact and_congr Iff.rfl (exists_congr fun a=>exists_congr fun dx=>exists_congr fun gs=>and_congr_right fun _=>and_congr Iff.rfl (and_congr_right fun _=>rvf_at' fs gs))
 | .dct t l,v=>by
  unfold RV
  exact and_congr Iff.rfl (exists_congr fun a=>exists_congr fun xs=>and_congr_right fun _=>and_congr_right fun _=>rvd_at' l xs)
 | .ktp l,v=>by
  unfold RV
  exact exists_congr fun a=>exists_congr fun xs=>and_congr_right fun _=>and_congr Iff.rfl (rvs_at' l xs)
 | .set _,v=>by unfold RV; exact Iff.rfl
 | .exc _ _,v=>by unfold RV; exact Iff.rfl
 | .kdt _,v=>by unfold RV; exact Iff.rfl
theorem rvs_at':∀(l:List D) (xs:List V),RVs (g.at pn cells qual lamOk me) w n l xs↔RVs g w n l xs
 |[],xs=>by unfold RVs; exact Iff.rfl
 |d::l,xs=>by
  unfold RVs
  exact exists_congr fun x=>exists_congr fun r=>and_congr_right fun _=>and_congr (ZhJ d x) (rvs_at' l r)
theorem rvf_at':∀(l:List (Nat × D)) (xs:List (Str × V)),RVf (g.at pn cells qual lamOk me) w n l xs↔RVf g w n l xs
 |[],xs=>by unfold RVf; exact Iff.rfl
 |(i,d)::l,xs=>by
  unfold RVf
  exact exists_congr fun x=>exists_congr fun r=>and_congr Iff.rfl (and_congr Iff.rfl (and_congr (ZhJ d x) (rvf_at' l r)))
theorem rvd_at':∀(l:List (D × D)) (xs:List (Key × V)),RVd (g.at pn cells qual lamOk me) w n l xs↔RVd g w n l xs
 |[],xs=>by unfold RVd; exact Iff.rfl
 |(i,d)::l,xs=>by
  unfold RVd
  exact exists_congr fun k=>exists_congr fun x=>exists_congr fun r=>and_congr Iff.rfl (and_congr Iff.rfl (and_congr (ZhJ d x) (rvd_at' l r)))
end
theorem ZdP:RV (g.at pn cells qual lamOk me)=RV g:=by
 funext w n d v
 exact propext (ZhJ d v)
theorem Zcc:RVs (g.at pn cells qual lamOk me)=RVs g:=by
 funext w n d v
 exact propext (rvs_at' d v)
theorem ZcN:RVf (g.at pn cells qual lamOk me)=RVf g:=by
 funext w n d v
 exact propext (rvf_at' d v)
theorem rvd_at:RVd (g.at pn cells qual lamOk me)=RVd g:=by
 funext w n d v
 exact propext (rvd_at' d v)
theorem rvt_at:RVt (g.at pn cells qual lamOk me)=RVt g:=by
 funext w n l
 induction l with
 |nil=>funext xs; rfl
 |cons p l ih=>funext xs; unfold RVt; rw[ih]; simp only[ZdP]
theorem rc_at:RC (g.at pn cells qual lamOk me)=RC g:=by
 funext w n H a c
 cases c with
 |no=>rfl
 |lst l=>unfold RC; simp only[Zcc]
 |ins c fs=>unfold RC; simp only[ZcN]; rfl
 |dct t l=>unfold RC; simp only[rvd_at]
 |tdc l=>unfold RC; simp only[rvt_at]
theorem Zdf:RR (g.at pn cells qual lamOk me)=RR g:=by
 funext w h H
 refine propext ⟨fun r=>⟨r.sub,r.subz,fun k hk=>by have q:=r.cell k hk; rw[rc_at] at q; exact q,r.inj,r.oc,r.tabs⟩,fun r=>⟨r.sub,r.subz,fun k hk=>by rw[rc_at]; exact r.cell k hk,r.inj,r.oc,r.tabs⟩⟩
theorem rx_at:RX (g.at pn cells qual lamOk me)=RX g:=by
 funext w n x cls d H
 unfold RX
 rw[ZcN]
 rfl
theorem ZbN {α:Type} {r:Res α} {X:XK} {P:Wd→AH→Hp→α→Prop}:Za4 (g.at pn cells qual lamOk me) w n r X P=Za4 g w n r X P:=by
 cases r with
 |ok a h=>unfold Za4; rw[Zdf]
 |exc x h=>unfold Za4; rw[Zdf,rx_at]
 |stuck=>rfl
theorem Zjr {call:Cl} {c:Bool} {f:Nat}:spF (g.at pn cells qual lamOk me) call c f=spF g call c f:=by
 funext vs H Q E
 unfold spF PV
 simp only[Zdf,Zcc,ZbN,ZdP]
theorem spX_at {call:Cl} {f:Nat}:spX (g.at pn cells qual lamOk me) call f=spX g call f:=by
 funext p H Q
 unfold spX PV
 simp only[Zdf,ZcN,ZbN,ZdP]
 rfl
theorem ZoU {f n:Nat} {ks:List Str} {sel:List Nat} (h:KB g f n ks sel):KB (g.at pn cells qual lamOk me) f n ks sel:=⟨h.bind⟩
end
section
variable {P:Program} {w:World} {K:PySem.W.Frag} {mg:Str→Option Value} {base:Heap}
theorem fnx_of {k:Nat} {x qual y:Str} {params:Arguments} {body:List Stmt} {scope:Scope} {f:Addr} {fd:FuncData} {N:List Str} {sp:Addr × Obj→Hp→VK→Prop} (F:FunD K x qual params body scope [] [] f fd) (S:FnScope N [y] scope)
  (hbody:∀(cdv:Value) (A:Around) (outer:List PySem.Env) (s:Shared) (H:Hp) (p:Addr × Obj) (Q:VK),Zcf k (A.deeper (envOfC qual scope s.heap.objs.size f cdv))→sp p H Q→
   ∃t,PSs (L2H.cxH (CXZ false P w) P w K mg base N qual scope f cdv A outer s H (fun _ _ _=>False) p) body t∧t {nx:=fun _ H'=>Q .non H',rt:=Q} (L2.start N [.ref p.1]) H):FnX P w K mg base (k+1) f fd [y] sp:=by
 obtain⟨oc,od,dV,kV,doc,pm,an,cdv,ct,osl,rfl,lk,hcd,_,_⟩:=F.ex
 constructor
 intro A outer s H p Q room hpin e0 hb hsp
 have KX:K.In s.heap:=e0.mod.kin.keeps fun b o e=>(e0.bs b o e).1
 have lim:s.heap.NoLimit:=e0.mod.nolimit.keeps fun b o e=>(e0.bs b o e).1
 have kinds:∀q∈[y].zip [Value.ref p.1],scope.names.lookup q.1=some .local∨(scope.names.lookup q.1=some .cell∧((cellsFrom (s.heap.objs.size+1) scope.names []).lookup q.1).isSome=true):=by
  intro q hq
  rw[Zar.mp (show q∈[(y,Value.ref p.1)] from hq)]
  rcases S.par y (Zar.mpr rfl) with z |z
  ·exact .inl z
  ·exact .inr ⟨z,PySem.W.cellsFrom_some _ _ _ (.inl z)⟩
 refine codeAny_call_function (by have:=room.dp; omega) (KX _ _ lk) rfl S.co S.gen rfl (PySem.W.codeRec_of KX hcd) (hb _ _ _ _ ?_)
 refine wpAny_newFunctionEnv_cells S.kind kinds ?_
 intro env henv s1 entered
 subst henv
 refine⟨lim.keeps entered.toInCall.keep,codeAny_func ?_⟩
 obtain⟨t,ht,hq⟩:=hbody cdv A outer s H p Q (room.deeper _) hsp
 have inv:=L2H.inv_startH (CX:=CXZ false P w) (E:=fun _ _ _=>False) (vs:=[.ref p.1]) S hpin e0 rfl (.cons rfl .nil) entered
 refine wpAny_mono (ht.run [] s1 _ H _ inv hq) ?_ fun e s' z=>z
 intro fl s' hfl
 cases fl with
 |ret u=>
  obtain⟨v,σ',H',J,rv,q⟩:=hfl
  exact⟨v,H',J.os,J.bare,J.base,J.hok,rv,q⟩
 |next=>
  obtain⟨σ',H',J,q⟩:=hfl
  exact⟨.non,H',J.os,J.bare,J.base,J.hok,rfl,q⟩
 |brk=>
  obtain⟨_,_,_,q⟩:=hfl
  exact q.elim
 |cont=>
  obtain⟨_,_,_,q⟩:=hfl
  exact q.elim
end
end Rk
/-! Rk.Ca:attributes and methods of instances. -/
namespace Rk
open PySem PySem.Spec PyProof.Rows L2
section
variable {X:Cx} {g:Gi} {z c:Bool} {k:Nat} {E:SX'} {e a b d:Expr} {pos p1 p2:Pos} {es:List Expr} {ra:Run D} {rs rk:Run (List D)}
theorem ZjD {w:Wd} {n j:Nat} {fs:List (Nat × D)} {x:V} (h:RV g w n (.ins j fs) x):∃a dx gs,x=.ref a∧w.F a=some (.ins (g.cb j) dx gs)∧w.F dx=some (.own a)∧RVf g w n fs gs:=by unfold RV at h; exact h.2
theorem Zop {w:Wd} {n j:Nat} {fs:List (Nat × D)} {x:V} (hc:j < g.nc) (h:∃a dx gs,x=.ref a∧w.F a=some (.ins (g.cb j) dx gs)∧w.F dx=some (.own a)∧RVf g w n fs gs):RV g w n (.ins j fs) x:=by unfold RV; exact⟨hc,h⟩
theorem Zoq {w:Wd} {n j:Nat} {fs:List (Nat × D)} {x:V} (h:RV g w n (.ins j fs) x):j < g.nc:=by unfold RV at h; exact h.1
end
end Rk
/-! Rk.Cb:attributes read,methods called,instances made. -/
namespace Rk
open PySem PySem.Spec PyProof.Rows L2
def spP (g:Gi) (call:Cl) (f:Nat):Sp:=fun vs H Q E=>∃w ds h,RR g w h H∧RVs g w h.nx ds vs∧Za4 g w h.nx (call.pr f ds h) E (PV g Q)
def ZmI (X:Cx) (g:Gi) (call:Cl) (k f:Nat):Prop:=(∀ds h,call.pr f ds h=.stuck)∨∃n,k=n+1∧FnG false X.prog X.w X.K X.mg X.base n true (g.fa f) (g.fd f) (g.fps f) (spP g call f)
def spI (g:Gi) (call:Cl) (kk:Nat):Sp:=fun vs H Q E=>∃w ds h x dx us,vs=.ref x::us∧w.F x=none∧w.F dx=none∧w.Z x=none∧w.Z dx=none∧dx≠x∧(∀k,k < h.nx→w.m k≠x)∧
 RR g ⟨w.m,w.F,upd (upd w.Z dx (.own x)) x (.ins (g.cb kk) dx [])⟩ h H∧RVs g w h.nx ds us∧Za4 g w h.nx (call.make kk ds h) E (PV g fun v H'=>v=.ref x→Q .non H')
section
end
section
variable {X:Cx} {g:Gi} {z c:Bool} {k:Nat} {E:SX'} {e a b d:Expr} {pos p1 p2:Pos} {es:List Expr} {ra:Run D} {rs rk:Run (List D)}
theorem Zm9 {f:Nat} (hb:KB g f 1 [] [0]) {s:Shared} {u:Value} (h:g.K.In s.heap):BindsTo s (g.fd f) ⟨[u],[]⟩ ((g.fps f).zip [u]):=by
 obtain⟨ds,_,q⟩:=hb.bind
 exact q s [u] [] [u] h rfl rfl rfl
structure AtOk (X:Cx) (g:Gi) (gG:G) (call:Cl) (k i:Nat):Prop where
 lt:i < g.nn
 cls:∀kk,(match gG.atr kk i with | .no=>False |_=>True)→Cls X.K (g.cb kk)
 fld:∀kk,gG.atr kk i=.fld→NoAttr X.K (g.cb kk) (g.an i)
 con:∀kk d,gG.atr kk i=.con d→∃v u,Con X.K (g.cb kk) (g.an i) v u∧∀w n,RV g w n d v
 prp:∀kk p,gG.atr kk i=.prp p→(∃pa,PropOf X.K (g.cb kk) (g.an i) pa (g.fa p))∧KB g p 1 [] [0]∧(g.fps p).length=1∧ZmI X g call k p
structure MtOk (X:Cx) (g:Gi) (gG:G) (call:Cl) (c:Bool) (k m n:Nat) (mn:Str) (ks:List Str) (sel:List Nat):Prop where
 no:∀i,i < g.nn→g.an i≠mn
 ok:∀kk f,gG.mtd kk m=some f→Cls X.K (g.cb kk)∧Meth X.K (g.cb kk) mn (g.fa f)∧((∀vs h,vs.length=sel.length→call.f c f vs h=.stuck)∨(FnG false X.prog X.w X.K X.mg X.base k c (g.fa f) (g.fd f) (g.fps f) (spF g call c f)∧KB g f (n+1) ks sel∧(g.fps f).length=sel.length∧DfV g (gG.dfl f) (g.fdv f)))
end
end Rk
/-! Rk.Cc:instances made. -/
namespace Rk
open PySem PySem.Spec PyProof.Rows L2
theorem Za4.up {α:Type} {g:Gi} {w w':Wd} {n n':Nat} {r:Res α} {E:XK} {P:Wd→AH→Hp→α→Prop} (x:Ext w n w' n') (q:Za4 g w n r E P):Za4 g w' n' r E P:=by
 cases r with
 |ok a h=>exact fun w2 H2 e rr=>q w2 H2 (x.trans e) rr
 |exc y h=>exact fun w2 H2 cls d e rr rx=>q w2 H2 cls d (x.trans e) rr rx
 |stuck=>exact q
section
variable {X:Cx} {g:Gi} {z c:Bool} {k:Nat} {E:SX'} {e a b d:Expr} {pos p1 p2:Pos} {es:List Expr} {ra:Run D} {rs rk:Run (List D)}
structure MkOkZ (z:Bool) (X:Cx) (g:Gi) (gG:G) (call:Cl) (k kk n:Nat) (ks:List Str) (sel:List Nat) (x:Str):Prop where
 mg:X.mg x=some (.ref (g.cb kk))
 kp:PySem.W.keepIn X.K (.ref (g.cb kk))=true
 df:∀w n,RVs g w n (gG.cdf kk) (g.cdv kk)
 ok:(∀vs h,call.make kk vs h=.stuck)∨∃j fI fd ps,k=j+1∧Mk X.K (g.cb kk) fI∧FnG z X.prog X.w X.K X.mg X.base j true fI fd ps (spI g call kk)∧ps.length=sel.length+1∧
  ∃ds,Vals (g.cdv kk) ds∧∀(s:Shared) (a:Value) (us ws vs:List Value),X.K.In s.heap→us.length=n→ws.length=ks.length→ZbU sel (us++ws++ds)=some vs→BindsTo s fd ⟨a::us,ks.zip ws⟩ (ps.zip (a::vs))
abbrev MkOk:(X:Cx)→(g:Gi)→(gG:G)→(call:Cl)→(k kk n:Nat)→(ks:List Str)→(sel:List Nat)→(x:Str)→Prop:=MkOkZ false
end
end Rk
/-! Rk.Cd:any number of arguments. -/
namespace Rk
open PySem PySem.Spec PyProof.Rows L2
def VarB (fd:FuncData) (ps:List Str) (n:Nat):Prop:=∀us rest:List Value,us.length=n→bindArgs fd ⟨us++rest,[]⟩=(newTuple rest >>=fun t=>pure (ps.zip (us++[t])))
section
variable {X:Cx} {g:Gi} {z c:Bool} {k:Nat} {E:SX'} {e a b d:Expr} {pos p1 p2:Pos} {es:List Expr} {ra rv:Run D} {rs rk:Run (List D)}
structure MvOk (X:Cx) (g:Gi) (call:Cl) (k kk:Nat) (x:Str):Prop where
 mg:X.mg x=some (.ref (g.cb kk))
 kp:PySem.W.keepIn X.K (.ref (g.cb kk))=true
 ok:(∀vs h,call.make kk vs h=.stuck)∨∃j fI fd ps,k=j+1∧Mk X.K (g.cb kk) fI∧FnG false X.prog X.w X.K X.mg X.base j true fI fd ps (spI g call kk)∧ps.length=2∧VarB fd ps 1
end
end Rk
/-! Rk.Ce:classes' constants and static methods,isinstance,instances called. -/
namespace Rk
open PySem PySem.Spec PyProof.Rows L2
section
variable {X:Cx} {g:Gi} {z c:Bool} {k:Nat} {E:SX'} {e a b d:Expr} {pos p1 p2 p3:Pos} {es:List Expr} {ra rv:Run D} {rs rk:Run (List D)}
structure SMet (K:PySem.W.Frag) (C:Addr) (m:Str) (p f:Addr):Prop where
 at_:PySem.W.findCls K (.ref C) (.type "type") m=some (.get (.builtin "staticmethod.__get__") (.ref p) .none (.ref C))
 rc:∃rest,PySem.W.recIn K p "staticmethod"=some (.ref f::rest)
structure IsC (K:PySem.W.Frag) (C:Addr):Prop where
 cl:Cls K C
 ha:PySem.W.findIn K (.ref C) "__class__"=some (some (.builtin "object.__class__"))
 hn:PySem.W.specialIn K (.builtin "object.__class__") "__get__"=some (some (.builtin "getset_descriptor.__get__"))
 tk:PySem.W.takesIn K (.builtin "object.__class__")=some true
 hm:PySem.W.mroIn K C (.type "object")=some true
structure CaOk (X:Cx) (g:Gi) (gG:G) (call:Cl) (c:Bool) (k n:Nat) (ks:List Str) (sel:List Nat):Prop where
 ok:∀kk f,gG.dmt kk .call=some f→StX.CallO X.K (g.cb kk) (g.fa f)∧FnG false X.prog X.w X.K X.mg X.base k c (g.fa f) (g.fd f) (g.fps f) (spF g call c f)∧KB g f (n+1) ks sel∧(g.fps f).length=sel.length∧DfV g (gG.dfl f) (g.fdv f)
end
end Rk
/-! Rk.Cf:special methods of instances; f-strings. -/
namespace Rk
open PySem PySem.Spec PyProof.Rows L2
section
end
section
variable {X:Cx} {g:Gi} {z c:Bool} {k:Nat} {E:SX'} {e a b d:Expr} {pos p1 p2 p3:Pos} {es:List Expr} {ra rb rv:Run D} {rs rk:Run (List D)}
structure ZnO (X:Cx) (g:Gi) (gG:G) (call:Cl) (k:Nat) (d:Du) (name:Str) (n:Nat):Prop where
 ok:∀kk f,gG.dmt kk d=some f→PySem.W.findIn X.K (.ref (g.cb kk)) name=some (some (.ref (g.fa f)))∧PySem.W.isFn X.K (.ref (g.fa f))=true∧ZmI X g call k f∧KB g f n [] (List.range n)∧(g.fps f).length=n
theorem Zor {A:Around} {call':Cl} {f n:Nat} {pins:List (Addr × Obj)} {σ:L2.St} {H:Hp} {s:Shared} {Q:VK} {us:List Value} {vs:List V} {E':Value→Shared→Prop} (F:FnG false X.prog X.w X.K X.mg X.base n true (g.fa f) (g.fd f) (g.fps f) (spP g call' f)) (room:Zcf n A) (calm:A.handled=none)
  (e0:Env0 X.prog X.w X.K X.mg X.base A X.stack s H) (I:Inv X pins σ H s) (hl:vs.length=(g.fps f).length) (hb:BindsTo s (g.fd f) ⟨us,[]⟩ ((g.fps f).zip us)) (r:Vals vs us) (h:spP g call' f vs H Q (fun _ _ _=>False)):
  wpAny (model X.prog X.w) A (PySem.call (.ref (g.fa f)) us) (EP X pins σ Q) E' s:=by
 refine wpAny_call (codeAny_mono (F.run A X.stack s H ⟨us,[]⟩ us vs Q (fun _ _ _=>False) room (fun _=>calm) e0 hl hb r h) fun r s' hq=>?_)
 cases r with
 |error er=>
  obtain⟨_,_,_,_,_,_,_,_,_,_,_,_,he⟩:=hq
  exact he.elim
 |ok fl=>
  cases fl with
  |ret u=>exact I.after hq
  |next=>exact False.elim hq
  |brk=>exact False.elim hq
  |cont=>exact False.elim hq
theorem kb_two {f:Nat} (hb:KB g f 2 [] [0,1]) {s:Shared} {u v:Value} (h:g.K.In s.heap):BindsTo s (g.fd f) ⟨[u,v],[]⟩ ((g.fps f).zip [u,v]):=by
 obtain⟨ds,_,q⟩:=hb.bind
 exact q s [u,v] [] [u,v] h rfl rfl rfl
theorem Zo0 {w:Wd} {h:AH} {H:Hp} {pins:List (Addr × Obj)} {σ:L2.St} {s:Shared} (I:Inv X pins σ H s) (rr:RR g w h H) {kk:Nat} {fs:List (Nat × D)} {x:V} (rv:RV g w h.nx (.ins kk fs) x):∃a ox od,x=.ref a∧PySem.W.InstAt s.heap a ox (g.cb kk) od∧ox.data=.plain:=by
 obtain⟨oa,dx,gs,rfl,f1,f2,f3⟩:=ZjD rv
 obtain⟨ox,od,J,hd⟩:=StX.insC_at I (.inr ⟨dx,gs,rr.sub _ _ f1⟩)
 exact⟨oa,ox,od,rfl,J,hd⟩
theorem ZjI {n:Nat} {A:Around} (r:Zcf (n+1) A):Zcf n A.in1.in1:=
 ⟨by have:=r.dp; show A.depth+3 * n+5 < _; omega,by have:=r.un; show A.units+1+1+16 * n+200 < _; omega,by first |exact r.gd |(have:=r.gd; simpa [Around.in1] using this)⟩
def Zlo (gG:G) (call:Cl) (x:D) (h:AH):Res D:=match x with
 | .ins kk fs=>(match gG.dmt kk .bool with
  |some f=>(Za6 (call.pr f [.ins kk fs] h)).bind fun v h=>dunR .bool v h
  |none=>.stuck)
 |_=>.stuck
theorem Zjg {gG:G} {call':Cl} {EE:XK} (G:GX g true k X) (D':ZnO X g gG call' k .bool "__bool__" 1) {pins:List (Addr × Obj)} {s:Shared} {σ:L2.St} {H:Hp} (I:Inv X pins σ H s) {w:Wd} {h:AH} {x:D} {v:V} {u:Value} (rr:RR g w h H) (rv:RV g w h.nx x v) (ru:RelV v u) {P:Bool→Hp→Prop}
  (q:Za4 g w h.nx (Zlo gG call' x h) EE (fun _ _ H1 d=>∀y,d=.bl y→P y H1)):wpAny (model X.prog X.w) X.A (truthy u) (TP X pins σ P) X.xe s:=by
 cases x with
 |ins kk fs=>
  obtain⟨oa,ox,od,rfl,J,hd⟩:=Zo0 I rr rv
  obtain rfl:u=Value.ref oa:=ru
  unfold Zlo at q
  dsimp only at q
  cases hm:gG.dmt kk .bool with
  |none=>rw[hm] at q; exact q.elim
  |some f=>
   rw[hm] at q
   dsimp only at q
   obtain⟨h1,h2,hF,hb,hl⟩:=D'.ok kk f hm
   obtain⟨m,hFr⟩:=I.fr
   rcases hF with hF |⟨n,rfl,F⟩
   ·rw[hF] at q; exact q.elim
   ·refine PySem.W.truthy_K hFr I.ok.mod.kin J h1 h2 (wpAny_mono (Zor (Q:=fun v H'=>∃y:Bool,v=.bl y∧P y H') F (G.room.mono (ZbE n)) (I.ok.hd (G.calm rfl)) I.env0 I (by rw[hl]; rfl) (Zm9 hb (G.K ▸ I.kIn)) (Paired.cons (show RelV (V.ref oa) (Value.ref oa) from rfl) Paired.nil) ⟨w,[.ins kk fs],h,rr,RVs.mk rv RVs.nil,?_⟩) (fun v s' hv=>?_) fun _ _ y=>y)
    ·refine (Za4.noexc (q.bind)).mono fun w1 h1 H1 dd _ rr1 q1 v rv1=>?_
     cases dd with
     |bl y=>
      obtain rfl:=Zde.mp rv1
      have q2:Za4 g w1 h1.nx (.ok (D.bl y) h1) EE (fun _ _ H1 d=>∀y,d=D.bl y→P y H1):=q1
      exact⟨y,rfl,q2.now rr1 y rfl⟩
     |_=>exact q1.elim
    ·obtain⟨v0,H',I',rv0,y,rfl,qy⟩:=hv
     obtain rfl:v=Value.bool y:=rv0
     exact (show TP X pins σ P y s' from⟨H',I',qy⟩)
 |_=>exact q.elim
theorem Zpg {gG:G} {call':Cl} (G:GX g true k X) (D':ZnO X g gG call' k .bool "__bool__" 1) (he:∀whole,isTrue a X.env whole=(do let v ← whole; standAt a.pos; holding [v] (truthy v))) (ha:EV X g E a ra):
  EV X g E (.UnaryOp .Not a pos) (fun env h=>((ra env h).bind fun x h=>Zlo gG call' x h).bind fun x h=>Zbv ((ZbM x).map fun b=>.bl !b) h):=by
 have ptO:PT X a (tB' g E (Zdb fun env h=>(ra env h).bind fun x h=>Zlo gG call' x h)):=by
  refine⟨fun pins s σ H Q I ⟨w,env,h,rr,re,q⟩=>?_⟩
  have hR:tE g E ra σ H (fun v H1=>∃w1 h1 x,RR g w1 h1 H1∧RV g w1 h1.nx x v∧Za4 g w1 h1.nx (Zlo gG call' x h1) (E σ) (fun _ _ H1 d=>∀y,d=D.bl y→Q y H1)):=by
    unfold Zdb at q
    rw[Zbh] at q
    refine tE.step q rr re rfl fun w1 h1 H1 x v ext rr1 re1 rv q1=>⟨w1,h1,x,rr1,rv,q1.bind.mono fun w2 h2 H2 d _ rr2 q2 y ey=>?_⟩
    subst ey
    exact Za4.now q2 rr2
  refine isTrue_plain (wpAny_mono (ha.pe.run pins s σ H _ I hR) (fun v s1 hv=>?_) fun _ _ y=>y) (he _)
  obtain⟨x,H1,I1,r1,w1,h1,d,rr1,rv1,q1⟩:=hv
  exact Zjg G D' I1 rr1 rv1 r1 q1
 refine⟨⟨fun pins s σ H Q I ⟨w,env,h,rr,re,q⟩=>?_⟩,(pt_not ptO).imp fun σ H Q ⟨w,env,h,rr,re,q⟩=>?_⟩
 ·dsimp only at q
  rw[Zbh] at q
  have hR:tE g E ra σ H (fun v H1=>∃w1 h1 x,RR g w1 h1 H1∧RV g w1 h1.nx x v∧Za4 g w1 h1.nx (Zlo gG call' x h1) (E σ) (fun _ _ H1 d=>∀y,d=D.bl y→Q (.bl (!y)) H1)):=by
   refine tE.step q rr re rfl fun w1 h1 H1 x v ext rr1 re1 rv q1=>⟨w1,h1,x,rr1,rv,q1.bind.mono fun w2 h2 H2 d _ rr2 q2 y ey=>?_⟩
   subst ey
   exact Za4.now q2 rr2 _ (Zde.mpr rfl)
  refine UnaryOp_ (wpAny_mono (ha.pe.run pins s σ H _ I hR) (fun v s1 hv=>?_) fun _ _ y=>y)
  obtain⟨x,H1,I1,r1,w1,h1,d,rr1,rv1,q1⟩:=hv
  refine PyProof.Rows.not_of (wpAny_mono (Zjg G D' I1 rr1 rv1 r1 q1) (fun c s2 hc=>?_) fun _ _ y=>y)
  obtain⟨H2,I2,q2⟩:=hc
  exact⟨.bl (!c),H2,I2,rfl,q2⟩
 ·generalize er:(fun env h=>(ra env h).bind fun x h=>Zlo gG call' x h)=rc at q⊢
  have e:Zdb (fun env h=>(rc env h).bind fun x h=>Zbv ((ZbM x).map fun b=>D.bl !b) h) env h=(Zdb rc env h).bind fun b h=>.ok (!b) h:=by
   unfold Zdb
   rw[Zbh,Zbh]
   refine ZbW fun x h=>?_
   cases ZbM x<;>rfl
  subst er
  rw[e] at q
  exact tB'.step q rr re rfl fun w1 h1 H1 x ext rr1 re1 q1=>q1.now rr1
def isCl:Expr→Bool
 | .Call .. =>true
 |_=>false
theorem ZoZ {a:Expr} {env:PySem.Env} (h:isCl a=true):∀whole,isTrue a env whole=(do let v ← whole; standAt a.pos; holding [v] (truthy v)):=by
 cases a with
 |Call=>exact fun _=>rfl
 |_=>cases h
end
end Rk
/-! Rk.Cg: == and != by an own __eq__; f-strings. -/
namespace Rk
open PySem PySem.Spec PyProof.Rows L2 PySem.Calls
section
end
section
variable {X:Cx} {g:Gi} {z c:Bool} {k:Nat} {E:SX'} {e a b d:Expr} {pos p1 p2 p3:Pos} {es:List Expr} {ra rb rv:Run D} {rs rk:Run (List D)}
def tys6:List String:=["NoneType","bool","int","str","tuple","list"]
structure EqOk (X:Cx) (g:Gi) (gG:G) (call:Cl) (k:Nat) (ne:Bool):Prop where
 ok:∀kk f,gG.dmt kk (if ne then .ne else .eq)=some f→PySem.W.findIn X.K (.ref (g.cb kk)) "__eq__"=some (some (.ref (g.fa f)))∧PySem.W.isFn X.K (.ref (g.fa f))=true∧ZmI X g call k f∧KB g f 2 [] [0,1]∧(g.fps f).length=2∧
  (ne=true→PySem.W.mroIn X.K (g.cb kk) (.type "object")=some true∧PySem.W.findIn X.K (.ref (g.cb kk)) "__ne__"=some (some (.builtin "object.__ne__")))∧(∀t∈tys6,PySem.W.notFirst X.K (g.cb kk) (.type t)=true)∧
  ∀j,j < g.nc→PySem.W.notFirst X.K (g.cb kk) (.ref (g.cb j))=true
end
end Rk
/-! Rk.Ch:f-strings; new objects filled. -/
namespace Rk
open PySem PySem.Spec PyProof.Rows L2
section
variable {X:Cx} {g:Gi} {z c:Bool} {k:Nat} {E:SX'} {e a b d:Expr} {pos p1 p2 p3:Pos} {es:List Expr} {ra rb rv:Run D} {rs rk:Run (List D)}
structure FJ (X:Cx) (g:Gi) (E:SX') (l:List Expr) (run:List Nat→Run D):Prop where
 ex:∃ts,PJ X l ts∧∀(acc:List Nat) (w:Wd) (env:Env) (h:AH) (σ:L2.St) (H:Hp) (Q:VK),okS acc=true→RR g w h H→RE g w h.nx env σ→Za4 g w h.nx (run acc env h) (E σ) (PV g Q)→tJs ts (stt acc) σ H (fun s H'=>Q (.str s) H')
theorem fj_nil:FJ X g E [] (fun acc _ h=>.ok (.str acc) h):=⟨[],.nil,fun acc w env h σ H Q ho rr re q=>q.now rr (.str (stt acc)) (Za1.mpr ⟨rfl,ho⟩)⟩
theorem ZfO {x:D} {v:V} {w:Wd} {h:AH} {H:Hp} {s:List Nat} (rv:RV g w h.nx x v) (hf:Zmk x=some s):okS s=true∧((x=.str s∧v=.str (stt s))∨∃i:Int,v=.int i∧i.natAbs.log2 < 1920∧(Str.ofString (toString i))=stt s):=by
 cases x with
 |str s0=>
  cases hf
  obtain⟨rfl,ho⟩:=Za1.mp rv
  exact⟨ho,.inl ⟨rfl,rfl⟩⟩
 |int i=>
  have hf:(if 0≤i∧i < 1000000000000 then some (TL.numL i.toNat) else none)=some s:=hf
  split at hf
  ·rename_i hi
   cases hf
   refine⟨ZjS _,.inr ⟨i,Za7.mp rv,?_,?_⟩⟩
   ·by_cases h0:i.natAbs=0
    ·rw[h0]; decide
    ·refine (Nat.log2_lt h0).mpr (ZaT (show i.natAbs < 1000000000000 by omega) ?_)
     exact ZaI (show 1000000000000≤2 ^ 40 by decide) (Zco (by decide) (by decide))
   ·have e1:(toString i:String)=toString ((i.toNat:Nat):Int):=by rw[Zhu hi.1]
    rw[e1]
    exact SX.num_S _
  ·cases hf
 |_=>cases hf
def Zle (ra:Run D) (rr:List Nat→Run D):List Nat→Run D:=fun acc env h=>(ra env h).bind fun x h=>match Zmk x with
  |some s=>if (acc++s).length≤line then rr (acc++s) env h else .stuck
  |none=>.stuck
theorem Zku {rr':List Nat→Run D} {acc:List Nat} {w:Wd} {env:Env} {h:AH} {σ:L2.St} {H:Hp} {Q:VK} {R:V→Hp→Prop} (rr:RR g w h H) (re:RE g w h.nx env σ) (ho:okS acc=true)
  (q:Za4 g w h.nx (Zle ra rr' acc env h) (E σ) (PV g Q))
  (hR:∀w1 h1 H1 x v s,RR g w1 h1 H1→RE g w1 h1.nx env σ→RV g w1 h1.nx x v→Zmk x=some s→(acc++s).length≤line→okS (acc++s)=true→Za4 g w1 h1.nx (rr' (acc++s) env h1) (E σ) (PV g Q)→R v H1):tE g E ra σ H R:=by
 unfold Zle at q
 refine tE.step q rr re rfl fun w1 h1 H1 x v ext rr1 re1 rv q1=>?_
 cases hf:Zmk x with
 |none=>rw[hf] at q1; exact q1.elim
 |some s=>
  rw[hf] at q1
  obtain⟨hl,q2⟩:=Zbx q1
  exact hR w1 h1 H1 x v s rr1 re1 rv hf hl (Zdo ho (ZfO (H:=H1) rv hf).1) q2
theorem fj_cst {l:List Expr} {rr':List Nat→Run D} {s0:Str} {j:Nat} (hs:okS s0.cps.toList=true) (G:GX g c k X) (h:FJ X g E l rr'):FJ X g E (.Constant (.str s0) j pos::l) (Zle (fun _ h=>.ok (.str s0.cps.toList) h) rr'):=by
 obtain⟨ts,pj,hh⟩:=h.ex
 have ev:EV X g E (.Constant (.str s0) j pos) (fun _ h=>.ok (.str s0.cps.toList) h):=Znh G (by show (if okS s0.cps.toList then some (D.str s0.cps.toList) else none)=_; rw[if_pos hs])
 refine⟨_,.cons ev.pe pj,fun acc w env h σ H Q ho rr re q=>?_⟩
 unfold Zle at q
 rw[bind_ok] at q
 have q:Za4 g w h.nx (if (acc++s0.cps.toList).length≤line then rr' (acc++s0.cps.toList) env h else .stuck) (E σ) (PV g Q):=q
 obtain⟨hl,q2⟩:=Zbx q
 refine⟨w,env,h,rr,re,fun w1 H1 x1 rr1 v rv=>?_⟩
 obtain⟨rfl,_⟩:=Za1.mp rv
 refine⟨_,rfl,?_,?_⟩
 ·rw[Zdm,Zbk,Zcy]; exact hl
 ·rw[Zdm]
  exact hh _ w1 env h σ H1 Q (Zdo ho hs) rr1 (re.ext x1) (Za4.up x1 q2)
theorem fj_fmt {l:List Expr} {rr':List Nat→Run D} (ha:EV X g E a ra) (h:FJ X g E l rr'):FJ X g E (.FormattedValue a (-1) none pos::l) (Zle ra rr'):=by
 obtain⟨ts,pj,hh⟩:=h.ex
 refine⟨_,.cons (pe_fmt ha.pe) pj,fun acc w env h σ H Q ho rr re q=>?_⟩
 refine Zku rr re ho q fun w1 h1 H1 x v s rr1 re1 rv hf hl ho2 q1=>?_
 have lz:(stt acc++stt s).length≤sizeLine:=by rw[Zdm,Zbk,Zcy]; exact hl
 have ls:(stt s).length≤sizeLine:=by
  rw[Zbk,Zcy]
  rw[Zal] at hl
  omega
 have go:tJs ts (stt acc++stt s) σ H1 (fun s H'=>Q (.str s) H'):=by
  rw[Zdm]
  exact hh _ w1 env h1 σ H1 Q ho2 rr1 re1 q1
 rcases (ZfO (H:=H1) rv hf).2 with⟨_,rfl⟩ |⟨i,rfl,hi,es⟩
 ·exact .inl ⟨stt s,rfl,ls,stt s,rfl,lz,go⟩
 ·refine .inr ⟨i,rfl,hi,_,rfl,?_,?_⟩
  ·show (stt acc++Str.ofString (toString i)).length≤sizeLine
   rw[es]; exact lz
  ·show tJs ts (stt acc++Str.ofString (toString i)) σ H1 (fun s H'=>Q (.str s) H')
   rw[es]; exact go
end
end Rk
/-! Rk.Ci:a new object is filled. -/
namespace Rk
open PySem PySem.Spec PyProof.Rows L2
def ZeN (Z:Hp) (x dx:Addr):Hp:=fun a=>if a=x∨a=dx then none else Z a
section
variable {g:Gi} {w:Wd} {h:AH} {H:Hp} {x dx C:Addr} {gs:List (Str × V)}
theorem ZfA {Z:Hp} {x dx a:Addr} {o:HO} (h:ZeN Z x dx a=some o):Z a=some o∧a≠x∧a≠dx:=by
 unfold ZeN at h
 split at h
 ·cases h
 ·rename_i n
  exact⟨h,fun z=>n (.inl z),fun z=>n (.inr z)⟩
theorem ZoP {Z:Hp} {x dx:Addr}:ZeN Z x dx x=none:=if_pos (.inl rfl)
theorem ZlU {Z:Hp} {x dx:Addr}:ZeN Z x dx dx=none:=if_pos (.inr rfl)
theorem ZiN {Z:Hp} (h1:Z x=some (.ins C dx gs)) (h2:Z dx=some (.own x)) (hne:dx≠x):upd (upd (ZeN Z x dx) dx (.own x)) x (.ins C dx gs)=Z:=by
 funext a
 by_cases e1:a=x
 ·subst e1; rw[upd_same,h1]
 ·rw[upd_ne e1]
  by_cases e2:a=dx
  ·subst e2; rw[upd_same,h2]
  ·rw[upd_ne e2]
   exact if_neg fun z=>z.elim e1 e2
theorem Zj3 {Z:Hp} (h2:Z dx=some (.own x)) (hne:dx≠x) {o:HO}:upd Z x o=upd (upd (ZeN Z x dx) dx (.own x)) x o:=by
 funext a
 by_cases e1:a=x
 ·subst e1; rw[upd_same,upd_same]
 ·rw[upd_ne e1,upd_ne e1]
  by_cases e2:a=dx
  ·subst e2; rw[upd_same,h2]
  ·rw[upd_ne e2]
   exact (if_neg fun z=>z.elim e1 e2).symm
theorem RR.lessZ {m:Nat→Addr} {F Z Z':Hp} (r:RR g ⟨m,F,Z⟩ h H) (k:∀a o,Z' a=some o→Z a=some o):RR g ⟨m,F,Z'⟩ h H:=by
 have no:∀a,Z a=none→Z' a=none:=fun a e=>by
  cases e2:Z' a with
  |none=>rfl
  |some o=>rw[k a o e2] at e; cases e
 refine⟨r.sub,fun a o e=>r.subz a o (k a o e),fun j hj=>?_,r.inj,r.oc,fun p hp=>⟨(r.tabs p hp).nF,no _ (r.tabs p hp).nZ,(r.tabs p hp).tab⟩⟩
 have q:=r.cell j hj
 show RC g _ h.nx H (m j) (h.cell j)
 cases ec:h.cell j with
 |no=>rw[ec] at q; exact q
 |lst l=>
  rw[ec] at q
  obtain⟨q1,zs,q2,q3⟩:=q
  exact⟨⟨q1.1,no _ q1.2⟩,zs,q2,RVs.noZ (w:=⟨m,F,Z⟩) q3⟩
 |ins c fs=>
  rw[ec] at q
  obtain⟨q1,dx,gs,q4,q2,q5,q3,qc⟩:=q
  exact⟨⟨q1.1,no _ q1.2⟩,dx,gs,⟨q4.1,no _ q4.2⟩,q2,q5,RVf.noZ (w:=⟨m,F,Z⟩) q3,qc⟩
 |dct t l=>
  rw[ec] at q
  obtain⟨qt,q1,zs,q2,q3⟩:=q
  exact⟨qt,⟨q1.1,no _ q1.2⟩,zs,q2,RVd.noZ (w:=⟨m,F,Z⟩) q3⟩
 |tdc l=>
  rw[ec] at q
  obtain⟨q1,zs,q2,q3⟩:=q
  exact⟨⟨q1.1,no _ q1.2⟩,zs,q2,RVt.noZ (w:=⟨m,F,Z⟩) q3⟩
structure NW (g:Gi) (w:Wd) (h:AH) (H:Hp) (kk:Nat) (x dx:Addr) (gs:List (Str × V)):Prop where
 fx:w.F x=none
 fd:w.F dx=none
 zx:w.Z x=none
 zd:w.Z dx=none
 ne:dx≠x
 kc:kk < g.nc
 ac:∀k,k < h.nx→w.m k≠x
 rr:RR g ⟨w.m,w.F,upd (upd w.Z dx (.own x)) x (.ins (g.cb kk) dx gs)⟩ h H
abbrev inW (g:Gi) (w:Wd) (kk:Nat) (x dx:Addr) (gs:List (Str × V)):Wd:=⟨w.m,w.F,upd (upd w.Z dx (.own x)) x (.ins (g.cb kk) dx gs)⟩
abbrev Zg5 (w:Wd) (x dx:Addr):Wd:=⟨w.m,w.F,ZeN w.Z x dx⟩
theorem NW.ext {kk n:Nat} (N:NW g w h H kk x dx gs):Ext w n (inW g w kk x dx gs) n:=⟨Zai _,fun _ _=>rfl,fun _ _ e=>e,fun a o e=>by
 have e1:a≠x:=fun z=>by rw[z,N.zx] at e; cases e
 have e2:a≠dx:=fun z=>by rw[z,N.zd] at e; cases e
 show upd (upd w.Z dx (.own x)) x _ a=some o
 rw[upd_ne e1,upd_ne e2]
 exact e,fun _ h1 h2=>absurd h2 (Zbn h1)⟩
theorem NW.later {kk:Nat} (N:NW g w h H kk x dx gs) {w2:Wd} {h2:AH} {H2:Hp} (e:Ext (inW g w kk x dx gs) h.nx w2 h2.nx) (rr:RR g w2 h2 H2):NW g (Zg5 w2 x dx) h2 H2 kk x dx gs∧Ext w h.nx (Zg5 w2 x dx) h2.nx∧w2.Z x=some (.ins (g.cb kk) dx gs)∧w2.Z dx=some (.own x):=by
 have z1:w2.Z x=some (.ins (g.cb kk) dx gs):=e.Z x _ (by show upd _ x _ x=_; rw[upd_same])
 have z2:w2.Z dx=some (.own x):=e.Z dx _ (by show upd (upd _ dx _) x _ dx=_; rw[upd_ne N.ne,upd_same])
 refine⟨⟨(rr.subz x _ z1).2,(rr.subz dx _ z2).2,ZoP,ZlU,N.ne,N.kc,fun k hk z=>?_,?_⟩,⟨e.le,fun k hk=>e.m k hk,fun a o q=>e.F a o q,fun a o q=>?_,fun k h1 h2=>?_⟩,z1,z2⟩
 ·have z:w2.m k=x:=z
  by_cases c:k < h.nx
  ·exact N.ac k c ((e.m k c).symm.trans z)
  ·have q:=e.nz k (ZmG c) hk
   rw[z] at q
   have q:upd (upd w.Z dx (.own x)) x (.ins (g.cb kk) dx gs) x=none:=q
   rw[upd_same] at q
   cases q
 ·show RR g ⟨w2.m,w2.F,upd (upd (ZeN w2.Z x dx) dx (.own x)) x (.ins (g.cb kk) dx gs)⟩ h2 H2
  rw[ZiN z1 z2 N.ne]
  exact rr
 ·have e1:a≠x:=fun z=>by rw[z,N.zx] at q; cases q
  have e2:a≠dx:=fun z=>by rw[z,N.zd] at q; cases q
  show ZeN w2.Z x dx a=some o
  unfold ZeN
  rw[if_neg fun z=>z.elim e1 e2]
  exact e.Z a o ((N.ext (n:=h.nx)).Z a o q)
 ·show w.Z (w2.m k)=none
  cases q:w.Z (w2.m k) with
  |none=>rfl
  |some o=>
   have z:=(N.ext (n:=h.nx)).Z _ _ q
   rw[e.nz k h1 h2] at z
   cases z
theorem RX.out {w2:Wd} {n:Nat} {y:D} {cls:Value} {d:Option Addr} {H2:Hp} (r:RX g w2 n y cls d H2):RX g (Zg5 w2 x dx) n y cls d H2:=by
 obtain⟨c,fs,dd,gs,h1,h2,h3,h4,h5,h6⟩:=r
 exact⟨c,fs,dd,gs,h1,h2,h3,h4,RVf.noZ (w:=w2) h5,h6⟩
end
def ZhC (FN:Ends→Wd→AH→Hp→List (Nat × D)→Prop) (g:Gi) (EE:XK) (kk:Nat) (x dx:Addr) (run:Env→List (Nat × D)→AH→Res (List (Nat × D))):TS:=fun D σ H=>∃w env h fs gs,NW g w h H kk x dx gs∧RE g w h.nx env σ∧Zld env=true∧RVf g w h.nx fs gs∧
 Za4 g w h.nx (run env fs h) EE (FN D)
def FNz (g:Gi) (kk:Nat) (x:Addr):Ends→Wd→AH→Hp→List (Nat × D)→Prop:=fun D w' h' H' fs'=>RV g w' h'.nx (.ins kk fs') (.ref x)→∀σ',D.nx σ' H'
def FNs (g:Gi) (kk:Nat) (x dx:Addr):Ends→Wd→AH→Hp→List (Nat × D)→Prop:=fun D w' h' H' fs'=>∀gs',NW g w' h' H' kk x dx gs'→RVf g w' h'.nx fs' gs'→∀σ',D.nx σ' H'
abbrev tBI (g:Gi) (EE:XK) (kk:Nat) (x dx:Addr) (run:Env→List (Nat × D)→AH→Res (List (Nat × D))):TS:=ZhC (FNz g kk x) g EE kk x dx run
section
variable {X:Cx} {g:Gi} {c:Bool} {k kk:Nat} {EE:XK} {x dx:Addr} {e:Expr} {pos p1 p2:Pos} {run re:Run D} {rs:Run Fl} {rr':Env→List (Nat × D)→AH→Res (List (Nat × D))} {st:Stmt} {rest:List Stmt}
theorem RE.me {w:Wd} {n:Nat} {env:Env} {σ:L2.St} (r:RE g w n env σ) (hm:Zld env=true):∃x,g.me=some x∧σ[0]? =some (some (.ref x)):=by
 cases env with
 |nil=>cases hm
 |cons s env=>
  cases s with
  |me=>
   have hi:0 < σ.length:=by rw[← r.len]; exact Zlg _
   obtain⟨x,h1,h2⟩:=r.at' 0 _ _ rfl (Zad hi)
   exact⟨x,h1,by rw[Zad hi,h2]⟩
  |_=>cases hm
theorem ZkW:PSs X [] (ZhC (FNs g kk x dx) g EE kk x dx fun _ fs h=>.ok fs h):=pss_nil.imp fun D σ H ⟨w,env,h,fs,gs,N,re,hm,rf,q⟩=>
 q w H (Ext.refl _ _) (N.rr.lessZ fun a o e=>N.ext.Z (n:=0) a o e) gs N rf σ
theorem ZnG:PSs X [] (tBI g EE kk x dx fun _ fs h=>.ok fs h):=pss_nil.imp fun D σ H ⟨w,env,h,fs,gs,N,re,hm,rf,q⟩=>by
 have r1:=N.rr.sideF (p:=x) (o:=.ins (g.cb kk) dx gs) (by show upd _ x _ x=_; rw[upd_same])
 have r2:=r1.sideF (p:=dx) (o:=.own x) (by show (if dx=x then none else upd (upd w.Z dx (.own x)) x (.ins (g.cb kk) dx gs) dx)=_; rw[if_neg N.ne,upd_ne N.ne,upd_same])
 have eZ:(fun a=>if a=dx then none else (if a=x then none else upd (upd w.Z dx (.own x)) x (.ins (g.cb kk) dx gs) a))=w.Z:=by
  funext a
  by_cases e1:a=dx
  ·subst e1; rw[if_pos rfl,N.zd]
  ·rw[if_neg e1]
   by_cases e2:a=x
   ·subst e2; rw[if_pos rfl,N.zx]
   ·rw[if_neg e2,upd_ne e2,upd_ne e1]
 have keep:∀a o,w.F a=some o→upd (upd w.F x (.ins (g.cb kk) dx gs)) dx (.own x) a=some o:=fun a o e=>by
  have e1:a≠x:=fun z=>by rw[z,N.fx] at e; cases e
  have e2:a≠dx:=fun z=>by rw[z,N.fd] at e; cases e
  rw[upd_ne e2,upd_ne e1]
  exact e
 have r2:RR g ⟨w.m,upd (upd w.F x (.ins (g.cb kk) dx gs)) dx (.own x),fun a=>if a=dx then none else (if a=x then none else upd (upd w.Z dx (.own x)) x (.ins (g.cb kk) dx gs) a)⟩ h H:=r2
 rw[eZ] at r2
 exact q ⟨w.m,upd (upd w.F x (.ins (g.cb kk) dx gs)) dx (.own x),w.Z⟩ H ⟨Zai _,fun _ _=>rfl,keep,fun _ _ e=>e,fun _ h1 h2=>absurd h2 (Zbn h1)⟩ r2 (Zop N.kc ⟨x,dx,gs,rfl,by show upd (upd w.F x _) dx _ x=_; rw[upd_ne N.ne.symm,upd_same],upd_same,RVf.moreF keep rf⟩) σ
theorem ZnF {FN:Ends→Wd→AH→Hp→List (Nat × D)→Prop} (h1:SV X g (fun cls d _ H=>EE cls d H) st rs) (h2:PSs X rest (ZhC FN g EE kk x dx rr')):PSs X (st::rest) (ZhC FN g EE kk x dx fun env fs h=>(Za6 (rs env h)).bind fun f h=>match f with
  | .nx e=>if Zld e then rr' e fs h else .stuck
  | .xc x _=>.exc x h
  |_=>.stuck):=by
 refine (pss_cons h1 h2).imp fun D σ H ⟨w,env,h,fs,gs,N,re,hm,rf,q⟩=>?_
 refine⟨inW g w kk x dx gs,env,h,N.rr,re.ext N.ext,?_⟩
 dsimp only at q
 cases hr:rs env h with
 |stuck=>rw[hr] at q; exact q.elim
 |exc y h2=>rw[hr] at q; exact q.elim
 |ok f h2=>
  rw[hr] at q
  intro w2 H2 e2 rr2
  obtain⟨N2,x2,_,_⟩:=N.later e2 rr2
  cases f with
  |nx env2=>
   intro σ2 re2
   obtain⟨hm2,q2⟩:=Zbx (show Za4 g w h.nx (if Zld env2=true then rr' env2 fs h2 else .stuck) EE _ from q)
   refine⟨Zg5 w2 x dx,env2,h2,fs,gs,N2,⟨re2.len,fun i d o a b=>RS.extF (show Zdi w2 h2.nx (Zg5 w2 x dx) h2.nx from⟨Zai _,fun _ _=>rfl,fun _ _ e=>e⟩) (re2.at' i d o a b)⟩,hm2,RVf.ext x2 fs gs rf,Za4.up x2 q2⟩
  |xc y e=>
   intro σ2 cls d re2 rx
   exact q (Zg5 w2 x dx) H2 cls d x2 (rr2.lessZ fun a o z=>(ZfA z).1) (RX.out rx)
  |_=>exact q.elim
theorem ZkV {FN:Ends→Wd→AH→Hp→List (Nat × D)→Prop} (G:GX g c k X) (nmk:NmOk g) {sx:Str} {i:Nat} (hi:i < g.nn) (hx:X.N[0]? =some sx) (hv:Vis X.env.scope sx) (hd:(sx == ("__debug__":Str))=false) (hcd:(sx == ("__classdict__":Str))=false) (hme:g.me=some x) (cl:Cls X.K (g.cb kk)) (na:NoAttr X.K (g.cb kk) (g.an i)) (he:EV X g (fun _=>EE) e re) (hn:ncp e=true)
  (h2:PSs X rest (ZhC FN g EE kk x dx rr')):PSs X (.Assign [.Attribute (.Name sx p1) (g.an i) p2] e pos::rest) (ZhC FN g EE kk x dx fun env fs h=>(re env h).bind fun d h=>if fs.length < 900 then rr' env (Zd1 i d fs) h else .stuck):=by
 refine (pss_cons (ps_fld (pe_var hx hv hd hcd) he.pe (Zgq hn _ _ _)) h2).imp fun D σ H ⟨w,env,h,fs,gs,N,ren,hm,rf,q⟩=>?_
 refine⟨inW g w kk x dx gs,env,h,N.rr,ren.ext N.ext,?_⟩
 dsimp only at q
 cases hr:re env h with
 |stuck=>rw[hr] at q; exact q.elim
 |exc y h2=>
  rw[hr] at q
  intro w2 H2 cls d e2 rr2 rx
  obtain⟨N2,x2,_,_⟩:=N.later e2 rr2
  exact q (Zg5 w2 x dx) H2 cls d x2 (rr2.lessZ fun a o z=>(ZfA z).1) (RX.out rx)
 |ok dd h2=>
  rw[hr] at q
  intro w2 H2 e2 rr2 y rv
  obtain⟨N2,x2,z1,z2⟩:=N.later e2 rr2
  obtain⟨hl,q2⟩:=Zbx (show Za4 g w h.nx (if fs.length < 900 then rr' env (Zd1 i dd fs) h2 else .stuck) EE _ from q)
  obtain⟨x',hx',hs⟩:=ren.me hm
  rw[hme] at hx'
  cases hx'
  have rf2:RVf g (Zg5 w2 x dx) h2.nx fs gs:=RVf.ext x2 fs gs rf
  have rv2:RV g (Zg5 w2 x dx) h2.nx dd y:=RV.extF (show Zdi w2 h2.nx (Zg5 w2 x dx) h2.nx from⟨Zai _,fun _ _=>rfl,fun _ _ e=>e⟩) _ _ rv
  refine⟨_,hs,x,g.cb kk,dx,gs,rfl,(rr2.subz x _ z1).1,cl,na,by rw[rf.len]; omega,?_⟩
  refine⟨Zg5 w2 x dx,env,h2,Zd1 i dd fs,putF (g.an i) y gs,⟨N2.fx,N2.fd,N2.zx,N2.zd,N2.ne,N2.kc,N2.ac,?_⟩,⟨ren.len,fun j d o a b=>RS.extF (show Zdi w h.nx (Zg5 w2 x dx) h2.nx from x2.f) (ren.at' j d o a b)⟩,hm,RVf.put nmk hi rv2 rf2,Za4.up x2 q2⟩
  have r3:=rr2.side2 (p:=x) (o':=.ins (g.cb kk) dx (putF (g.an i) y gs)) z1
  have r3:RR g ⟨w2.m,w2.F,upd w2.Z x (.ins (g.cb kk) dx (putF (g.an i) y gs))⟩ h2 (upd H2 x (.ins (g.cb kk) dx (putF (g.an i) y gs))):=r3
  rw[Zj3 z2 N.ne] at r3
  exact r3
end
end Rk
/-! Rk.Cj:lists made,given up and cleared. -/
namespace Rk
open PySem PySem.Spec PyProof.Rows L2
section
end
end Rk
/-! Rk.Gm:what runs for any sleeping generators keeps them. -/
namespace Rk
open PySem PySem.Spec PyProof.Rows L2 GenW
open Sem (wp)
def poi:GenState→GenState
 | .suspended _ l c p fs cl=>.suspended (fun _=>.unsupported "") l c p fs cl
 |g=>g
def ZoX:GenState→Bool
 | .suspended .. =>true
 |_=>false
theorem ZlI (g:GenState):(poi g).seen=g.seen:=by cases g<;>rfl
abbrev Kf:Type:=Nat→Option GenState
def unp (K:Kf) (G:Array GenState):Array GenState:=G.mapIdx fun j st=>(K j).getD st
def Zdw (K:Kf) (s:Shared):Shared:={s with gens:=unp K s.gens}
theorem Zdl {K:Kf} {G:Array GenState} {j:Nat}:(unp K G)[j]? =G[j]?.map fun st=>(K j).getD st:=by
 unfold unp
 rw[Array.getElem?_mapIdx]
theorem Zd7 {K:Kf} {G:Array GenState}:(unp K G).size=G.size:=by
 unfold unp
 rw[Array.size_mapIdx]
theorem Zll {K:Kf} {G:Array GenState} {x:GenState} (h:K G.size=none):unp K (G.push x)=(unp K G).push x:=by
 refine Array.ext_getElem? fun j=>?_
 rw[Zdl,Array.getElem?_push,Array.getElem?_push,Zd7,Zdl]
 by_cases hj:j=G.size
 ·rw[if_pos hj,if_pos hj,hj,h]; rfl
 ·rw[if_neg hj,if_neg hj]
theorem ZnX {K:Kf} {G:Array GenState} {g:Nat} {x:GenState} (h:K g=none):unp K (G.setIfInBounds g x)=(unp K G).setIfInBounds g x:=by
 refine Array.ext_getElem? fun j=>?_
 rw[Zdl,Array.getElem?_setIfInBounds,Array.getElem?_setIfInBounds,Zd7,Zdl]
 by_cases hj:g=j
 ·subst hj
  rw[if_pos rfl,if_pos rfl]
  by_cases hs:g < G.size
  ·rw[if_pos hs]; show some ((K g).getD x)=_; rw[h]; rfl
  ·rw[if_neg hs]; rfl
 ·rw[if_neg hj,if_neg hj]
structure PC (K:Kf) (s:Shared):Prop where
 at_:∀j gs,K j=some gs→ZoX gs=true∧s.gens[j]? =some (poi gs)
 ng:∀j k l c p fs cl,s.gens[j]? =some (.suspended k l c p fs cl)→K j=none→splitAtGen fs=none
theorem PC.heap {K:Kf} {s s':Shared} (h:PC K s) (e:s'.gens=s.gens):PC K s':=⟨fun j gs q=>by rw[e]; exact h.at_ j gs q,fun j k l c p fs cl q=>by rw[e] at q; exact h.ng j k l c p fs cl q⟩
theorem PC.at_end {K:Kf} {s:Shared} (h:PC K s):K s.gens.size=none:=by
 cases e:K s.gens.size with
 |none=>rfl
 |some gs=>
  have:=(h.at_ _ _ e).2
  rw[Array.getElem?_eq_none (Zai _)] at this
  cases this
theorem PC.push {K:Kf} {s:Shared} {c:Code} (h:PC K s):PC K {s with gens:=s.gens.push (.fresh c)}:=by
 refine⟨fun j gs q=>⟨(h.at_ j gs q).1,?_⟩,fun j k l c' p fs cl q hk=>?_⟩
 ·have:=(h.at_ j gs q).2
  show (s.gens.push _)[j]? =_
  rw[Array.getElem?_push,if_neg (fun z=>by rw[z,Array.getElem?_eq_none (Zai _)] at this; cases this)]
  exact this
 ·have q:(s.gens.push (.fresh c))[j]? =_:=q
  rw[Array.getElem?_push] at q
  split at q
  ·cases q
  ·exact h.ng j k l c' p fs cl q hk
def ngE:End→Prop
 | .ret _=>True
 | .susp _ _ _ _ _ _ fs=>splitAtGen fs=none
theorem PC.set {K:Kf} {s:Shared} {g:Nat} {x:GenState} (h:PC K s) (hg:K g=none) (hx:∀k l c p fs cl,x=.suspended k l c p fs cl→splitAtGen fs=none):PC K (s.setGen g x):=by
 refine⟨fun j gs q=>⟨(h.at_ j gs q).1,?_⟩,fun j k l c p fs cl q hk=>?_⟩
 ·show (s.gens.setIfInBounds g x)[j]? =_
  rw[Array.getElem?_setIfInBounds_ne (fun z=>by rw[z,q] at hg; cases hg)]
  exact (h.at_ j gs q).2
 ·have q:(s.gens.setIfInBounds g x)[j]? =_:=q
  rw[Array.getElem?_setIfInBounds] at q
  split at q
  ·split at q
   ·exact hx k l c p fs cl (Option.some.inj q)
   ·cases q
  ·exact h.ng j k l c p fs cl q hk
theorem ZcC {K:Kf} {s:Shared} {g:Nat} {x:GenState} (h:K g=none):Zdw K (s.setGen g x)=(Zdw K s).setGen g x:=by
 show ({s with gens:=unp K (s.gens.setIfInBounds g x)}:Shared)={s with gens:=(unp K s.gens).setIfInBounds g x}
 rw[ZnX h]
theorem Zc0 {K:Kf} {s:Shared} {g:Nat} {x:GenState} (h:PC K s) (e:s.gens[g]? =some x) (hx:ZoX x=false):K g=none:=by
 cases q:K g with
 |none=>rfl
 |some gs=>
  obtain⟨h1,h2⟩:=h.at_ g gs q
  rw[e] at h2
  cases h2
  cases gs<;>first
   |(cases h1; done)
   |(unfold poi ZoX at hx; cases hx)
theorem ZcT {K:Kf} {s:Shared} {g:Nat} {x:GenState} (e:s.gens[g]? =some x) (h:K g=none):(Zdw K s).gens[g]? =some x:=by
 show (unp K s.gens)[g]? =_
 rw[Zdl,e]
 show some ((K g).getD x)=_
 rw[h]; rfl
theorem Zm3 {M:Model} {Γ:PySem.Ctx} {p:Pos} {x:String} {fs:List Frame} {s:Shared} {e:End} {s':Shared}:¬Runs M Γ p (.unsupported x) fs s e s':=by
 intro h
 generalize ht:(Sem.unsupported x:Sem PySem.Fin)=t at h
 induction h<;>first
  |(cases ht; done)
  |(rename_i ih _; exact ih ht)
  |(rename_i ih; exact ih ht)
  |(rename_i ih1 ih2; exact ih1 ht)
theorem Zdx {k:Result→Sem PySem.Fin} {h:Option Value} {g:Bool} {l kp:List Value} {c:Code} {p:Pos} {fs:List Frame}:splitAtGen (.ret k h g l c p kp::fs)=none↔splitAtGen fs=none:=by
 show Option.map _ (splitAtGen fs)=none↔_
 cases splitAtGen fs<;>simp
theorem Zeh:∀{a b:List Frame},splitAtGen a=none→splitAtGen b=none→splitAtGen (a++b)=none
 |[],b,_,h=>h
 | .gen .. ::_,_,h,_=>by cases h
 | .ret k h g l c p kp::a,b,h1,h2=>by
  rw[Zdx] at h1
  show splitAtGen (.ret k h g l c p kp::(a++b))=none
  rw[Zdx]
  exact Zeh h1 h2
theorem ZfJ {e:End} (h:ngE e):∀k l c p fs cl,e.genState=.suspended k l c p fs cl→splitAtGen fs=none:=by
 intro k l c p fs cl q
 cases e with
 |ret r=>cases q
 |susp v g l' k' c' p' fs'=>cases q; exact h
theorem Zhz {K:Kf} {s:Shared} {g:Nat} {st:GenState} (c:PC K s) (hg:s.gens[g]? =some st):∃st',(Zdw K s).gens[g]? =some st'∧st'.seen=st.seen:=by
 cases q:K g with
 |none=>exact⟨st,ZcT hg q,rfl⟩
 |some gs=>
  obtain⟨_,h2⟩:=c.at_ g gs q
  rw[hg] at h2
  obtain rfl:=Option.some.inj h2
  refine⟨gs,?_,(ZlI gs).symm⟩
  show (unp K _)[g]? =_
  rw[Zdl,hg]
  show some ((K g).getD _)=_
  rw[q]; rfl
theorem Zf4 {K:Kf} {s:Shared} {c:Code} (h:PC K s):Zdw K {s with gens:=s.gens.push (.fresh c)}={Zdw K s with gens:=(Zdw K s).gens.push (.fresh c)}:=by
 show ({s with gens:=unp K (s.gens.push (.fresh c))}:Shared)={s with gens:=(unp K s.gens).push (.fresh c)}
 rw[Zll h.at_end]
theorem Zfu {M:Model} (K:Kf) {Γ:PySem.Ctx} {p:Pos} {t:Sem PySem.Fin} {fs:List Frame} {s s':Shared} {e:End} (h:Runs M Γ p t fs s e s'):
  PC K s→splitAtGen fs=none→PC K s'∧ngE e∧Runs M Γ p t fs (Zdw K s) e (Zdw K s'):=by
 induction h with
 |done=>intro c _; exact⟨c,trivial,.done⟩
 |raise=>intro c _; exact⟨c,trivial,.raise⟩
 |again hq _ ih=>intro c f; obtain⟨a,b,d⟩:=ih c f; exact⟨a,b,.again hq d⟩
 |rule _ ih=>intro c f; obtain⟨a,b,d⟩:=ih c f; exact⟨a,b,.rule d⟩
 | «at» _ ih=>intro c f; obtain⟨a,b,d⟩:=ih c f; exact⟨a,b,.at d⟩
 |load ho _ ih=>intro c f; obtain⟨a,b,d⟩:=ih c f; exact⟨a,b,.load ho d⟩
 |update ho _ ih=>intro c f; obtain⟨a,b,d⟩:=ih (c.heap rfl) f; exact⟨a,b,.update ho d⟩
 |loadIfAlive _ ih=>intro c f; obtain⟨a,b,d⟩:=ih c f; exact⟨a,b,.loadIfAlive d⟩
 |point _ ih=>intro c f; obtain⟨a,b,d⟩:=ih c f; exact⟨a,b,.point d⟩
 |alloc _ ih=>intro c f; obtain⟨a,b,d⟩:=ih (c.heap rfl) f; exact⟨a,b,.alloc d⟩
 |fresh _ ih=>intro c f; obtain⟨a,b,d⟩:=ih (c.heap rfl) f; exact⟨a,b,.fresh d⟩
 |ask _ ih=>intro c f; obtain⟨a,b,d⟩:=ih c f; exact⟨a,b,.ask d⟩
 |choose hn _ ih=>intro c f; obtain⟨a,b,d⟩:=ih (c.heap rfl) f; exact⟨a,b,.choose hn d⟩
 |os _ ih=>intro c f; obtain⟨a,b,d⟩:=ih (c.heap rfl) f; exact⟨a,b,.os d⟩
 |handled _ ih=>intro c f; obtain⟨a,b,d⟩:=ih c f; exact⟨a,b,.handled d⟩
 |genState hg _ ih=>
  intro c f
  obtain⟨a,b,d⟩:=ih c f
  obtain⟨st',h1,h2⟩:=Zhz c hg
  exact⟨a,b,.genState h1 (h2 ▸ d)⟩
 |stack _ ih=>intro c f; obtain⟨a,b,d⟩:=ih c f; exact⟨a,b,.stack d⟩
 |thread _ ih=>intro c f; obtain⟨a,b,d⟩:=ih c f; exact⟨a,b,.thread d⟩
 |newGen _ ih=>
  intro c f
  obtain⟨a,b,d⟩:=ih c.push f
  refine⟨a,b,.newGen ?_⟩
  rw[show (Zdw K _).gens.size=_ from Zd7,← Zf4 c]
  exact d
 |call _ _ ih1 ih2=>
  intro c f
  obtain⟨a,_,d⟩:=ih1 c rfl
  obtain⟨a2,b2,d2⟩:=ih2 a f
  exact⟨a2,b2,.call d d2⟩
 |callSusp _ ih=>
  intro c f
  obtain⟨a,b,d⟩:=ih c rfl
  exact⟨a,Zeh b (Zdx.mpr rfl),.callSusp d⟩
 |yield=>intro c _; exact⟨c,rfl,.yield⟩
 |resumeFresh hg _ hq _ ih1 ih2=>
  rename_i Γ p g k l s c₀ e₁ s₁ e s' _ _
  intro c f
  have kn:=Zc0 c hg rfl
  obtain⟨a,b,d⟩:=ih1 (c.set kn fun _ _ _ _ _ _ z=>nomatch z) rfl
  obtain⟨a2,b2,d2⟩:=ih2 (a.set kn (ZfJ b)) f
  rw[ZcC kn] at d d2
  exact⟨a2,b2,.resumeFresh (ZcT hg kn) d hq d2⟩
 |resumeSuspended hg hr hq _ ih1 ih2=>
  rename_i Γ p g r l k s k₀ l₀ c₀ p₀ fs cl e₁ s₁ e s' _
  intro c f
  cases q:K g with
  |some gs=>
   obtain⟨h1,h2⟩:=c.at_ g gs q
   rw[hg] at h2
   cases gs<;>first
    |cases h1; done
    |(cases h2; exact absurd hr Zm3)
  |none=>
   obtain⟨a,b,d⟩:=ih1 (c.set q fun _ _ _ _ _ _ z=>nomatch z) (c.ng _ _ _ _ _ _ _ hg q)
   obtain⟨a2,b2,d2⟩:=ih2 (a.set q (ZfJ b)) f
   rw[ZcC q] at d d2
   exact⟨a2,b2,.resumeSuspended (ZcT hg q) d hq d2⟩
 |resumeJustStarted hg hv _ ih=>
  intro c f
  obtain⟨a,b,d⟩:=ih c f
  exact⟨a,b,.resumeJustStarted (ZcT hg (Zc0 c hg rfl)) hv d⟩
 |resumeThrowFresh hg _ ih=>
  intro c f
  have kn:=Zc0 c hg rfl
  obtain⟨a,b,d⟩:=ih (c.set kn fun _ _ _ _ _ _ z=>nomatch z) f
  rw[ZcC kn] at d
  exact⟨a,b,.resumeThrowFresh (ZcT hg kn) d⟩
 |resumeRunning hg _ ih=>
  intro c f
  obtain⟨a,b,d⟩:=ih c f
  exact⟨a,b,.resumeRunning (ZcT hg (Zc0 c hg rfl)) d⟩
 |resumeFinished hg _ ih=>
  intro c f
  obtain⟨a,b,d⟩:=ih c f
  exact⟨a,b,.resumeFinished (ZcT hg (Zc0 c hg rfl)) d⟩
 |segRet _ _ ih1 ih2=>
  intro c f
  obtain⟨a,b,d⟩:=ih1 c rfl
  obtain⟨a2,b2,d2⟩:=ih2 a (Zdx.mp f)
  exact⟨a2,b2,.segRet d d2⟩
 |segGen _ _ _ _=>intro c f; cases f
 |segSuspOut hs _ ih=>
  intro c f
  obtain⟨a,b,d⟩:=ih c rfl
  exact⟨a,Zeh b f,.segSuspOut hs d⟩
 |segSuspGen hs _ _ _ _ _=>intro c f; rw[hs] at f; cases f
theorem Zg1 {M:Model} (K:Kf) {Γ:PySem.Ctx} {p:Pos} {s s':Shared} {r:Result} (h:Returns M Γ p s r s') (c:PC K s):PC K s'∧Returns M Γ p (Zdw K s) r (Zdw K s'):=by
 obtain⟨a,_,d⟩:=Zfu K h c rfl
 exact⟨a,d⟩
theorem Zje {M:Model} (K:Kf) {Γ:PySem.Ctx} {p:Pos} {g:Nat} {r:Resume} {s s':Shared} {res:GenResult} (h:Wakes M Γ p g r s res s') (c:PC K s):PC K s'∧Wakes M Γ p g r (Zdw K s) res (Zdw K s'):=by
 unfold Wakes at h⊢
 cases hg:s.gens[g]? with
 |none=>rw[hg] at h; exact h.elim
 |some st=>
  rw[hg] at h
  cases st with
  |fresh c₀=>
   have kn:=Zc0 c hg rfl
   rw[ZcT hg kn]
   dsimp only at h⊢
   split at h
   ·obtain⟨e₁,s₁,hr,hq,h1,h2⟩:=h
    obtain⟨a,b,d⟩:=Zfu K hr (c.set kn fun _ _ _ _ _ _ z=>nomatch z) rfl
    rw[ZcC kn] at d
    subst h2
    exact⟨a.set kn (ZfJ b),e₁,Zdw K s₁,d,hq,h1,ZcC kn⟩
   ·obtain⟨h1,rfl⟩:=h
    exact⟨c,h1,rfl⟩
   ·obtain⟨h1,rfl⟩:=h
    exact⟨c.set kn fun _ _ _ _ _ _ z=>(nomatch z),h1,ZcC kn⟩
  |suspended k₀ l₀ c₀ p₀ fs₀ cl=>
   obtain⟨e₁,s₁,hr,hq,h1,h2⟩:=h
   cases q:K g with
   |some gs=>
    obtain⟨q1,q2⟩:=c.at_ g gs q
    rw[hg] at q2
    cases gs<;>first
     |cases q1; done
     |(cases q2; exact absurd hr Zm3)
   |none=>
    rw[ZcT hg q]
    obtain⟨a,b,d⟩:=Zfu K hr (c.set q fun _ _ _ _ _ _ z=>nomatch z) (c.ng _ _ _ _ _ _ _ hg q)
    rw[ZcC q] at d
    subst h2
    exact⟨a.set q (ZfJ b),e₁,Zdw K s₁,d,hq,h1,ZcC q⟩
  |running=>
   have kn:=Zc0 c hg rfl
   rw[ZcT hg kn]
   obtain⟨h1,rfl⟩:=h
   exact⟨c,h1,rfl⟩
  |finished=>
   have kn:=Zc0 c hg rfl
   rw[ZcT hg kn]
   obtain⟨h1,rfl⟩:=h
   exact⟨c,h1,rfl⟩
theorem wp_unp {α:Type} {M:Model} (K:Kf) {Γ:PySem.Ctx} (t:Sem α):∀(Q:α→Pos→Shared→Prop) (E:Value→Pos→Shared→Prop) (p:Pos) (s:Shared),PC K s→wp M Γ t Q E p s→
  wp M Γ t (fun a p' s1=>∃s2,s1=Zdw K s2∧PC K s2∧Q a p' s2) (fun e p' s1=>∃s2,s1=Zdw K s2∧PC K s2∧E e p' s2) p (Zdw K s):=by
 induction t with
 |pure a=>intro Q E p s c h; exact⟨s,rfl,c,h⟩
 |raise e=>intro Q E p s c h; exact⟨s,rfl,c,h⟩
 |unsupported _=>intro Q E p s _ h; exact h
 |finish _=>intro Q E p s _ h; exact h
 |register _ _=>intro Q E p s _ h; exact h
 |yield _ _ _ _=>intro Q E p s _ h; exact h
 |fork _ _=>intro Q E p s _ h; exact h
 |await _ _ _ _ _=>intro Q E p s _ h; exact h
 |rule _ k ih=>intro Q E p s c h; exact ih () Q E p s c h
 | «at» p' k ih=>intro Q E p s c h; exact ih () Q E p' s c h
 |load a _ k ih=>intro Q E p s c h; obtain⟨o,ho,h⟩:=h; exact⟨o,ho,ih o Q E p s c h⟩
 |update a _ f k ih=>intro Q E p s c h; exact⟨h.1,ih () Q E p _ (by exact c.heap rfl) h.2⟩
 |loadIfAlive a k ih=>intro Q E p s c h; exact ih _ Q E p s c h
 |point _ k ih=>intro Q E p s c h; exact ih () Q E p s c h
 |alloc o k ih=>intro Q E p s c h; exact ih _ Q E p _ (by exact c.heap rfl) h
 |fresh k ih=>intro Q E p s c h; exact ih _ Q E p _ (by exact c.heap rfl) h
 |ask k ih=>intro Q E p s c h; exact ih _ Q E p s c h
 |choose src m k ih=>intro Q E p s c h; exact⟨h.1,ih _ Q E p _ (by exact c.heap rfl) h.2⟩
 |os q _ k ih=>intro Q E p s c h; exact ih _ Q E p _ (by exact c.heap rfl) h
 |call cd hd _ _ k ih=>
  intro Q E p s c h
  obtain⟨r,s',hr,h⟩:=h
  obtain⟨a,d⟩:=Zg1 K hr c
  exact⟨r,Zdw K s',d,ih r Q E p s' a h⟩
 |handled own k ih=>intro Q E p s c h; exact ih _ Q E p s c h
 |genState g k ih=>
  intro Q E p s c h
  obtain⟨st,hs,h⟩:=h
  obtain⟨st',h1,h2⟩:=Zhz c hs
  exact⟨st',h1,h2 ▸ ih _ Q E p s c h⟩
 |newGen cd k ih=>
  intro Q E p s c h
  have q:=ih _ Q E p _ c.push h
  rw[Zf4 c] at q
  show wp M Γ (k (Zdw K s).gens.size) _ _ p _
  rw[show (Zdw K s).gens.size=s.gens.size from Zd7]
  exact q
 |resume g r _ k ih=>
  intro Q E p s c h
  obtain⟨res,s',hw,h⟩:=h
  obtain⟨a,d⟩:=Zje K hw c
  exact⟨res,Zdw K s',d,ih res Q E p s' a h⟩
 |stack k ih=>intro Q E p s c h; exact ih _ Q E p s c h
 |thread k ih=>intro Q E p s c h; exact ih _ Q E p s c h
def ZpZ (K:Kf):Prop:=∀j gs,K j=some gs→gs.bare=true
theorem ZkX {K:Kf} {s2:Shared} (hK:ZpZ K) (h:AllBare s2.gens):AllBare (Zdw K s2).gens:=fun x hx=>by
 obtain⟨j,hj,e⟩:=Array.mem_iff_getElem.mp hx
 have e1:(unp K s2.gens)[j]? =some x:=by rw[← e]; exact Array.getElem?_eq_getElem hj
 rw[Zdl] at e1
 obtain⟨y,h1,h2⟩:=Zan.mp e1
 cases z:K j with
 |none=>rw[z] at h2; cases h2; exact h _ (Array.mem_of_getElem? h1)
 |some g=>rw[z] at h2; cases h2; exact hK j _ z
theorem Zjc {α:Type} {M:Model} {A:Around} {t:Sem α} {Q:α→Shared→Prop} {E:Value→Shared→Prop} {s:Shared} {K:Kf} (c:PC K s) (h:wpAny M A t Q E s):
  wpAny M A t (fun a s1=>∃s2,s1=Zdw K s2∧PC K s2∧Q a s2) (fun e s1=>∃s2,s1=Zdw K s2∧PC K s2∧E e s2) (Zdw K s):=fun Γ p hΓ=>wp_unp K t _ _ p s c (h Γ p hΓ)
end Rk
/-! Rk.Ga:generators:the frame that sleeps between two turns. -/
namespace Rk
open PySem PySem.Spec PyProof.Rows L2 GenW
def Zpu (h:Heap) (L:Nat):Heap:=⟨h.objs.extract 0 L,h.life⟩
structure Gh where
 s:Shared
 H:Hp
 w:Wd
 n:Nat
 kp:List Addr:=[]
def zOut (l:List Addr) (Z:Hp):Hp:=fun b=>if b∈l then none else Z b
def Gh.w0 (q:Gh):Wd:=⟨q.w.m,q.w.F,zOut q.kp q.w.Z⟩
/-! ### turns:from a waking to what is handed out -/
section
end
structure Tg where
 prog:Program
 w:World
 K:PySem.W.Frag
 mg:Str→Option Value
 base:Heap
 A:Around
 N:List Str
 env:PySem.Env
 outer:List PySem.Env
 g:Gi
 all:List D
 fin:Option D
 s1:Shared
 kz:List (Addr × HO):=[]
 kl:List (Nat × GenState):=[]
def ZIn (l:List (Addr × HO)) (w:Wd):Prop:=∀p∈l,w.Z p.1=some p.2
structure Tg.In (T:Tg) (q₀:Gh) (w:Wd) (h:AH):Prop where
 x:Ext q₀.w0 q₀.n w h.nx
 z:ZIn T.kz w
 o:∀p∈T.kz,q₀.w0.Z p.1=none
theorem Tg.In.trans {T:Tg} {q₀:Gh} {w w':Wd} {h h':AH} (a:T.In q₀ w h) (x:Ext w h.nx w' h'.nx):T.In q₀ w' h':=⟨a.x.trans x,fun p hp=>x.Z _ _ (a.z p hp),a.o⟩
def Tg.cut (T:Tg) (s:Shared):Shared:={s with heap:=Zpu s.heap T.env.locals}
/-! ### the protocol -/
section
variable {T:Tg} {st:Stmt} {rest:List Stmt}
def XeG (X:Cx):Prop:=∀e s2 K,ZpZ K→PC K s2→X.xe e s2→X.xe e (Zdw K s2)
theorem Znx {P:Program} {w:World} {outer:List PySem.Env} {H:Hp} {s s2:Shared} {E:XK} {u:Value} {Kf:Kf} (hK:ZpZ Kf) (h:L2.CX P w outer H s E u s2):L2.CX P w outer H s E u (Zdw Kf s2):=by
 obtain⟨a,B,H',cls,d,h1,h2,h3,h4,h5,h6,h7,h8⟩:=h
 exact⟨a,B,H',cls,d,h1,h2,h3,h4,h5,h6,ZkX hK h7,h8⟩
/-! ### for -/
end
end Rk
/-! Rk.Gb:a generator def,by its body. -/
namespace Rk
open PySem PySem.Spec PyProof.Rows L2 GenW
def Zk5 (sc:Scope):Prop:=∀y∈sc.names,y.2≠ .cell∧y.2≠ .free
end Rk
/-! Rk.Gc:from the consumer's view to the frame's and back. -/
namespace Rk
open PySem PySem.Spec PyProof.Rows L2 GenW
section
/-! ### back -/
section
end
end
end Rk
/-! Rk.Gd:the next item of a generator. -/
namespace Rk
open PySem PySem.Spec PyProof.Rows L2 GenW
open Sem (wp)
section
end
end Rk
/-! Rk.Ge:a consumer draws from a sleeping generator. -/
namespace Rk
open PySem PySem.Spec PyProof.Rows L2 GenW
section
end
section
end
end Rk
/-! Rk.Gf:generators made and walked. -/
namespace Rk
open PySem PySem.Spec PyProof.Rows L2 GenW
section
/-! ### for x in g(..) -/
section
end
end
end Rk
/-! Rk.Gh:comprehensions over a generator. -/
namespace Rk
open PySem PySem.Spec PyProof.Rows L2 GenW
section
end
end Rk
/-! Rk.Gi:[f(x) for x in g(..)]. -/
namespace Rk
open PySem PySem.Spec PyProof.Rows L2 GenW
section
end
end Rk
/-! Rk.Da:dicts and instances as cells. -/
namespace Rk
open PySem PySem.Spec PyProof.Rows L2
section
variable {g:Gi} {w:Wd} {h:AH} {H:Hp} {n:Nat}
theorem ZdO {xs:List (Key × V)}:RVd g w n [] xs↔xs=[]:=by unfold RVd; exact Iff.rfl
theorem Zda {p:D × D} {l:List (D × D)} {xs:List (Key × V)}:RVd g w n (p::l) xs↔∃k x r,xs=(k,x)::r∧kOf p.1=some k∧RV g w n p.2 x∧RVd g w n l r:=by
 conv=>lhs; unfold RVd
theorem ZjE {t:Bool} {l:List (D × D)} {x:V}:RV g w n (.dct t l) x↔t=false∧∃a xs,x=.ref a∧(∃o,w.F a=some (.frz o (.dK xs)))∧RVd g w n l xs:=by unfold RV; exact Iff.rfl
theorem RVd.mk {k d:D} {j:Key} {x:V} {l:List (D × D)} {xs:List (Key × V)} (h:kOf k=some j) (a:RV g w n d x) (b:RVd g w n l xs):RVd g w n ((k,d)::l) ((j,x)::xs):=Zda.mpr ⟨j,x,xs,rfl,h,a,b⟩
theorem RVd.nil:RVd g w n [] []:=ZdO.mpr rfl
theorem RVd.length:∀{l:List (D × D)} {xs:List (Key × V)},RVd g w n l xs→xs.length=l.length
 |[],xs,h=>by rw[ZdO.mp h]; rfl
 |p::l,xs,h=>by
  obtain⟨k,x,r,rfl,_,_,h2⟩:=Zda.mp h
  rw[Zae,Zae,RVd.length h2]
theorem Zcz {d:D} {k:Key} (h:kOf d=some k):(∃i,d=.int i∧k=.inl i)∨∃s,d=.str s∧okS s=true∧k=.inr (stt s):=by
 cases d with
 |int i=>exact .inl ⟨i,rfl,(Option.some.inj h).symm⟩
 |str s=>
  by_cases c:okS s=true
  ·have e:kOf (.str s)=some (.inr (stt s)):=if_pos c
   rw[e] at h
   exact .inr ⟨s,rfl,c,(Option.some.inj h).symm⟩
  ·have e:kOf (.str s)=none:=if_neg c
   rw[e] at h
   cases h
 |_=>cases h
theorem Zc2 {d e:D} {j k:Key} (h:kOf d=some j) (h2:kOf e=some k):Zbb d e=true↔j=k:=by
 rcases Zcz h with⟨i,rfl,rfl⟩ |⟨s,rfl,_,rfl⟩<;>rcases Zcz h2 with⟨i',rfl,rfl⟩ |⟨s',rfl,_,rfl⟩
 ·unfold Zbb
  rw[Zbi]
  exact⟨fun z=>congrArg Sum.inl z,fun z=>Sum.inl.inj z⟩
 ·unfold Zbb; exact⟨fun z=>(nomatch z),fun z=>nomatch z⟩
 ·unfold Zbb; exact⟨fun z=>(nomatch z),fun z=>nomatch z⟩
 ·unfold Zbb
  rw[Zbi]
  exact⟨fun z=>by rw[z],fun z=>Zfj (Sum.inr.inj z)⟩
theorem RVd.look:∀{l:List (D × D)} {xs:List (Key × V)} {k:D} {j:Key},RVd g w n l xs→kOf k=some j→match lkD k l with
  |some d=>∃v,valV xs j=some v∧RV g w n d v
  |none=>valV xs j=none
 |[],xs,k,j,h,_=>by rw[ZdO.mp h]; rfl
 |p::l,xs,k,j,h,hk=>by
  obtain⟨i,x,r,rfl,h1,h2,h3⟩:=Zda.mp h
  unfold lkD
  by_cases c:Zbb p.1 k=true
  ·rw[if_pos c]
   have e:i=j:=(Zc2 h1 hk).mp c
   exact⟨x,valV_pos e,h2⟩
  ·rw[if_neg c]
   have e:¬i=j:=fun z=>c ((Zc2 h1 hk).mpr z)
   rw[valV_neg (p:=(i,x)) e]
   exact RVd.look h3 hk
theorem RVd.repl:∀{l:List (D × D)} {xs:List (Key × V)} {k v:D} {j:Key} {y:V},RVd g w n l xs→kOf k=some j→RV g w n v y→RVd g w n (repD k v l) (xs.map fun kv=>if kv.1=j then (kv.1,y) else kv)
 |[],xs,k,v,j,y,h,_,_=>by rw[ZdO.mp h]; exact RVd.nil
 |p::l,xs,k,v,j,y,h,hk,hv=>by
  obtain⟨i,x,r,rfl,h1,h2,h3⟩:=Zda.mp h
  unfold repD
  rw[Zap]
  by_cases c:Zbb p.1 k=true
  ·rw[if_pos c,if_pos (show i=j from (Zc2 h1 hk).mp c)]
   exact RVd.mk h1 hv (RVd.repl h3 hk hv)
  ·rw[if_neg c,if_neg (show ¬i=j from fun z=>c ((Zc2 h1 hk).mpr z))]
   exact RVd.mk h1 h2 (RVd.repl h3 hk hv)
theorem RVd.snoc:∀{l:List (D × D)} {xs:List (Key × V)} {k v:D} {j:Key} {y:V},RVd g w n l xs→kOf k=some j→RV g w n v y→RVd g w n (l++[(k,v)]) (xs++[(j,y)])
 |[],xs,k,v,j,y,h,hk,hv=>by rw[ZdO.mp h]; exact RVd.mk hk hv RVd.nil
 |p::l,xs,k,v,j,y,h,hk,hv=>by
  obtain⟨i,x,r,rfl,h1,h2,h3⟩:=Zda.mp h
  exact RVd.mk h1 h2 (RVd.snoc h3 hk hv)
theorem RVd.put {l:List (D × D)} {xs:List (Key × V)} {k v:D} {j:Key} {y:V} (h:RVd g w n l xs) (hk:kOf k=some j) (hv:RV g w n v y):RVd g w n (ZmY k v l) (putK xs j y):=by
 have q:=h.look hk
 unfold ZmY putK
 rw[valV_any]
 cases e:lkD k l with
 |some d=>
  rw[e] at q
  obtain⟨u,hu,_⟩:=q
  rw[hu]
  exact h.repl hk hv
 |none=>
  rw[e] at q
  have q:valV xs j=none:=q
  rw[q]
  exact h.snoc hk hv
theorem RVd.merge:∀{m l:List (D × D)} {ys xs:List (Key × V)},RVd g w n m ys→RVd g w n l xs→RVd g w n (mrgD l m) (mergeK xs ys)
 |[],l,ys,xs,h,k=>by rw[ZdO.mp h]; exact k
 |p::m,l,ys,xs,h,k=>by
  obtain⟨i,x,r,rfl,h1,h2,h3⟩:=Zda.mp h
  have q:=RVd.merge (m:=m) (l:=ZmY p.1 p.2 l) h3 (k.put h1 h2)
  exact q
theorem ZjC {d:D} {v:V} (hk:Zh3 d=true) (r:RV g w n d v):∃j,kOf d=some j∧v=kV j:=by
 cases d with
 |int i=>unfold RV at r; exact⟨_,rfl,r⟩
 |str s=>
  unfold RV at r
  exact⟨.inr (stt s),(if_pos r.2:kOf (.str s)=some (.inr (stt s))),r.1⟩
 |_=>cases hk
theorem key_rv {d:D} {j:Key} (h:kOf d=some j):RV g w n d (kV j):=by
 rcases Zcz h with⟨i,rfl,rfl⟩ |⟨s,rfl,c,rfl⟩
 ·unfold RV; rfl
 ·unfold RV; exact⟨rfl,c⟩
/-! ### cells -/
theorem RR.dcell (r:RR g w h H) {k:Nat} {t:Bool} {l:List (D × D)} (hk:k < h.nx) (e:h.cell k=.dct t l):t=false∧(w.F (w.m k)=none∧w.Z (w.m k)=none)∧∃xs,H (w.m k)=some (.dK xs)∧RVd g w h.nx l xs:=by
 have c:=r.cell k hk
 rw[e] at c
 exact c
theorem RR.stillG (r:RR g w h H) {k:Nat} {u:HO} (hk:k < h.nx) (hF:w.F (w.m k)=none) (hZ:w.Z (w.m k)=none) (hu:H (w.m k)=some u) (n1:∀x,u≠ .own x) (n2:∀ps,u≠ .tbl ps):
  RR g ⟨w.m,upd w.F (w.m k) u,w.Z⟩ (h.put k .no) H∧Ext w h.nx ⟨w.m,upd w.F (w.m k) u,w.Z⟩ (h.put k .no).nx:=by
 have eF:∀a v,w.F a=some v→upd w.F (w.m k) u a=some v:=fun a v e=>by rw[upd_ne fun z=>by rw[z,hF] at e; cases e]; exact e
 have x:Ext w h.nx ⟨w.m,upd w.F (w.m k) u,w.Z⟩ h.nx:=⟨Zai _,fun _ _=>rfl,eF,fun _ _ e=>e,fun _ h1 h2=>absurd h2 (Zbn h1)⟩
 refine⟨⟨fun a v e=>?_,fun a v e=>?_,fun j hj=>?_,r.inj,r.oc,fun q hq=>(r.tabs q hq).to eF (by show upd w.F (w.m k) _ q.1=none; rw[upd_ne ((r.tabs q hq).ne2 hu n2)]; exact (r.tabs q hq).nF) (r.tabs q hq).nZ rfl⟩,x⟩
 ·by_cases ha:a=w.m k
  ·subst ha
   have e:upd w.F (w.m k) u (w.m k)=some v:=e
   rw[upd_same] at e
   cases e
   exact hu
  ·have e:upd w.F (w.m k) u a=some v:=e
   rw[upd_ne ha] at e
   exact r.sub a v e
 ·refine⟨(r.subz a v e).1,?_⟩
  show upd w.F (w.m k) u a=none
  rw[upd_ne fun z=>by rw[z,hZ] at e; cases e]
  exact (r.subz a v e).2
 ·show RC g _ h.nx H (w.m j) (if j=k then ZeW.no else h.cell j)
  by_cases e2:j=k
  ·rw[if_pos e2,e2]; exact⟨_,upd_same⟩
  ·rw[if_neg e2]
   have nj:w.m j≠w.m k:=fun z=>e2 (r.inj j k hj hk z)
   have q:=r.cell j hj
   cases ec:h.cell j with
   |no=>rw[ec] at q; exact q.elim fun o e=>⟨o,eF _ _ e⟩
   |lst m=>
    rw[ec] at q
    obtain⟨q1,zs,q2,q3⟩:=q
    exact⟨⟨by show upd w.F (w.m k) _ (w.m j)=none; rw[upd_ne nj]; exact q1.1,q1.2⟩,zs,q2,RVs.ext x m zs q3⟩
   |ins c fs=>
    rw[ec] at q
    obtain⟨q0,dx,gs,q4,q2,q5,q3,qc⟩:=q
    have nd:dx≠w.m k:=fun z=>by rw[z,hu] at q5; exact n1 _ (Option.some.inj q5)
    exact⟨⟨by show upd w.F (w.m k) _ (w.m j)=none; rw[upd_ne nj]; exact q0.1,q0.2⟩,dx,gs,⟨by show upd w.F (w.m k) _ dx=none; rw[upd_ne nd]; exact q4.1,q4.2⟩,q2,q5,RVf.ext x fs gs q3,qc⟩
   |dct t m=>
    rw[ec] at q
    obtain⟨qt,q1,zs,q2,q3⟩:=q
    exact⟨qt,⟨by show upd w.F (w.m k) _ (w.m j)=none; rw[upd_ne nj]; exact q1.1,q1.2⟩,zs,q2,RVd.ext x m zs q3⟩
   |tdc m=>
    rw[ec] at q
    obtain⟨q1,zs,q2,q3⟩:=q
    exact⟨⟨by show upd w.F (w.m k) _ (w.m j)=none; rw[upd_ne nj]; exact q1.1,q1.2⟩,zs,q2,RVt.ext x m zs q3⟩
theorem RR.giveG (r:RR g w h H) {k:Nat} {u u':HO} (hk:k < h.nx) (hF:w.F (w.m k)=none) (hZ:w.Z (w.m k)=none) (hu:H (w.m k)=some u) (n1:∀x,u≠ .own x) (n2:∀ps,u≠ .tbl ps):
  RR g ⟨w.m,upd w.F (w.m k) u',w.Z⟩ (h.put k .no) (upd H (w.m k) u')∧Ext w h.nx ⟨w.m,upd w.F (w.m k) u',w.Z⟩ (h.put k .no).nx:=by
 have eF:∀a v,w.F a=some v→upd w.F (w.m k) u' a=some v:=fun a v e=>by rw[upd_ne fun z=>by rw[z,hF] at e; cases e]; exact e
 have x:Ext w h.nx ⟨w.m,upd w.F (w.m k) u',w.Z⟩ h.nx:=⟨Zai _,fun _ _=>rfl,eF,fun _ _ e=>e,fun _ h1 h2=>absurd h2 (Zbn h1)⟩
 have nZ:∀a v,w.Z a=some v→a≠w.m k:=fun a v e z=>by rw[z,hZ] at e; cases e
 refine⟨⟨fun a v e=>?_,fun a v e=>?_,fun j hj=>?_,r.inj,fun j hj=>?_,fun q hq=>(r.tabs q hq).to eF (by show upd w.F (w.m k) _ q.1=none; rw[upd_ne ((r.tabs q hq).ne2 hu n2)]; exact (r.tabs q hq).nF) (r.tabs q hq).nZ (upd_ne ((r.tabs q hq).ne2 hu n2))⟩,x⟩
 ·have e:upd w.F (w.m k) u' a=some v:=e
  by_cases ha:a=w.m k
  ·subst ha
   rw[upd_same] at e⊢
   exact e
  ·rw[upd_ne ha] at e⊢
   exact r.sub a v e
 ·have ha:=nZ a v e
  exact⟨by rw[upd_ne ha]; exact (r.subz a v e).1,by show upd w.F (w.m k) u' a=none; rw[upd_ne ha]; exact (r.subz a v e).2⟩
 ·show RC g _ h.nx _ (w.m j) (if j=k then ZeW.no else h.cell j)
  by_cases e2:j=k
  ·rw[if_pos e2,e2]; exact⟨_,upd_same⟩
  ·rw[if_neg e2]
   have nj:w.m j≠w.m k:=fun z=>e2 (r.inj j k hj hk z)
   have q:=r.cell j hj
   cases ec:h.cell j with
   |no=>rw[ec] at q; exact q.elim fun o e=>⟨o,eF _ _ e⟩
   |lst m=>
    rw[ec] at q
    obtain⟨q1,zs,q2,q3⟩:=q
    exact⟨⟨by show upd w.F (w.m k) _ (w.m j)=none; rw[upd_ne nj]; exact q1.1,q1.2⟩,zs,by rw[upd_ne nj]; exact q2,RVs.ext x m zs q3⟩
   |ins c fs=>
    rw[ec] at q
    obtain⟨q0,dx,gs,q4,q2,q5,q3,qc⟩:=q
    have nd:dx≠w.m k:=fun z=>by rw[z,hu] at q5; exact n1 _ (Option.some.inj q5)
    exact⟨⟨by show upd w.F (w.m k) _ (w.m j)=none; rw[upd_ne nj]; exact q0.1,q0.2⟩,dx,gs,⟨by show upd w.F (w.m k) _ dx=none; rw[upd_ne nd]; exact q4.1,q4.2⟩,by rw[upd_ne nj]; exact q2,by rw[upd_ne nd]; exact q5,RVf.ext x fs gs q3,qc⟩
   |dct t m=>
    rw[ec] at q
    obtain⟨qt,q1,zs,q2,q3⟩:=q
    exact⟨qt,⟨by show upd w.F (w.m k) _ (w.m j)=none; rw[upd_ne nj]; exact q1.1,q1.2⟩,zs,by rw[upd_ne nj]; exact q2,RVd.ext x m zs q3⟩
   |tdc m=>
    rw[ec] at q
    obtain⟨q1,zs,q2,q3⟩:=q
    exact⟨⟨by show upd w.F (w.m k) _ (w.m j)=none; rw[upd_ne nj]; exact q1.1,q1.2⟩,zs,by rw[upd_ne nj]; exact q2,RVt.ext x m zs q3⟩
 ·by_cases e2:w.m j=w.m k
  ·rw[e2,upd_same]; exact fun z=>nomatch z
  ·rw[upd_ne e2]
   exact r.oc j hj
theorem RR.fix (r:RR g w h H) {p:Addr} {u:HO} (hF:w.F p=none) (hZ:w.Z p=none) (hu:H p=some u) (hm:∀j,j < h.nx→h.cell j≠ .no→w.m j≠p) (n1:∀x,u≠ .own x) (n2:∀ps,u≠ .tbl ps):
  RR g ⟨w.m,upd w.F p u,w.Z⟩ h H∧Ext w h.nx ⟨w.m,upd w.F p u,w.Z⟩ h.nx:=by
 have eF:∀a v,w.F a=some v→upd w.F p u a=some v:=fun a v e=>by rw[upd_ne fun z=>by rw[z,hF] at e; cases e]; exact e
 have x:Ext w h.nx ⟨w.m,upd w.F p u,w.Z⟩ h.nx:=⟨Zai _,fun _ _=>rfl,eF,fun _ _ e=>e,fun _ h1 h2=>absurd h2 (Zbn h1)⟩
 refine⟨⟨fun a v e=>?_,fun a v e=>?_,fun j hj=>?_,r.inj,r.oc,fun q hq=>(r.tabs q hq).to eF (by show upd w.F p _ q.1=none; rw[upd_ne ((r.tabs q hq).ne2 hu n2)]; exact (r.tabs q hq).nF) (r.tabs q hq).nZ rfl⟩,x⟩
 ·by_cases ha:a=p
  ·subst ha
   have e:upd w.F a u a=some v:=e
   rw[upd_same] at e
   cases e
   exact hu
  ·have e:upd w.F p u a=some v:=e
   rw[upd_ne ha] at e
   exact r.sub a v e
 ·refine⟨(r.subz a v e).1,?_⟩
  show upd w.F p u a=none
  rw[upd_ne fun z=>by rw[z,hZ] at e; cases e]
  exact (r.subz a v e).2
 ·have q:=r.cell j hj
  have nj:=hm j hj
  show RC g _ h.nx H (w.m j) (h.cell j)
  cases ec:h.cell j with
  |no=>rw[ec] at q; exact q.elim fun o e=>⟨o,eF _ _ e⟩
  |lst m=>
   rw[ec] at q nj
   obtain⟨q1,zs,q2,q3⟩:=q
   exact⟨⟨by show upd w.F p _ (w.m j)=none; rw[upd_ne (nj fun z=>nomatch z)]; exact q1.1,q1.2⟩,zs,q2,RVs.ext x m zs q3⟩
  |ins c fs=>
   rw[ec] at q nj
   obtain⟨q0,dx,gs,q4,q2,q5,q3,qc⟩:=q
   have nd:dx≠p:=fun z=>by rw[z,hu] at q5; exact n1 _ (Option.some.inj q5)
   exact⟨⟨by show upd w.F p _ (w.m j)=none; rw[upd_ne (nj fun z=>nomatch z)]; exact q0.1,q0.2⟩,dx,gs,⟨by show upd w.F p _ dx=none; rw[upd_ne nd]; exact q4.1,q4.2⟩,q2,q5,RVf.ext x fs gs q3,qc⟩
  |dct t m=>
   rw[ec] at q nj
   obtain⟨qt,q1,zs,q2,q3⟩:=q
   exact⟨qt,⟨by show upd w.F p _ (w.m j)=none; rw[upd_ne (nj fun z=>nomatch z)]; exact q1.1,q1.2⟩,zs,q2,RVd.ext x m zs q3⟩
  |tdc m=>
   rw[ec] at q nj
   obtain⟨q1,zs,q2,q3⟩:=q
   exact⟨⟨by show upd w.F p _ (w.m j)=none; rw[upd_ne (nj fun z=>nomatch z)]; exact q1.1,q1.2⟩,zs,q2,RVt.ext x m zs q3⟩
theorem RR.stillD (r:RR g w h H) {k:Nat} {t:Bool} {l:List (D × D)} (hk:k < h.nx) (e:h.cell k=.dct t l) {xs:List (Key × V)} (hx:H (w.m k)=some (.dK xs)) (o:Obj):
  RR g ⟨w.m,upd w.F (w.m k) (.frz o (.dK xs)),w.Z⟩ (h.put k .no) (upd H (w.m k) (.frz o (.dK xs)))∧Ext w h.nx ⟨w.m,upd w.F (w.m k) (.frz o (.dK xs)),w.Z⟩ (h.put k .no).nx:=by
 obtain⟨_,⟨f,z⟩,_⟩:=r.dcell hk e
 exact r.giveG hk f z hx (fun _ z=>nomatch z) fun _ z=>nomatch z
theorem RR.stillI (r:RR g w h H) {k c:Nat} {fs:List (Nat × D)} (hk:k < h.nx) (e:h.cell k=.ins c fs):
  ∃F',RR g ⟨w.m,F',w.Z⟩ (h.put k .no) H∧Ext w h.nx ⟨w.m,F',w.Z⟩ (h.put k .no).nx∧RV g ⟨w.m,F',w.Z⟩ h.nx (.ins c fs) (.ref (w.m k)):=by
 have q:=r.cell k hk
 rw[e] at q
 obtain⟨⟨q1,q2⟩,dx,gs,⟨q5,q6⟩,q3,q4,q7,hc⟩:=q
 obtain⟨r1,x1⟩:=r.stillG hk q1 q2 q3 (fun _ z=>nomatch z) (fun _ z=>nomatch z)
 have ne:dx≠w.m k:=fun z=>by rw[z,q3] at q4; cases q4
 let F1:=upd w.F (w.m k) (.ins (g.cb c) dx gs)
 let F2:=upd F1 dx (.own (w.m k))
 have f1:F1 dx=none:=by show upd _ _ _ dx=none; rw[upd_ne ne]; exact q5
 have eF:∀a v,F1 a=some v→F2 a=some v:=fun a v e=>by show upd _ _ _ a=_; rw[upd_ne fun z=>by rw[z,f1] at e; cases e]; exact e
 have x2:Ext ⟨w.m,F1,w.Z⟩ h.nx ⟨w.m,F2,w.Z⟩ h.nx:=⟨Zai _,fun _ _=>rfl,eF,fun _ _ e=>e,fun _ h1 h2=>absurd h2 (Zbn h1)⟩
 have tn:∀q∈g.tabs,q.1≠dx:=fun q hq=>(r.tabs q hq).ne2 q4 fun _ z=>nomatch z
 refine⟨F2,⟨fun a v ev=>?_,fun a v ev=>?_,fun j hj=>?_,r1.inj,r1.oc,fun q hq=>(r1.tabs q hq).to eF (by show upd F1 dx _ q.1=none; rw[upd_ne (tn q hq)]; exact (r1.tabs q hq).nF) (r1.tabs q hq).nZ rfl⟩,x1.trans x2,?_⟩
 ·by_cases ha:a=dx
  ·subst ha
   have ev:upd F1 a (.own (w.m k)) a=some v:=ev
   rw[upd_same] at ev
   cases ev
   exact q4
  ·have ev:upd F1 dx (.own (w.m k)) a=some v:=ev
   rw[upd_ne ha] at ev
   exact r1.sub a v ev
 ·refine⟨(r1.subz a v ev).1,?_⟩
  show upd F1 dx _ a=none
  rw[upd_ne fun z=>by rw[z,show w.Z dx=none from q6] at ev; cases ev]
  exact (r1.subz a v ev).2
 ·show RC g _ h.nx H (w.m j) ((h.put k .no).cell j)
  have q:=r1.cell j hj
  have nm:(h.put k .no).cell j≠ .no→w.m j≠dx:=fun hn z=>by
   have hj:j < h.nx:=hj
   have hjk:j≠k:=fun z2=>hn (by rw[z2]; show (if k=k then ZeW.no else h.cell k)=.no; rw[if_pos rfl])
   have ec:(h.put k .no).cell j=h.cell j:=if_neg hjk
   rw[ec] at hn
   have q:=r.cell j hj
   cases ec:h.cell j with
   |no=>exact hn ec
   |lst m=>rw[ec] at q; obtain⟨_,zs,q2',_⟩:=q; rw[z,q4] at q2'; cases q2'
   |ins c fs=>rw[ec] at q; obtain⟨_,dx',gs',_,q2',_⟩:=q; rw[z,q4] at q2'; cases q2'
   |dct t m=>rw[ec] at q; obtain⟨_,_,zs,q2',_⟩:=q; rw[z,q4] at q2'; cases q2'
   |tdc m=>rw[ec] at q; obtain⟨_,zs,q2',_⟩:=q; rw[z,q4] at q2'; cases q2'
  cases ec:(h.put k .no).cell j with
  |no=>rw[ec] at q; exact q.elim fun o e=>⟨o,eF _ _ e⟩
  |lst m=>
   rw[ec] at q
   obtain⟨⟨a1,a2⟩,zs,a3,a4⟩:=q
   exact⟨⟨by show upd F1 dx _ (w.m j)=none; rw[upd_ne (nm (by rw[ec]; exact fun z=>nomatch z))]; exact a1,a2⟩,zs,a3,RVs.ext x2 m zs a4⟩
  |dct t m=>
   rw[ec] at q
   obtain⟨at',⟨a1,a2⟩,zs,a3,a4⟩:=q
   exact⟨at',⟨by show upd F1 dx _ (w.m j)=none; rw[upd_ne (nm (by rw[ec]; exact fun z=>nomatch z))]; exact a1,a2⟩,zs,a3,RVd.ext x2 m zs a4⟩
  |tdc m=>
   rw[ec] at q
   obtain⟨⟨a1,a2⟩,zs,a3,a4⟩:=q
   exact⟨⟨by show upd F1 dx _ (w.m j)=none; rw[upd_ne (nm (by rw[ec]; exact fun z=>nomatch z))]; exact a1,a2⟩,zs,a3,RVt.ext x2 m zs a4⟩
  |ins c' fs'=>
   rw[ec] at q
   obtain⟨⟨a1,a2⟩,dx',gs',⟨a5,a6⟩,a3,a4,a7,ac⟩:=q
   have hj':j < h.nx:=hj
   have hjk:j≠k:=fun z2=>by
    have:(h.put k .no).cell j=.no:=if_pos z2
    rw[this] at ec; cases ec
   have nd:dx'≠dx:=fun z=>by
    rw[z,q4] at a4
    have:w.m k=w.m j:=by
     have b:=Option.some.inj a4
     injection b
    exact hjk (r.inj j k hj' hk this.symm)
   exact⟨⟨by show upd F1 dx _ (w.m j)=none; rw[upd_ne (nm (by rw[ec]; exact fun z=>nomatch z))]; exact a1,a2⟩,dx',gs',⟨by show upd F1 dx _ dx'=none; rw[upd_ne nd]; exact a5,a6⟩,a3,a4,RVf.ext x2 fs' gs' a7,ac⟩
 ·unfold RV
  exact⟨hc,w.m k,dx,gs,rfl,eF _ _ (by show upd w.F (w.m k) _ (w.m k)=_; rw[upd_same]),(by show upd F1 dx _ dx=_; rw[upd_same]),RVf.extF (show Zdi w h.nx ⟨w.m,F2,w.Z⟩ h.nx from⟨Zai _,fun _ _=>rfl,fun a v e=>eF a v (by show upd w.F (w.m k) _ a=_; rw[upd_ne fun z=>by rw[z,q1] at e; cases e]; exact e)⟩) fs gs q7⟩
end
end Rk
/-! Rk.Gj:a generator's body by the evaluator. -/
namespace Rk
open PySem PySem.Spec PyProof.Rows L2 GenW
section
end
end Rk
/-! Rk.Gk:zip([],g(..)). -/
namespace Rk
open PySem PySem.Spec PyProof.Rows L2 GenW
section
end
section
end
section
end
section
end
end Rk
/-! Rk.Gl:yield from a list. -/
namespace Rk
open PySem PySem.Spec PyProof.Rows L2 GenW
section
end
end Rk
/-! Rk.Go:a generator's loop over another generator. -/
namespace Rk
open PySem PySem.Spec PyProof.Rows L2 GenW
section
end
end Rk
/-! Rk.Gp:list(g(..)). -/
namespace Rk
open PySem PySem.Spec PyProof.Rows L2 GenW
section
end
end Rk
/-! Rk.Db:dicts read,stored,copied; cells given up. -/
namespace Rk
open PySem PySem.Spec PyProof.Rows L2
section
end
section
variable {X:Cx} {g:Gi} {z c:Bool} {k:Nat} {E:SX'} {e a b d o i f:Expr} {pos p1 p2 p3:Pos} {es:List Expr} {ra rb rd:Run D}
/-! ### d[k],d.get(k,x),k in d -/
/-! ### dict(d),dict(Zgo),list(d),len(d) -/
/-! ### cells given up -/
def frzE:Expr→Bool
 | .Name .. =>true
 | .Call .. =>true
 | .Dict .. =>true
 | .DictComp .. =>true
 |_=>false
theorem Zpa {e:Expr} (h:frzE e=true) (env:PySem.Env) (whole:Sem Value):isTrue e env whole=(do let v ← whole; standAt e.pos; holding [v] (truthy v)):=by
 cases e<;>first
  |rfl
  |cases h
theorem ev_frz (G:GX g c k X) (ha:EV X g E e ra) (hf:frzE e=true):EV X g E e (fun env h=>(ra env h).bind fun x h=>ZeS x h):=by
 refine EV.of G (PE.mk fun pins s σ H Q I ⟨w,env,h,rr,re,q⟩=>?_) fun whole=>Zpa hf X.env whole
 refine thn (ha.pe.run pins s σ H (fun v H1=>∃w1 h1 x,RR g w1 h1 H1∧RV g w1 h1.nx x v∧Za4 g w1 h1.nx (ZeS x h1) (E σ) (PV g Q)) I ?_) fun u s1 ⟨v,H1,I1,ru,w1,h1,x,rr1,rv,q1⟩=>?_
 ·exact tE.step q rr re rfl fun w1 h1 H1 x v ext rr1 re1 rv q1=>⟨w1,h1,x,rr1,rv,q1⟩
 unfold ZeS at q1
 cases x with
 |ref n=>
  obtain⟨rfl,hm⟩:=Zb0.mp rv
  dsimp only at q1
  cases ec:h1.cell n with
  |lst l=>
   rw[ec] at q1
   obtain⟨xs,q3,r3⟩:=ZbF rr1 hm ec
   obtain⟨rr2,x2⟩:=rr1.still hm ec q3
   exact⟨_,H1,I1,ru,q1 _ _ x2 rr2 _ (Zbd.mpr ⟨_,xs,rfl,upd_same,r3.ext x2⟩)⟩
  |dct t l=>
   rw[ec] at q1
   obtain⟨rfl,⟨f,zz⟩,xs,hy,r⟩:=rr1.dcell hm ec
   obtain⟨od,I2⟩:=I1.lock hy True.intro
   obtain⟨rr2,x2⟩:=rr1.stillD hm ec hy od
   exact⟨_,_,I2,ru,q1 _ _ x2 rr2 _ (ZjE.mpr ⟨rfl,_,xs,rfl,⟨od,upd_same⟩,r.ext x2⟩)⟩
  |ins c fs=>
   rw[ec] at q1
   obtain⟨F',rr2,x2,rv2⟩:=rr1.stillI hm ec
   exact⟨_,H1,I1,ru,q1 _ _ x2 rr2 _ rv2⟩
  |tdc l=>rw[ec] at q1; exact q1.elim
  |no=>rw[ec] at q1; exact q1.elim
 |_=>exact q1.elim
end
end Rk
/-! Rk.Dc:dict displays with stars,at the model's level. -/
namespace Rk
open PySem PySem.Spec PyProof.Rows L2
section
end
section
end
end Rk
/-! Rk.Dd:dict displays. -/
namespace Rk
open PySem PySem.Spec PyProof.Rows L2
section
end
section
end
end Rk
/-! Rk.Ap:a thing apart:no cell,not frozen,not at the side. -/
namespace Rk
open PySem PySem.Spec PyProof.Rows L2
structure Zdv (g:Gi) (w:Wd) (h:AH) (H:Hp) (p:Addr) (o:HO):Prop where
 at_:H p=some o
 noF:w.F p=none
 noZ:w.Z p=none
 noC:∀k,k < h.nx→w.m k≠p
 n1:∀x,o≠ .own x
 n2:∀ps,o≠ .tbl ps
section
variable {g:Gi} {w:Wd} {h:AH} {H:Hp} {p:Addr} {o o':HO}
theorem Zdv.tab (a:Zdv g w h H p o) (r:RR g w h H):∀q∈g.tabs,q.1≠p:=fun q hq=>(r.tabs q hq).ne2 a.at_ a.n2
theorem RC.apart {n:Nat} {b:Addr} {c:ZeW} (hp:H p=some o) (n1:∀x,o≠ .own x) (hb:b≠p) {Z':Hp} (hZ:∀a,a≠p→Z' a=w.Z a) {H':Hp} (hH:∀a,a≠p→H' a=H a) (q:RC g w n H b c):RC g ⟨w.m,w.F,Z'⟩ n H' b c:=by
 have ex:Zdi w n ⟨w.m,w.F,Z'⟩ n:=⟨Zai _,fun _ _=>rfl,fun _ _ e=>e⟩
 cases c with
 |no=>exact q
 |lst l=>
  obtain⟨⟨a1,a2⟩,xs,a3,a4⟩:=q
  exact⟨⟨a1,(hZ _ hb).trans a2⟩,xs,(hH _ hb).trans a3,RVs.extF ex l xs a4⟩
 |dct t l=>
  obtain⟨t0,⟨a1,a2⟩,xs,a3,a4⟩:=q
  exact⟨t0,⟨a1,(hZ _ hb).trans a2⟩,xs,(hH _ hb).trans a3,RVd.extF ex l xs a4⟩
 |tdc l=>
  obtain⟨⟨a1,a2⟩,xs,a3,a4⟩:=q
  exact⟨⟨a1,(hZ _ hb).trans a2⟩,xs,(hH _ hb).trans a3,RVt.extF ex l xs a4⟩
 |ins c fs=>
  obtain⟨⟨a1,a2⟩,dx,gs,⟨a5,a6⟩,a3,a4,a7,a8⟩:=q
  have hd:dx≠p:=fun z=>by rw[z,hp] at a4; exact n1 _ (Option.some.inj a4)
  exact⟨⟨a1,(hZ _ hb).trans a2⟩,dx,gs,⟨a5,(hZ _ hd).trans a6⟩,(hH _ hb).trans a3,(hH _ hd).trans a4,RVf.extF ex fs gs a7,a8⟩
theorem RR.apart (r:RR g w h H) (hp:H p=none) (n1:∀x,o≠ .own x) (n2:∀ps,o≠ .tbl ps):RR g w h (upd H p o)∧Zdv g w h (upd H p o) p o:=by
 have nm:∀k,k < h.nx→w.m k≠p:=fun k hk e=>r.oc k hk (by rw[e]; exact hp)
 refine⟨⟨fun a u e=>by rw[upd_ne (ne_of_none (r.sub a u e) hp)]; exact r.sub a u e,fun a u e=>⟨by rw[upd_ne (ne_of_none (r.subz a u e).1 hp)]; exact (r.subz a u e).1,(r.subz a u e).2⟩,fun k hk=>?_,r.inj,fun k hk=>by rw[upd_ne (nm k hk)]; exact r.oc k hk,fun q hq=>(r.tabs q hq).to (fun _ _ e=>e) (r.tabs q hq).nF (r.tabs q hq).nZ (upd_ne ((r.tabs q hq).ne hp))⟩,⟨upd_same,r.noF hp,r.noZ hp,nm,n1,n2⟩⟩
 exact (r.cell k hk).to (Ext.refl _ _) (fun _ _ a b=>⟨a,b⟩) fun b u e _ _=>by rw[upd_ne (ne_of_none e hp)]; exact e
theorem Zdv.change (a:Zdv g w h H p o) (r:RR g w h H) (n1:∀x,o'≠ .own x) (n2:∀ps,o'≠ .tbl ps):RR g w h (upd H p o')∧Zdv g w h (upd H p o') p o':=by
 refine⟨⟨fun b u e=>by rw[upd_ne fun z=>by rw[z,a.noF] at e; cases e]; exact r.sub b u e,fun b u e=>by rw[upd_ne fun z=>by rw[z,a.noZ] at e; cases e]; exact r.subz b u e,fun k hk=>?_,r.inj,fun k hk=>by rw[upd_ne (a.noC k hk)]; exact r.oc k hk,fun q hq=>(r.tabs q hq).to (fun _ _ e=>e) (r.tabs q hq).nF (r.tabs q hq).nZ (upd_ne (a.tab r q hq))⟩,⟨upd_same,a.noF,a.noZ,a.noC,n1,n2⟩⟩
 exact (r.cell k hk).apart a.at_ a.n1 (a.noC k hk) (fun _ _=>rfl) fun b hb=>upd_ne hb
theorem Zdv.side (a:Zdv g w h H p o) (r:RR g w h H):RR g ⟨w.m,w.F,upd w.Z p o⟩ h H∧Ext w h.nx ⟨w.m,w.F,upd w.Z p o⟩ h.nx:=by
 have hz:∀b u,w.Z b=some u→b≠p:=fun b u e z=>by rw[z,a.noZ] at e; cases e
 refine⟨⟨r.sub,fun b u e=>?_,fun k hk=>?_,r.inj,r.oc,fun q hq=>⟨(r.tabs q hq).nF,by show upd w.Z p o q.1=none; rw[upd_ne (a.tab r q hq)]; exact (r.tabs q hq).nZ,(r.tabs q hq).tab⟩⟩,⟨Zai _,fun _ _=>rfl,fun _ _ e=>e,fun b u e=>by show upd w.Z p o b=_; rw[upd_ne (hz b u e)]; exact e,fun _ h1 h2=>absurd h2 (Zbn h1)⟩⟩
 ·by_cases hb:b=p
  ·subst hb
   have e:upd w.Z b o b=some u:=e
   rw[upd_same] at e
   cases e
   exact⟨a.at_,a.noF⟩
  ·have e:upd w.Z p o b=some u:=e
   rw[upd_ne hb] at e
   exact r.subz b u e
 ·exact (r.cell k hk).apart a.at_ a.n1 (a.noC k hk) (fun b hb=>upd_ne hb) fun _ _=>rfl
theorem Zdv.back {n:Nat} {w2:Wd} {h2:AH} {H2:Hp} (a:Zdv g w h H p o) (r2:RR g w2 h2 H2) (x:Ext ⟨w.m,w.F,upd w.Z p o⟩ h.nx w2 h2.nx):
  RR g ⟨w2.m,w2.F,fun b=>if b=p then none else w2.Z b⟩ h2 H2∧Ext w h.nx ⟨w2.m,w2.F,fun b=>if b=p then none else w2.Z b⟩ h2.nx∧Zdv g ⟨w2.m,w2.F,fun b=>if b=p then none else w2.Z b⟩ h2 H2 p o:=by
 have zp:w2.Z p=some o:=x.Z p o upd_same
 refine⟨r2.lessZ fun b u e=>?_,⟨x.le,x.m,x.F,fun b u e=>?_,fun k k1 k2=>?_⟩,⟨(r2.subz p o zp).1,(r2.subz p o zp).2,if_pos rfl,fun k hk z=>?_,a.n1,a.n2⟩⟩
 ·by_cases hb:b=p
  ·rw[if_pos hb] at e; cases e
  ·rw[if_neg hb] at e; exact e
 ·have hb:b≠p:=fun z=>by rw[z,a.noZ] at e; cases e
  show (if b=p then none else w2.Z b)=some u
  rw[if_neg hb]
  exact x.Z b u (by show upd w.Z p o b=_; rw[upd_ne hb]; exact e)
 ·have q:=x.nz k k1 k2
  have hb:w2.m k≠p:=fun z=>by
   rw[z] at q
   have q:upd w.Z p o p=none:=q
   rw[upd_same] at q; cases q
  have q:upd w.Z p o (w2.m k)=none:=q
  rw[upd_ne hb] at q
  exact q
 ·by_cases c:k < h.nx
  ·have e1:w2.m k=w.m k:=x.m k c
   exact a.noC k c (e1.symm.trans z)
  ·have q:=x.nz k (ZmG c) hk
   have z:w2.m k=p:=z
   rw[z] at q
   have q:upd w.Z p o p=none:=q
   rw[upd_same] at q; cases q
end
section
variable {X:Cx} {g:Gi} {E:SX'}
theorem RV.mF {g:Gi} {w w':Wd} {n:Nat} (hm:w'.m=w.m) (hF:w'.F=w.F) {d:D} {v:V} (r:RV g w n d v):RV g w' n d v:=RV.extF ⟨Zai _,fun k _=>by rw[hm],fun a o e=>by rw[hF]; exact e⟩ d v r
theorem RE.mF {g:Gi} {w w':Wd} {n:Nat} (hm:w'.m=w.m) (hF:w'.F=w.F) {env:Env} {σ:L2.St} (r:RE g w n env σ):RE g w' n env σ:=r.extF ⟨Zai _,fun k _=>by rw[hm],fun a o e=>by rw[hF]; exact e⟩
end
end Rk
/-! Rk.De:{**a,k:v}; displays of Zgo. -/
namespace Rk
open PySem PySem.Spec PyProof.Rows L2
section
variable {X:Cx} {g:Gi} {z c:Bool} {k:Nat} {E:SX'} {e a b d:Expr} {pos p1 p2 p3:Pos} {es:List Expr} {ra rb rd:Run D}
/-! ### displays of Zgo -/
def tPr (g:Gi) (E:SX') (run:Env→AH→Res (List D × List D)) (σ:L2.St) (H:Hp) (Q:List (V × V)→Hp→Prop):Prop:=∃w env h,RR g w h H∧RE g w h.nx env σ∧Za4 g w h.nx (run env h) (E σ) (fun w' h' H' p=>∀ps:List (V × V),RVs g w' h'.nx p.1 (ps.map (·.1))→RVs g w' h'.nx p.2 (ps.map (·.2))→Q ps H')
def PrOk (X:Cx) (g:Gi) (E:SX') (pos:Pos) (keys:List (Option Expr)) (vals:List Expr) (run:Env→AH→Res (List D × List D)):Prop:=∃trs,PPs X pos keys vals trs∧∀σ H Q,tPr g E run σ H Q→tPairs trs σ H Q
theorem pr_nil:PrOk X g E pos [] [] (fun _ h=>.ok ([],[]) h):=⟨[],pps_nil,fun σ H Q ⟨w,env,h,rr,re,q⟩=>q.now rr [] RVs.nil RVs.nil⟩
theorem Zoy {ks:List (Option Expr)} {vs:List Expr} {rr':Env→AH→Res (List D × List D)} (ha:EV X g E a ra) (hb:EV X g E b rb) (hr:PrOk X g E pos ks vs rr'):
  PrOk X g E pos (some a::ks) (b::vs) (fun env h=>(ra env h).bind fun x h=>(rb env h).bind fun y h=>(rr' env h).bind fun p h=>.ok (x::p.1,y::p.2) h):=by
 obtain⟨trs,h1,h2⟩:=hr
 refine⟨_,pps_cons ha.pe hb.pe h1,fun σ H Q ⟨w,env,h,rr,re,q⟩=>?_⟩
 refine tE.step q rr re rfl fun w1 h1 H1 x v ext rr1 re1 rv q1=>?_
 refine tE.step q1 rr1 re1 rfl fun w2 h2' H2 y u ext2 rr2 re2 rv2 q2=>?_
 refine h2 σ H2 _ ⟨w2,env,h2',rr2,re2,q2.bind.mono fun w3 h3 H3 p ext3 rr3 q3 ps r1 r2=>?_⟩
 exact q3.now rr3 ((v,u)::ps) (RVs.mk ((rv.ext ext2 _ _).ext ext3 _ _) r1) (RVs.mk (rv2.ext ext3 _ _) r2)
end
end Rk
/-! Rk.Df:dicts walked; dict comprehensions. -/
namespace Rk
open PySem PySem.Spec PyProof.Rows L2
section
variable {g:Gi} {w0:Wd} {n0:Nat} {d:Addr} {o:Obj}
theorem RVd.none {w:Wd} {n:Nat} {l:List (D × D)} {xs:List (Key × V)} {i:Nat} (r:RVd g w n l xs) (h:l[i]? =none):xs.length≤i:=by
 rw[r.length]
 exact Zcv.mp h
end
section
/-! ### dict comprehensions -/
section
end
end
end Rk
/-! Rk.Dg:d[k]=v; o.f=v on cells; cells given up by the way; match. -/
namespace Rk
open PySem PySem.Spec PyProof.Rows L2
section
variable {X:Cx} {g:Gi} {gG:G} {c:Bool} {k:Nat} {W:L2.WX} {e o i:Expr} {pos p1:Pos} {re ro ri:Run D}
theorem RE.reset {w:Wd} {n:Nat} {env:Env} {σ:L2.St} (r:RE g w n env σ) {i:Nat} {v:V} (h:σ[i]? =some (some v)) {d:D} (q:RV g w n d v):RE g w n (env.set i (.v d)) σ:=by
 have e:σ.set i (some v)=σ:=by
  refine Zd5 fun j=>?_
  by_cases hj:i=j
  ·subst hj
   have hi:=(Zay.mp h).1
   rw[ZbI hi,h]
  ·rw[Zcq hj]
 have q2:=r.set i q
 rw[e] at q2
 exact q2
theorem Zjh {rest:List Stmt} {rr':Run Fl} {i:Nat} (h2:SVs X g W rest rr'):SVs X g W rest (fun env h=>((ldV env i h).bindX env fun x h=>(ZeS x h).bindX env fun v h=>.ok (.nx (env.set i (.v v))) h).bind fun f h=>match f with
  | .nx e=>rr' e h
  |f=>.ok f h):=by
 refine⟨fun pins s σ H D I ⟨w,env,h,rr,re,q⟩=>?_⟩
 have q:Za4 g w h.nx (((ldV env i h).bindX env fun x h=>(ZeS x h).bindX env fun v h=>.ok (.nx (env.set i (.v v))) h).bind fun f h=>match f with
  | .nx e=>rr' e h
  |f=>.ok f h) (fun _ _ _=>False) (PF g W D):=q
 unfold ldV at q
 cases ei:env[i]? with
 |none=>rw[ei] at q; exact q.elim
 |some sl=>
  rw[ei] at q
  cases sl with
  |v x=>
   obtain⟨v,hv,rv⟩:=re.at_ i x ei
   rw[bindX_ok] at q
   unfold ZeS at q
   cases x with
   |ref n=>
    obtain⟨rfl,hm⟩:=Zb0.mp rv
    dsimp only at q
    cases ec:h.cell n with
    |lst l=>
     rw[ec] at q
     obtain⟨xs,q3,r3⟩:=ZbF rr hm ec
     obtain⟨rr2,x2⟩:=rr.still hm ec q3
     exact h2.run pins s σ H D I ⟨_,_,_,rr2,(re.ext x2).reset hv (Zbd.mpr ⟨_,xs,rfl,upd_same,r3.ext x2⟩),q.from x2⟩
    |dct t l=>
     rw[ec] at q
     obtain⟨rfl,⟨f,zz⟩,xs,hy,r⟩:=rr.dcell hm ec
     obtain⟨od,I2⟩:=I.lock hy True.intro
     obtain⟨rr2,x2⟩:=rr.stillD hm ec hy od
     exact h2.run pins s σ _ D I2 ⟨_,_,_,rr2,(re.ext x2).reset hv (ZjE.mpr ⟨rfl,_,xs,rfl,⟨od,upd_same⟩,r.ext x2⟩),q.from x2⟩
    |ins cc fs=>
     rw[ec] at q
     obtain⟨F',rr2,x2,rv2⟩:=rr.stillI hm ec
     exact h2.run pins s σ H D I ⟨_,_,_,rr2,(re.ext x2).reset hv rv2,q.from x2⟩
    |tdc l=>rw[ec] at q; exact q.elim
    |no=>rw[ec] at q; exact q.elim
   |_=>exact q.elim
  |_=>exact q.elim
end
end Rk
/-! Rk.Ta:tables of sets of any size. -/
namespace Rk
open PySem PySem.Spec PyProof.Rows L2
/-! ### i -> 5 i+1 by a power of two meets all -/
def xn:Nat→Nat
 |0=>0
 |n+1=>xn n * 5+1
theorem Zi9 (a:Nat):∀d,xn (a+d)=xn a * 5 ^ d+xn d
 |0=>by simp[xn]
 |d+1=>by
  show xn (a+d) * 5+1=xn a * 5 ^ (d+1)+(xn d * 5+1)
  rw[Zi9 a d,Zci,Nat.add_mul,ZiZ,Nat.add_assoc]
theorem ZgM:∀n,5 ^ n=4 * xn n+1
 |0=>rfl
 |n+1=>by
  rw[Zci,ZgM n]
  show (4 * xn n+1) * 5=4 * (xn n * 5+1)+1
  omega
theorem Zi8 (e:Nat):xn (2 * e)=2 * (xn e * (2 * xn e+1)):=by
 rw[Nat.two_mul,Zi9,ZgM e]
 have:xn e * (4 * xn e+1)=2 * (xn e * (2 * xn e))+xn e:=by
  rw[ZpT,ZpS]
  have:xn e * (4 * xn e)=2 * (xn e * (2 * xn e)):=by
   rw[← ZiZ,← ZiZ,← ZiZ]
   have h1:xn e * 4=2 * xn e * 2:=by omega
   rw[h1]
  omega
 rw[this,ZpT,ZpS]
 omega
theorem ZjQ (k x:Nat):Nat.Coprime (2 ^ k) (2 * x+1):=by
 refine Nat.Coprime.pow_left k ?_
 show Nat.gcd 2 (2 * x+1)=1
 rw[Nat.gcd_rec,show (2 * x+1) % 2=1 by omega]<;>rfl
theorem Znr:∀k n,2 ^ k ∣xn n→2 ^ k ∣n
 |0,n,_=>by rw[Nat.pow_zero]; exact Nat.one_dvd n
 |k+1,n,h=>by
  obtain⟨e,c |c⟩:∃e,n=2 * e∨n=2 * e+1:=⟨n / 2,by omega⟩
  ·subst c
   rw[Zi8,Zci,Zlh] at h
   have h1:2 ^ k ∣xn e * (2 * xn e+1):=Nat.dvd_of_mul_dvd_mul_left (by decide) h
   have h2:2 ^ k ∣xn e:=(ZjQ k (xn e)).dvd_of_dvd_mul_right h1
   rw[Zci,Zlh]
   exact Nat.mul_dvd_mul_left 2 (Znr k e h2)
  ·subst c
   exfalso
   have h2:(2:Nat) ∣xn (2 * e+1):=Nat.dvd_trans (by rw[Zci]; exact Nat.dvd_mul_left ..) h
   have h3:xn (2 * e+1)=xn (2 * e) * 5+1:=rfl
   rw[h3,Zi8] at h2
   omega
theorem ZmJ:∀k,2 ^ k ∣xn (2 ^ k)
 |0=>by rw[Nat.pow_zero]; exact Nat.one_dvd _
 |k+1=>by
  rw[Zci,Zlh,Zi8]
  exact Nat.mul_dvd_mul_left 2 (Nat.dvd_trans (ZmJ k) (Nat.dvd_mul_right ..))
theorem Zet (m:Nat):∀n,lcgN m n=xn n % (m+1)
 |0=>(Nat.zero_mod _).symm
 |n+1=>by
  show (lcgN m n * 5+1) % (m+1)=(xn n * 5+1) % (m+1)
  rw[Zet m n,Nat.add_mod,Nat.mul_mod,Nat.mod_mod,← Nat.mul_mod,← Nat.add_mod]
def GM (m:Nat):Prop:=∃k,3≤k∧m+1=2 ^ k
theorem ZoQ {m:Nat} (hm:GM m) {a b:Nat} (h:a < b) (hb:b≤m):lcgN m a≠lcgN m b:=by
 obtain⟨k,_,e⟩:=hm
 obtain⟨d,rfl⟩:∃d,b=a+d:=⟨b - a,by omega⟩
 rw[Zet,Zet,e,Zi9,ZgM]
 intro z
 have z2:xn a * (4 * xn d+1)+xn d=xn a+xn d * (4 * xn a+1):=by
  rw[ZpT,ZpT,ZpS,ZpS]
  have:xn a * (4 * xn d)=xn d * (4 * xn a):=by rw[Nat.mul_left_comm,Nat.mul_left_comm (xn d),Zlh (xn a)]
  omega
 rw[z2] at z
 have hd:2 ^ k ∣xn d * (4 * xn a+1):=by
  have h1:=Nat.sub_mod_eq_zero_of_mod_eq (m:=xn a+xn d * (4 * xn a+1)) (n:=xn a) (k:=2 ^ k) z.symm
  rw[Nat.add_sub_cancel_left] at h1
  exact Nat.dvd_of_mod_eq_zero h1
 have h2:2 ^ k ∣xn d:=(show Nat.Coprime (2 ^ k) (4 * xn a+1) from by
  have:=ZjQ k (2 * xn a)
  rw[show 2 * (2 * xn a)=4 * xn a by omega] at this
  exact this).dvd_of_dvd_mul_right hd
 have h3:=Nat.le_of_dvd (by omega) (Znr k d h2)
 omega
theorem lcg_lt (m n:Nat):lcgN m n < m+1:=by
 rw[Zet]
 exact Nat.mod_lt _ (Zlg m)
theorem Zj7 {m:Nat} (hm:GM m) {j:Nat} (hj:j≤m):∃b,b≤m∧lcgN m b=j:=by
 rcases Classical.em (∃b,b≤m∧lcgN m b=j) with c |c
 ·exact c
 ·exfalso
  have nd:((List.range (m+1)).map (lcgN m)).Nodup:=by
   refine Zk6.mpr (List.Pairwise.imp_of_mem (fun {a b} ha hb hlt=>?_) (ZeU (n:=m+1)))
   exact ZoQ hm hlt (ZbZ (ZaN.mp hb))
  have q:=nat_nodup_len _ ((List.range (m+1)).erase j) nd fun x hx=>by
   obtain⟨b,hb,rfl⟩:=Zah.mp hx
   exact (List.mem_erase_of_ne fun z=>c ⟨b,ZbZ (ZaN.mp hb),z⟩).2 (ZaN.mpr (lcg_lt m b))
  rw[Zac,List.length_erase_of_mem (ZaN.mpr (Nat.lt_succ_of_le hj)),Zby] at q
  omega
theorem ZhZ {m:Nat} (hm:GM m):∀k,lcgN m (m+1+k)=lcgN m k
 |0=>by
  obtain⟨k,_,e⟩:=hm
  show lcgN m (m+1)=0
  rw[Zet,e]
  exact Nat.mod_eq_zero_of_dvd (ZmJ k)
 |k+1=>congrArg (fun z=>(z * 5+1) % (m+1)) (ZhZ hm k)
theorem ZlV {m:Nat} (hm:GM m) {i j:Nat} (hi:i≤m) (hj:j≤m):∃k,k≤m∧lcgI m i k=j:=by
 obtain⟨a,ha,rfl⟩:=Zj7 hm hi
 obtain⟨b,hb,rfl⟩:=Zj7 hm hj
 by_cases c:b < a
 ·exact⟨b+(m+1) - a,by omega,by rw[lcgN_add,show a+(b+(m+1) - a)=m+1+b by omega,ZhZ hm]⟩
 ·exact⟨b - a,by omega,by rw[lcgN_add,show a+(b - a)=b by omega]⟩
theorem ZjF {m:Nat} (hm:GM m) (h:Int) {j:Nat} (hj:j≤m):∃n,n≤m+12∧runI m (SetTable.bits h) n=j:=by
 obtain⟨k,hk,e⟩:=ZlV hm (runI_le m (SetTable.bits h) 12) hj
 exact⟨12+k,by omega,(runI_tail (bits_lt h) k).trans e⟩
theorem ZoH {m:Nat} (hm:GM m) (h:Int) {j:Nat} (hj:j≤m):∃k,k < 10 * SetTable.turns m∧way m h k=j:=by
 obtain⟨n,hn,e⟩:=ZjF hm h hj
 obtain⟨k,hk,e2⟩:=run_nth m (SetTable.bits h) n
 exact⟨k,by unfold SetTable.turns; omega,(congrArg SetTable.Probe.j e2).trans e⟩
theorem GM.odd {m:Nat} (hm:GM m):m % 2=1:=by
 obtain⟨k,h3,e⟩:=hm
 obtain⟨j,rfl⟩:∃j,k=j+1:=⟨k - 1,by omega⟩
 rw[Zci] at e
 omega
theorem GM.ge {m:Nat} (hm:GM m):7≤m:=by
 obtain⟨k,h3,e⟩:=hm
 have:2 ^ 3≤2 ^ k:=Zco (by decide) h3
 omega
theorem gm_7:GM 7:=⟨3,Zai _,rfl⟩
/-! ### tables -/
structure Zht (t:SetTable) (hs:List Int):Prop where
 ris:Ris t.place.toList
 nodm:t.dummies= #[]
 siz:t.place.size=hs.length
 msk:GM t.mask
 low:∀x∈t.place.toList,x≤t.mask
 met:∀(i:Nat) (h:Int) (j:Nat),hs[i]? =some h→t.place.toList[i]? =some j→∃k,way t.mask h k=j∧∀c,c < k→way t.mask h c∈t.place.toList
theorem ZgO {m:Nat} (h:Int) (k:Nat):way m h k≤m:=by
 have a:SetTable.bits h % (m+1)≤m:=ZbZ (Nat.mod_lt _ (Zlg _))
 have b:=runEnd_bd a
 have c:=nth_in (m:=m) k (runAt m (SetTable.bits h % (m+1)) (SetTable.bits h)) (show SetTable.bits h % (m+1)+(SetTable.runEnd m (SetTable.bits h % (m+1)) - SetTable.bits h % (m+1))≤m by omega)
 exact ZaI (ZmH _ _) c
theorem Zht.free {t:SetTable} {hs:List Int} (T:Zht t hs) (hl:hs.length≤t.mask) (h:Int):∃K,K < 10 * SetTable.turns t.mask∧way t.mask h K∉t.place.toList∧∀k,k < K→way t.mask h k∈t.place.toList:=by
 obtain⟨j,hj,hn⟩:=st_missing t.place.toList (t.mask+1) (by rw[Array.length_toList,T.siz]; omega)
 obtain⟨k,hk,e⟩:=ZoH T.msk h (ZbZ hj)
 obtain⟨K,h1,h2,h3⟩:=st_least (p:=fun k=>way t.mask h k∉t.place.toList) k (e ▸ hn)
 exact⟨K,Zbr h1 hk,h2,fun c hc=>Classical.byContradiction fun z=>h3 c hc z⟩
theorem Zht.past {t:SetTable} {hs:List Int} (T:Zht t hs) {h:Int} {K i j:Nat} (hK:way t.mask h K∉t.place.toList) (hi:hs[i]? =some h) (hj:t.place.toList[i]? =some j):∃k,k < K∧way t.mask h k=j:=by
 obtain⟨k,e,hb⟩:=T.met i h j hi hj
 refine⟨k,?_,e⟩
 by_cases c:k < K
 ·exact c
 ·exfalso
  by_cases d:k=K
  ·exact hK (by rw[← d,e]; exact Zao hj)
  ·exact hK (hb K (by omega))
theorem Zht.put {t:SetTable} {hs:List Int} (T:Zht t hs) {h:Int} {K:Nat} (hK:way t.mask h K∉t.place.toList) (hb:∀k,k < K→way t.mask h k∈t.place.toList) {j p:Nat} (hj:j=way t.mask h K) (hp:p=SetTable.below t.place j):
  (t.put j).2=p∧p≤hs.length∧Zht (t.put j).1 (hs.take p++h::hs.drop p)∧(t.put j).1.mask=t.mask∧(t.put j).1.led=t.led∧(t.put j).1.plain=t.plain∧(t.put j).1.fill=hs.length+1:=by
 have hjm:j≤t.mask:=hj ▸ ZgO h K
 have hjn:j∉t.place.toList:=hj ▸ hK
 have hps:p≤t.place.size:=hp ▸ (below_cut T.ris j).1
 have hpl:p≤t.place.toList.length:=by rw[Array.length_toList]; exact hps
 have hph:p≤hs.length:=T.siz ▸ hps
 have hnp:t.place[SetTable.below t.place j]? ≠some j:=fun e=>hjn (Zao (by rw[Array.getElem?_toList]; exact e))
 have hpp:=put_place t j
 rw[← hp] at hpp
 have hsize:(t.put j).1.place.size=hs.length+1:=by
  rw[← Array.length_toList,hpp,len_ins _ hpl,Array.length_toList,T.siz]
 have up:∀{x:Nat},x∈t.place.toList→x∈(t.put j).1.place.toList:=fun hx=>by rw[hpp]; exact mem_ins.2 (.inr hx)
 refine⟨hp.symm,hph,⟨ris_insert T.ris hnp,put_dm T.nodm j,hsize.trans (len_ins _ hph h).symm,T.msk,fun x hx=>?_,fun i h' j' h1 h2=>?_⟩,rfl,rfl,rfl,?_⟩
 ·rw[hpp] at hx
  exact (mem_ins.1 hx).elim (fun z=>z ▸ hjm) (T.low x)
 ·rw[tins_get hs hph] at h1
  rw[hpp,tins_get _ hpl] at h2
  show ∃k,way t.mask h' k=j'∧∀c,c < k→way t.mask h' c∈(t.put j).1.place.toList
  by_cases c:i < p
  ·rw[if_pos c] at h1 h2
   obtain⟨k,e,z⟩:=T.met i h' j' h1 h2
   exact⟨k,e,fun q hq=>up (z q hq)⟩
  ·rw[if_neg c] at h1 h2
   by_cases d:i=p
   ·rw[if_pos d] at h1 h2
    cases h1; cases h2
    exact⟨K,hj.symm,fun q hq=>up (hb q hq)⟩
   ·rw[if_neg d] at h1 h2
    obtain⟨k,e,z⟩:=T.met (i - 1) h' j' h1 h2
    exact⟨k,e,fun q hq=>up (z q hq)⟩
 ·show (t.put j).1.place.size+(t.put j).1.dummies.size=hs.length+1
  rw[hsize,put_dm T.nodm j]
  rfl
/-! ### laid anew -/
theorem Zmf {m:Nat} (hm:GM m) (owner:Array (Option Nat)) (h:Int) {j:Nat} (hj:j≤m) (hf:oAt owner j=none):
  ∃K,SetTable.layClean.free m owner (SetTable.turns m) (SetTable.bits h % (m+1)) (SetTable.bits h)=some (way m h K)∧oAt owner (way m h K)=none∧∀k,k < K→oAt owner (way m h k)≠none:=by
 obtain⟨n,hn,e⟩:=ZjF hm h hj
 have hw:way m h (off m (SetTable.bits h % (m+1)) (SetTable.bits h) n)=j:=by
  refine (congrArg SetTable.Probe.j (nth_off m n _ _)).trans ?_
  rw[itL_run]
  exact e
 obtain⟨K,k1,k2,k3⟩:=st_least (p:=fun k=>oAt owner (way m h k)=none) _ (show oAt owner (way m h (off m (SetTable.bits h % (m+1)) (SetTable.bits h) n))=none from hw ▸ hf)
 refine⟨K,free_spec m owner _ n _ _ K (by unfold SetTable.turns; omega) k1 (fun k hk=>?_) (by rw[show oAt owner _=none from k2]<;>rfl),k2,k3⟩
 cases z:oAt owner (way m h k) with
 |none=>exact absurd z (k3 k hk)
 |some x=>rfl
theorem ZlJ {m:Nat} (hm:GM m) {done:List Int} {owner:Array (Option Nat)} (W:Own m done owner) (hl:done.length≤m) (h:Int):
  ∃j,SetTable.layClean.free m owner (SetTable.turns m) (SetTable.bits h % (m+1)) (SetTable.bits h)=some j∧Own m (done++[h]) (owner.setIfInBounds j (some done.length)):=by
 obtain⟨ps,hps,hin⟩:=W.ps
 obtain⟨j0,h0,hn0⟩:=st_missing ps (m+1) (by omega)
 have hj0:oAt owner j0=none:=Classical.byContradiction fun z=>hn0 (hin j0 (ZbZ h0) z)
 obtain⟨K,e1,e2,e3⟩:=Zmf hm owner h (ZbZ h0) hj0
 have hjm:way m h K≤m:=ZgO h K
 have hself:=oAt_set_self (owner:=owner) (some done.length) (show way m h K < owner.size by rw[W.sz]; omega)
 have mono:∀{i:Nat},oAt owner i≠none→oAt (owner.setIfInBounds (way m h K) (some done.length)) i≠none:=fun {i} hi=>by
  by_cases c:i=way m h K
  ·rw[c,hself]; exact fun e=>nomatch e
  ·rw[oAt_set_ne _ c]; exact hi
 refine⟨_,e1,by rw[Array.size_setIfInBounds]; exact W.sz,fun j k hj e=>?_,fun k hk=>?_,way m h K::ps,by simp[hps],fun j hj e=>?_⟩
 ·by_cases c:j=way m h K
  ·rw[c,hself] at e
   cases e
   exact⟨h,K,by simp,c.symm,fun c' hc=>mono (e3 c' hc)⟩
  ·rw[oAt_set_ne _ c] at e
   obtain⟨h',K',a1,a2,a3⟩:=W.at_ j k hj e
   exact⟨h',K',by rw[Zbe (Zay.mp a1).1]; exact a1,a2,fun c' hc=>mono (a3 c' hc)⟩
 ·by_cases c:k < done.length
  ·obtain⟨j,hj,e⟩:=W.all k c
   exact⟨j,hj,by rw[oAt_set_ne _ (fun z=>by rw[z,e2] at e; cases e)]; exact e⟩
  ·obtain rfl:k=done.length:=by simp at hk; omega
   exact⟨_,hjm,hself⟩
 ·by_cases c:j=way m h K
  ·exact c ▸ Zag
  ·rw[oAt_set_ne _ c] at e
   exact Zaf _ (hin j hj e)
theorem Zig {m:Nat} (hm:GM m):∀(rest done:List Int) (owner:Array (Option Nat)),Own m done owner→done.length+rest.length≤m→
  ∃o',rest.foldl (stepF m) (some (owner,done.length))=some (o',(done++rest).length)∧Own m (done++rest) o'
 |[],done,owner,W,_=>⟨owner,by simp,by simpa using W⟩
 |h::rest,done,owner,W,hl=>by
  rw[Zae] at hl
  obtain⟨j,e,W'⟩:=ZlJ hm W (by omega) h
  obtain⟨o',f,W2⟩:=Zig hm rest (done++[h]) _ W' (by simp; omega)
  rw[ZbH,Zal (bs:=[h])] at f
  rw[ZbH] at W2
  exact⟨o',by rw[Zcj,stepF_some e]; exact f,W2⟩
theorem Zgs {m:Nat} (hm:GM m) {hs:Array Int} (hn:hs.size≤m):∃owner,SetTable.layClean m hs=some owner∧Own m hs.toList owner:=by
 obtain⟨owner,f,W⟩:=Zig hm hs.toList [] _ (Own.init m) (by rw[Array.length_toList]; simpa using hn)
 exact⟨owner,by rw[layClean_eq]; exact congrArg (Option.map (·.1)) f,by simpa using W⟩
theorem Zh0 {m:Nat} (hm:GM m) (fg mv:Nat) (ld pl:Bool) {hs:Array Int} (hn:hs.size≤m):
  ∃t' order,SetTable.laid m fg mv ld pl hs=some (t',order)∧order.toList.Perm (List.range hs.size)∧Zht t' (order.toList.map fun i=>hs.getD i 0)∧t'.mask=m∧t'.led=ld∧t'.plain=pl:=by
 obtain⟨owner,e,W⟩:=Zgs hm hn
 have hr:SetTable.laid m fg mv ld pl hs=some ({mask:=m,place:=((liveOf m owner).map (·.1)).toArray,dummies:= #[],finger:=fg,led:=ld,moves:=mv,plain:=pl},((liveOf m owner).map (·.2)).toArray):=by
  show (SetTable.layClean m hs).bind _=_
  rw[e]
  rfl
 have ris:=ris_live (fun j=>owner.getD j none) (List.range (m+1)) (by unfold Ris; first |exact ZeU |exact ZeU _)
 have r1:Ris ((liveOf m owner).map (·.1)):=ris.1
 have r2:∀x∈(liveOf m owner).map (·.1),x∈List.range (m+1):=ris.2
 have nd:((liveOf m owner).map (·.1)).Nodup:=List.Pairwise.imp (fun h=>Zbg h) r1
 have hlen:(liveOf m owner).length=hs.size:=by
  obtain⟨ps,p1,p2⟩:=W.ps
  have a:=nat_nodup_len ((liveOf m owner).map (·.1)) ps nd fun x hx=>by
   obtain⟨⟨y,k⟩,hq,rfl⟩:=Zah.mp hx
   obtain⟨b1,b2⟩:=(mem_live W.sz).1 hq
   exact p2 y b1 (by rw[b2]; exact fun z=>nomatch z)
  have b:=nat_nodup_len (List.range hs.size) ((liveOf m owner).map (·.2)) List.nodup_range fun k hk=>by
   obtain⟨j,b1,b2⟩:=W.all k (by rw[Array.length_toList]; exact ZaN.mp hk)
   exact Zah.mpr ⟨(j,k),(mem_live W.sz).2 ⟨b1,b2⟩,rfl⟩
  rw[Zac,p1] at a
  rw[Zac,Zby] at b
  have c:hs.toList.length=hs.size:=rfl
  omega
 refine⟨_,_,hr,perm_range hs.size _ (by simpa using hlen) fun k hk=>?_,⟨r1,rfl,?_,hm,fun x hx=>ZbZ (ZaN.mp (r2 x hx)),fun i h j h1 h2=>?_⟩,rfl,rfl,rfl⟩
 ·obtain⟨j,b1,b2⟩:=W.all k (by rw[Array.length_toList]; exact hk)
  exact Zah.mpr ⟨(j,k),(mem_live W.sz).2 ⟨b1,b2⟩,rfl⟩
 ·show ((liveOf m owner).map (·.1)).toArray.size=_
  simp
 ·have h1':(((liveOf m owner).map (·.2)).map fun i=>hs.getD i 0)[i]? =some h:=h1
  have h2':((liveOf m owner).map (·.1))[i]? =some j:=h2
  rw[ZaK,ZaK] at h1'
  rw[ZaK] at h2'
  cases hq:(liveOf m owner)[i]? with
  |none=>rw[hq] at h2'; cases h2'
  |some q=>
   obtain⟨y,k⟩:=q
   rw[hq] at h1' h2'
   have ej:y=j:=Option.some.inj h2'
   have eh:hs.getD k 0=h:=Option.some.inj h1'
   subst ej
   obtain⟨b1,b2⟩:=(mem_live W.sz).1 (Zao hq)
   obtain⟨h0,K,a1,a2,a3⟩:=W.at_ y k b1 b2
   have e0:hs.getD k 0=h0:=by rw[Array.getD_eq_getD_getElem?,← Array.getElem?_toList,a1]<;>rfl
   obtain rfl:h0=h:=e0.symm.trans eh
   refine⟨K,a2,fun c hc=>?_⟩
   show way m h0 c∈(liveOf m owner).map (·.1)
   cases z:oAt owner (way m h0 c) with
   |none=>exact absurd z (a3 c hc)
   |some k2=>exact Zah.mpr ⟨(way m h0 c,k2),(mem_live W.sz).2 ⟨ZgO h0 c,z⟩,rfl⟩
/-! ### sizes -/
theorem Ziu:∀(f k n:Nat),3≤k→n < 2 ^ (k+f)→∃j,3≤j∧SetTable.sizeAbove.go n f (2 ^ k)=2 ^ j∧n < 2 ^ j∧(2 ^ j≤2 ^ k∨2 ^ j≤2 * n)
 |0,k,n,h3,hn=>⟨k,h3,rfl,hn,.inl (Zai _)⟩
 |f+1,k,n,h3,hn=>by
  unfold SetTable.sizeAbove.go
  by_cases c:2 ^ k≤n
  ·rw[if_pos c,show 2 ^ k * 2=2 ^ (k+1) from (Zci ..).symm]
   obtain⟨j,a,b,d,e⟩:=Ziu f (k+1) n (by omega) (by rw[show k+1+f=k+(f+1) by omega]; exact hn)
   refine⟨j,a,b,d,.inr ?_⟩
   rcases e with e |e
   ·rw[Zci] at e; omega
   ·exact e
  ·rw[if_neg c]
   exact⟨k,h3,rfl,by omega,.inl (Zai _)⟩
theorem Zk4 {n:Nat} (hn:n < 2 ^ 60):GM (SetTable.sizeAbove n - 1)∧n≤SetTable.sizeAbove n - 1∧SetTable.sizeAbove n≤8+2 * n:=by
 obtain⟨j,a,b,d,e⟩:=Ziu 64 3 n (Zai _) (ZaT hn (Zco (by decide) (by decide)))
 have b':SetTable.sizeAbove n=2 ^ j:=b
 have:0 < 2 ^ j:=Nat.pow_pos (by decide)
 rw[b']
 refine⟨⟨j,a,by omega⟩,by omega,?_⟩
 rcases e with e |e
 ·have:(2:Nat) ^ 3=8:=rfl
  omega
 ·omega
end Rk
/-! Rk.Tb:sets of ints and texts,or of tuples of them:adding. -/
namespace Rk
open PySem PySem.Spec PyProof.Rows L2
abbrev SK:=Key ⊕ List Key
abbrev El:=SK × Value
def ZbL (P:Program) (w:World):SK→Int
 | .inl k=>(mixKind P w).hash k
 | .inr ks=>tupleKeyHash (mixKind P w) ks
def IsK (P:Program) (w:World) (h:Heap):SK→Value→Prop
 | .inl k,v=>(mixKind P w).is k v=true
 | .inr ks,v=>∃b,v=.ref b∧IsTupleKey (mixKind P w) h ks b
def Zca (P:Program) (w:World) (L:List El):List (Int × Value):=L.map fun p=>(ZbL P w p.1,p.2)
section
variable {P:Program} {w:World} {A:Around} {E:Value→Shared→Prop} {s:Shared}
theorem Zl1 {h h':Heap} {ks:List Key} {b:Addr} (x:IsTupleKey (mixKind P w) h ks b) (hk:∀c o,h.get? c=some o→h'.get? c=some o):IsTupleKey (mixKind P w) h' ks b:=by
 obtain⟨o,items,n,ho,r⟩:=x
 exact⟨o,items,n,hk b o ho,r⟩
theorem IsK.keep {h h':Heap} (hk:∀c o,h.get? c=some o→h'.get? c=some o):∀{k:SK} {v:Value},IsK P w h k v→IsK P w h' k v
 | .inl _,_,x=>x
 | .inr _,_,⟨b,e,x⟩=>⟨b,e,Zl1 x hk⟩
theorem Zkf {h h':Heap} {ks:List Key} {a b:Addr} {o:Obj} {es:Array (Int × Value)} {ep:Nat} {t:SetTable} (x:IsTupleKey (mixKind P w) h ks b) (ho:h.get? a=some o) (hd:o.data=.set es ep t) (sb:Heap.SameBut a h h'):IsTupleKey (mixKind P w) h' ks b:=by
 obtain⟨o',items,n,ho',hc,hd',hi⟩:=x
 have hne:b≠a:=fun z=>by
  subst z
  rw[ho] at ho'
  cases ho'
  rw[hd] at hd'
  exact nomatch hd'
 exact⟨o',items,n,(sb.2 b hne).trans ho',hc,hd',hi⟩
theorem IsK.but {h h':Heap} {a:Addr} {o:Obj} {es:Array (Int × Value)} {ep:Nat} {t:SetTable} (ho:h.get? a=some o) (hd:o.data=.set es ep t) (sb:Heap.SameBut a h h'):∀{k:SK} {v:Value},IsK P w h k v→IsK P w h' k v
 | .inl _,_,x=>x
 | .inr _,_,⟨b,e,x⟩=>⟨b,e,Zkf x ho hd sb⟩
theorem IsK.inj {h:Heap}:∀{k j:SK} {v:Value},IsK P w h k v→IsK P w h j v→k=j
 | .inl a,.inl b,v,x,y=>congrArg Sum.inl ((mixKind P w).inj v a b x y)
 | .inl a,.inr b,v,x,⟨c,e,_⟩=>by
  subst e
  have q:=(mixKind P w).byValue a _ x
  simp[carriedByValue] at q
 | .inr a,.inl b,v,⟨c,e,_⟩,y=>by
  subst e
  have q:=(mixKind P w).byValue b _ y
  simp[carriedByValue] at q
 | .inr a,.inr b,v,⟨c,e,x⟩,⟨d,e2,y⟩=>by
  subst e
  cases e2
  exact congrArg Sum.inr (x.inj y)
theorem k_hash {k:SK} {v:Value} {Q:Int→Shared→Prop} (hu:A.units < cLine) (x:IsK P w s.heap k v) (h:∀n,Q (ZbL P w k) {s with toks:=s.toks+n}):wpAny (model P w) A (pyHash v) Q E s:=by
 cases k with
 |inl k=>exact (mixKind P w).pyHash x (h _)
 |inr ks=>
  obtain⟨b,rfl,x⟩:=x
  exact wpAny_pyHash_tuple hu x (h _)
/-! ### small questions -/
theorem Zgu {ks:List Key} {vs:List Value} (h:ItemsAre (mixKind P w) ks vs):∀v∈vs,(∃i t,v=Value.int i t)∨∃x t,v=Value.str x t:=by
 induction h with
 |nil=>intro v hv; cases hv
 |@cons k0 v0 ks vs h1 _ ih=>
  intro v hv
  rcases Zak.mp hv with rfl |hv
  ·rcases keyIs_shape (k:=k0) (v:=v) h1 with⟨i,t,_,e⟩ |⟨x,t,_,e⟩
   ·exact .inl ⟨i,t,e⟩
   ·exact .inr ⟨x,t,e⟩
  ·exact ih v hv
theorem Zo3 {ks:List Key} {b:Addr} {Q:Bool→Shared→Prop} (hk:IsTupleKey (mixKind P w) s.heap ks b) (h:∀r,Q r s):wpAny (model P w) A (hashByValue 8 (.ref b)) Q E s:=by
 have hT:=hk.typeIs
 obtain⟨o,items,n,ho,_,hd,hi⟩:=hk
 unfold hashByValue
 refine wpAny_bind (wpAny_specialOf hT F.slot_tuple_hash.lookup ?_)
 refine wpAny_bind (wpAny_seqItems ho hd (wpAny_bind ?_))
 show wpAny _ _ (forIn items _ _) _ _ s
 rw[← Array.forIn_toList]
 refine wpAny_forIn_list _ (fun rest r q=>q=s∧∀v∈rest,(∃i t,v=Value.int i t)∨∃x t,v=Value.str x t) _ ?_ ?_ _ _ ⟨rfl,Zgu hi⟩
 ·rintro v rest r q ⟨rfl,hall⟩
  rcases hall v Zag with⟨i,t,rfl⟩ |⟨x,t,rfl⟩
  ·rw[show hashByValue 7 (.int i t)=pure true from rfl]
   refine wpAny_bind (wpAny_pure ?_)
   simp only[ZaM,Zau,if_false]
   exact wpAny_pure ⟨rfl,fun u hu'=>hall u (Zaf _ hu')⟩
  ·rw[show hashByValue 7 (.str x t)=pure false from rfl]
   refine wpAny_bind (wpAny_pure ?_)
   simp only[Zbf,if_true]
   refine wpAny_pure ?_
   exact wpAny_pure (h _)
 ·rintro⟨r1,r2⟩ q ⟨rfl,_⟩
  cases r1<;>exact wpAny_pure (h _)
theorem Zgp {ks:List Key} {b:Addr} {Q:Bool→Shared→Prop} (hk:IsTupleKey (mixKind P w) s.heap ks b) (h:Q false s):wpAny (model P w) A (ofAClassStatement 8 (.ref b)) Q E s:=by
 have hT:=hk.typeIs
 obtain⟨o,items,n,ho,_,hd,hi⟩:=hk
 unfold ofAClassStatement
 refine wpAny_bind (wpAny_typeOf hT ?_)
 dsimp only
 simp only[show (("tuple":String) == "tuple")=true by decide,if_true,ZaM,Zau,if_false]
 try refine wpAny_bind (wpAny_pure ?_)
 try simp only[ZaM,Zau,if_false]
 refine wpAny_bind (wpAny_seqItems ho hd ?_)
 dsimp only
 refine wpAny_bind ?_
 show wpAny _ _ (forIn items _ _) _ _ s
 rw[← Array.forIn_toList]
 refine wpAny_forIn_list _ (fun rest r q=>r.1=none∧q=s∧∀v∈rest,(∃i t,v=Value.int i t)∨∃x t,v=Value.str x t) _ ?_ ?_ _ _ ⟨rfl,rfl,Zgu hi⟩
 ·rintro v rest r q ⟨hr,rfl,hall⟩
  have e0:ofAClassStatement 7 v=pure false:=by rcases hall v Zag with⟨i,t,rfl⟩ |⟨x,t,rfl⟩<;>rfl
  rw[e0]
  refine wpAny_bind (wpAny_pure ?_)
  simp only[Zau,if_false]
  exact wpAny_pure ⟨rfl,rfl,fun u hu'=>hall u (Zaf _ hu')⟩
 ·rintro⟨r1,r2⟩ q ⟨hr,rfl,_⟩
  simp only at hr
  subst hr
  exact wpAny_pure h
theorem ZiF {ks:List Key} {b:Addr} {Q:Bool→Shared→Prop} (hk:IsTupleKey (mixKind P w) s.heap ks b) {ys:List Value} (hy:∀y∈ys,∃js c,y=Value.ref c∧IsTupleKey (mixKind P w) s.heap js c) (h:Q false s):
  wpAny (model P w) A (searchCouldBeSeen (.ref b) ys) Q E s:=by
 unfold searchCouldBeSeen
 refine wpAny_bind (wpAny_forIn_list _ (fun rest r q=>r.1=none∧q=s∧∀y∈rest,∃js c,y=Value.ref c∧IsTupleKey (mixKind P w) s.heap js c) _ ?_ ?_ _ _ ⟨rfl,rfl,hy⟩)
 ·rintro v rest r q ⟨hr,rfl,hall⟩
  obtain⟨js,c,rfl,hc⟩:=hall v Zag
  have tl:∀y∈rest,∃js c,y=Value.ref c∧IsTupleKey (mixKind P w) q.heap js c:=fun u hu'=>hall u (Zaf _ hu')
  dsimp only
  by_cases hv:(b == c||(carriedByValue (.ref b)&&carriedByValue (.ref c)))=true
  ·exact wp_if_pos hv (wpAny_pure ⟨rfl,rfl,tl⟩)
  ·refine wp_if_neg hv (wpAny_bind (wpAny_eqIsQuiet_tuple hk ?_))
   simp only[ZaM,Zau,if_false]
   refine wpAny_bind (wpAny_eqIsQuiet_tuple hc ?_)
   simp only[ZaM,Zau,if_false]
   refine wpAny_bind (Zgp hk ?_)
   simp only[Zau,if_false]
   refine wpAny_bind (Zgp hc ?_)
   simp only[Zau,if_false]
   exact wpAny_pure ⟨rfl,rfl,tl⟩
 ·rintro⟨r1,r2⟩ q ⟨hr,rfl,_⟩
  simp only at hr
  subst hr
  exact wpAny_pure h
end
/-! ### sets -/
structure Zcs (P:Program) (w:World) (h:Heap) (a:Addr) (sc:Bool) (L:List El) (es:Array (Int × Value)) (ep:Nat) (t:SetTable):Prop where
 ob:∃o,h.get? a=some o∧o.ExactSet∧o.data=.set es ep t
 rows:es.toList=Zca P w L
 nd:(L.map (·.1)).Nodup
 el:∀p∈L,IsK P w h p.1 p.2
 srt:∀p∈L,p.1.isLeft=sc
 ris:Ris t.place.toList
 led:w.params.followText "set-order"=true∨t.led=true
 fit:t.fits es.size=true
 few:L.length < 1000
 tab:sc=false→Zht t (L.map fun p=>ZbL P w p.1)∧L.length * 5 < t.mask * 3∧t.mask≤8200
theorem ZbK {P:Program} {w:World} {L:List El} {es:Array (Int × Value)} (h:es.toList=Zca P w L):es.size=L.length:=by
 have q:=congrArg List.length h
 unfold Zca at q
 rw[Array.length_toList,Zac] at q
 exact q
theorem ZcX {P:Program} {w:World} {L:List El} {es:Array (Int × Value)} (h:es.toList=Zca P w L) {i:Nat} {p:El} (hp:L[i]? =some p):es[i]? =some (ZbL P w p.1,p.2):=by
 rw[← Array.getElem?_toList,h]
 unfold Zca
 rw[ZaK,hp]
 rfl
theorem Zfi {t:SetTable} {hs:List Int} (T:Zht t hs) {n:Nat} (e:hs.length=n) (hl:n≤t.mask):t.fits n=true:=by
 have h1:=T.siz
 unfold SetTable.fits SetTable.fill
 rw[T.nodm,Zaa,Zbi,Zab]
 show t.place.size=n∧t.place.size+0≤t.mask
 omega
section
variable {P:Program} {w:World} {A:Around} {E:Value→Shared→Prop} {s:Shared} {a:Addr} {sc:Bool} {L:List El} {es:Array (Int × Value)} {ep:Nat} {t:SetTable}
theorem Zcs.keep {h h':Heap} (R:Zcs P w h a sc L es ep t) (ha:∀o,h.get? a=some o→h'.get? a=some o) (hel:∀p∈L,IsK P w h' p.1 p.2):Zcs P w h' a sc L es ep t:=by
 obtain⟨o,ho,r⟩:=R.ob
 exact⟨⟨o,ha o ho,r⟩,R.rows,R.nd,hel,R.srt,R.ris,R.led,R.fit,R.few,R.tab⟩
theorem Zc8 {h:Heap} (sc:Bool) (ho:h.get? a=some {cls:=.type "set",dict:=none,data:=.set #[] 0 (.fresh 0 0 (!w.params.followText "set-order"))}):Zcs P w h a sc [] #[] 0 (.fresh 0 0 (!w.params.followText "set-order")) where
 ob:=⟨_,ho,⟨rfl,rfl,rfl⟩,rfl⟩
 rows:=rfl
 nd:=List.nodup_nil
 el:=fun p hp=>nomatch hp
 srt:=fun p hp=>nomatch hp
 ris:=List.Pairwise.nil
 led:=by
  show _∨(!w.params.followText "set-order")=true
  cases w.params.followText "set-order"
  ·exact .inr rfl
  ·exact .inl rfl
 fit:=rfl
 few:=by decide
 tab:=fun _=>⟨⟨List.Pairwise.nil,rfl,rfl,gm_7,fun x hx=>(nomatch hx),fun i h j hi=>(by simp at hi)⟩,(show 0 * 5 < 7 * 3 by decide),(show 7≤8200 by decide)⟩
theorem Zga (R:Zcs P w s.heap a false L es ep t) {x:Addr} {k:List Key} (hx:IsTupleKey (mixKind P w) s.heap k x) (hu:A.units < cLine) {K:Nat} {g:Int} (hg:g=ZbL P w (.inr k)) (hKf:K < 10 * SetTable.turns t.mask)
  (hK:way t.mask g K∉t.place.toList) (hKb:∀c,c < K→way t.mask g c∈t.place.toList) {Q:SetFound→Shared→Prop}
  (hin: .inr k∈L.map (·.1)→Q (.there none) s) (hout: .inr k∉L.map (·.1)→Q (.free (way t.mask g K) false) s):
  ∀(f c:Nat) (st:Option SetTable.Probe),st.getD (t.probeStart g)=nth t.mask (runAt t.mask (SetTable.bits g % (t.mask+1)) (SetTable.bits g)) c→c≤K→K - c < f→
   (∀(i:Nat) (p:El),L[i]? =some p→p.1=.inr k→∃d,c≤d∧d < K∧t.place.toList[i]? =some (way t.mask g d))→wpAny (model P w) A (setSearchFrom a (.ref x) g true f st) Q E s
 |0,c,st,_,_,hf,_=>absurd hf (ZcF _)
 |f+1,c,st,hst,hc,hf,hre=>by
  obtain⟨o,ho,hex,hd⟩:=R.ob
  obtain⟨T,hroom,hmk⟩:=R.tab rfl
  have hlen:=ZbK R.rows
  rw[setSearchFrom_succ]
  refine wpAny_bind (wpAny_setState_of ho hd R.fit ?_)
  dsimp only
  refine wp_if_neg (by unfold SetTable.gaveWay; rw[T.msk.odd]; decide) ?_
  try refine wpAny_bind (wpAny_pure ?_)
  have hnd:∀(n:Nat) (p:SetTable.Probe),p.dummy=none→(nth t.mask p n).dummy=none:=by
   intro n
   induction n with
   |zero=>exact fun p h=>h
   |succ n ih=>
    refine fun p h=>ih (adv t.mask p) ?_
    unfold adv
    split<;>exact h
  generalize hP0:runAt t.mask (SetTable.bits g % (t.mask+1)) (SetTable.bits g)=P0 at hst
  have hP0d:P0.dummy=none:=by rw[← hP0]; rfl
  have wy:∀q,(nth t.mask P0 q).j=way t.mask g q:=fun q=>by rw[← hP0]
  have e1:∀q,(nth t.mask (nth t.mask P0 c) q).j=way t.mask g (c+q):=fun q=>by rw[← nth_add,wy]
  have spec:=go_spec t T.ris T.nodm (fun i=>(es[i]?.map (·.1)).getD 0) g (10 * SetTable.turns t.mask) (K - c) (nth t.mask P0 c) (hnd c _ hP0d) (by omega)
   (fun q hq=>by rw[e1]; exact hKb (c+q) (by omega)) (by rw[e1,show c+(K - c)=K by omega]; exact hK)
  have hashAt:∀(i:Nat) (p:El),L[i]? =some p→(es[i]?.map (·.1)).getD 0=ZbL P w p.1:=fun i p hp=>by rw[ZcX R.rows hp]; rfl
  rcases spec with⟨q,i,hq,hi,hh,hno,hpr⟩ |⟨hno,hpr⟩
  ·rw[e1] at hi
   have hpr':t.probe (fun i=>(es[i]?.map (·.1)).getD 0) g (st.getD (t.probeStart g))=some (.candidate (way t.mask g (c+q)) i (nth t.mask P0 (c+(q+1)))):=by
    rw[hst,← e1,nth_add]
    exact hpr
   rw[hpr']
   dsimp only
   have hil:i < L.length:=by
    have h1:=(Zay.mp hi).1
    have h2:=T.siz
    rw[Zac] at h2
    rw[Array.length_toList] at h1
    omega
   have hp:L[i]? =some L[i]:=Zad hil
   generalize L[i]=p at hp
   have hmem:p∈L:=Zao hp
   obtain⟨pk,pv⟩:=p
   have hpt:=R.el _ hmem
   have hps:=R.srt _ hmem
   cases pk with
   |inl z=>cases hps
   |inr pk=>
   obtain⟨pb,rfl,hpt⟩:=hpt
   have rest:wpAny (model P w) A (searchRest a (.ref x) g true f es t (way t.mask g (c+q)) i (nth t.mask P0 (c+(q+1)))) Q E s:=by
    unfold searchRest
    rw[ZcX R.rows hp]
    dsimp only
    refine wpAny_bind (wpAny_holding (wpAny_eqBool_tuple hu hpt hx ?_))
    refine wpAny_bind (wpAny_setState_of ho hd R.fit ?_)
    dsimp only
    by_cases hkk:pk=k
    ·refine wp_if_pos (by simp[hkk]) (wpAny_pure (hin ?_))
     exact Zah.mpr ⟨_,hmem,congrArg Sum.inr hkk⟩
    ·refine wp_if_neg (by simp[hkk]) ?_
     try refine wpAny_bind (wpAny_pure ?_)
     rw[sameMem]
     dsimp only
     have hsl:t.slot (way t.mask g (c+q))=.live i:=slot_live T.ris hi
     simp only[if_true,hsl,ZcX R.rows hp]
     refine wpAny_bind (wpAny_isSame_ref_self (wpAny_bind (wpAny_pure ?_)))
     simp only[if_true]
     refine wp_if_neg (by simp[hkk]) ?_
     refine Zga R hx hu hg hKf hK hKb hin hout f (c+(q+1)) _ (by rw[hP0]; rfl) (by omega) (by omega) fun i0 p0 h0 hk0=>?_
     obtain⟨d,a1,a2,a3⟩:=hre i0 p0 h0 hk0
     refine⟨d,?_,a2,a3⟩
     have ne1:¬d < c+q:=fun z=>hno (d - c) i0 (by omega) (by rw[e1,show c+(d - c)=d by omega]; exact a3) (by
      show (es[i0]?.map (·.1)).getD 0=g
      rw[hashAt i0 p0 h0,hk0,hg])
     have ne2:d≠c+q:=fun z=>by
      rw[z] at a3
      have s0:=slot_live T.ris a3
      rw[hsl] at s0
      injection s0 with s0
      rw[← s0,hp] at h0
      cases h0
      exact hkk (Sum.inr.inj hk0)
     omega
   by_cases hl:t.led=true
   ·refine wp_if_neg (by simp[hl]) ?_
    try refine wpAny_bind (wpAny_pure ?_)
    exact rest
   ·refine wp_if_pos (by simp[hl]) (wpAny_bind (ZiF hx (fun y hy=>?_) ?_))
    ·obtain⟨e,he,rfl⟩:=Zah.mp hy
     have he1:e∈es∧e.1=g:=by simpa using he
     have he2:e∈es.toList:=by simpa using he1.1
     rw[R.rows] at he2
     obtain⟨p2,hp2,rfl⟩:=Zah.mp he2
     obtain⟨k2,v2⟩:=p2
     have z1:=R.el _ hp2
     have z2:=R.srt _ hp2
     cases k2 with
     |inl z=>cases z2
     |inr k2=>
      obtain⟨b2,e2,z1⟩:=z1
      exact⟨k2,b2,e2,z1⟩
    ·refine wp_if_neg (by decide) ?_
     try refine wpAny_bind (wpAny_pure ?_)
     exact rest
  ·have hpr':t.probe (fun i=>(es[i]?.map (·.1)).getD 0) g (st.getD (t.probeStart g))=some (.empty (way t.mask g K) none):=by
    have e2:way t.mask g K=(nth t.mask (nth t.mask P0 c) (K - c)).j:=by rw[e1,show c+(K - c)=K by omega]
    rw[hst,e2]
    exact hpr
   rw[hpr']
   dsimp only
   refine wpAny_pure (hout fun hm=>?_)
   obtain⟨p0,h0,hk0⟩:=Zah.mp hm
   obtain⟨i0,hi0,e0⟩:=List.getElem_of_mem h0
   have h00:L[i0]? =some p0:=by rw[Zad hi0,e0]
   obtain⟨d,a1,a2,a3⟩:=hre i0 p0 h00 hk0
   exact hno (d - c) i0 (by omega) (by rw[e1,show c+(d - c)=d by omega]; exact a3) (by
    show (es[i0]?.map (·.1)).getD 0=g
    rw[hashAt i0 p0 h00,hk0,hg])
theorem Zoe (R:Zcs P w s.heap a false L es ep t) {x:Addr} {k:List Key} (hx:IsTupleKey (mixKind P w) s.heap k x) (hu:A.units < cLine) {Q:SetFound→Shared→Prop}
  (hin: .inr k∈L.map (·.1)→Q (.there none) s)
  (hout:∀K,.inr k∉L.map (·.1)→way t.mask (ZbL P w (.inr k)) K∉t.place.toList→(∀c,c < K→way t.mask (ZbL P w (.inr k)) c∈t.place.toList)→Q (.free (way t.mask (ZbL P w (.inr k)) K) false) s):
  wpAny (model P w) A (setSearch a (.ref x) (ZbL P w (.inr k)) true) Q E s:=by
 obtain⟨T,hroom,hmk⟩:=R.tab rfl
 obtain⟨K,hKf,hK,hKb⟩:=T.free (by rw[Zac]; omega) (ZbL P w (.inr k))
 have hbig:K < 100000:=by
  unfold SetTable.turns at hKf
  omega
 unfold setSearch
 refine Zga R hx hu rfl hKf hK hKb hin (fun hn=>hout K hn hK hKb) 100000 0 none rfl (ZeB _) (by omega) fun i p hp hk=>?_
 have hi:(L.map fun p=>ZbL P w p.1)[i]? =some (ZbL P w (.inr k)):=by rw[ZaK,hp,← hk]; rfl
 have hil:i < t.place.toList.length:=by
  have h1:=(Zay.mp hp).1
  have h2:=T.siz
  rw[Zac] at h2
  rw[Array.length_toList]
  omega
 have hj:=Zad hil
 obtain⟨c,hc,e⟩:=T.past hK hi hj
 exact⟨c,ZeB _,hc,by rw[hj,e]⟩
theorem ZjG (L:List El) (p:Nat) (x:El):Zca P w (L.take p++x::L.drop p)=(Zca P w L).take p++(ZbL P w x.1,x.2)::(Zca P w L).drop p:=by
 unfold Zca
 rw[Zbs,Zap,List.map_take,Zi1]
theorem Ze3 (L:List El) (es:Array (Int × Value)) (order:Array Nat) (hr:es.toList=Zca P w L) (hp:order.toList.Perm (List.range L.length)):
  ∃L2,(order.filterMap (es[·]?)).toList=Zca P w L2∧L2.Perm L∧(L2.map fun p=>ZbL P w p.1)=order.toList.map fun i=>(es.map (·.1)).getD i 0:=by
 have hsz:=ZbK hr
 have key:∀l:List Nat,(∀i∈l,i < L.length)→∃L2:List El,l.filterMap (fun i=>es[i]?)=Zca P w L2∧L2=l.filterMap (fun i=>L[i]?)∧(L2.map fun p=>ZbL P w p.1)=l.map fun i=>(es.map (·.1)).getD i 0:=by
  intro l
  induction l with
  |nil=>exact fun _=>⟨[],rfl,rfl,rfl⟩
  |cons i l ih=>
   intro hl
   have hi:=hl i Zag
   have gi:=Zad hi
   obtain⟨L2,e1,e2,e3⟩:=ih fun j hj=>hl j (Zaf _ hj)
   refine⟨L[i]::L2,?_,?_,?_⟩
   ·rw[Zd4 (ZcX hr gi),e1]
    rfl
   ·rw[Zd4 gi,e2]
   ·rw[Zap,Zap,e3]
    have e5:(es.map (·.1))[i]? =some (ZbL P w (L[i]).1):=by rw[Array.getElem?_map,ZcX hr gi]; rfl
    rw[show (es.map (·.1)).getD i 0=ZbL P w (L[i]).1 by simp[Array.getD_eq_getD_getElem?,e5]]
 obtain⟨L2,e1,e2,e3⟩:=key order.toList fun i hi=>ZaN.mp (hp.mem_iff.mp hi)
 refine⟨L2,by first |(rw[Array.toList_filterMap]; exact e1) |simpa using e1,?_,e3⟩
 have h1:L2.Perm ((List.range L.length).filterMap fun i=>L[i]?):=by rw[e2]; exact hp.filterMap _
 have h2:∀n,n≤L.length→(List.range n).filterMap (fun i=>L[i]?)=L.take n:=by
  intro n
  induction n with
  |zero=>exact fun _=>rfl
  |succ n ih=>
   intro hn
   rw[List.range_succ,List.filterMap_append,ih (Nat.le_of_lt hn),List.take_succ,Zad hn,Zd4 (Zad hn)]
   rfl
 rw[h2 L.length (Zai _),ZeH] at h1
 exact h1
theorem Ze0 {o:Obj} (ho:s.heap.get? a=some o) (hex:o.ExactSet) (hd:o.data=.set es ep t) (hrows:es.toList=Zca P w L) (hf:t.fits es.size=true)
  (nd:(L.map (·.1)).Nodup) (el:∀p∈L,IsK P w s.heap p.1 p.2) (srt:∀p∈L,p.1.isLeft=false) (ld:w.params.followText "set-order"=true∨t.led=true) (few:L.length < 1000) {wanted:Nat}
  (hn:L.length * 2≤wanted) (hn1:1≤wanted) (hw:wanted≤4000) {Q:Unit→Shared→Prop}
  (hQ:∀h' L' es' ep' t',Heap.SameBut a s.heap h'→Zcs P w h' a false L' es' ep' t'→wanted≤t'.mask→L'.Perm L→t'.moves=t.movedTo t'.mask→Q () {s with heap:=h'}):wpAny (model P w) A (setRelay a wanted) Q E s:=by
 have hsl:=ZbK hrows
 obtain⟨g1,g2,g3⟩:=Zk4 (n:=wanted) (by have:(4000:Nat) < 2 ^ 60:=by decide
                                       omega)
 have em:=Zh0 g1 t.finger (t.movedTo (SetTable.sizeAbove wanted - 1)) t.led t.plain (hs:=es.map (·.1)) (by rw[Array.size_map,hsl]; omega)
 generalize hM:SetTable.sizeAbove wanted - 1=M at g1 g2 em
 obtain⟨t',order,e,hp,T,em,el',ep'⟩:=em
 have hmv:t'.moves=t.movedTo M:=by
  have e0:=e
  unfold SetTable.laid at e0
  obtain⟨ow,_,e1⟩:=Za9.mp e0
  have e2:=Option.some.inj e1
  have e3:=congrArg (fun z=>z.1.moves) e2
  exact e3.symm
 rw[Array.size_map,hsl] at hp
 obtain⟨L2,r1,r2,r3⟩:=Ze3 L es order hrows hp
 rw[← r3] at T
 have hs2:(order.filterMap (es[·]?)).size=es.size:=(ZbK r1).trans (r2.length_eq.trans hsl.symm)
 rw[setRelay_eq]
 refine wpAny_bind (wpAny_setState_of ho hd hf ?_)
 dsimp only
 refine wp_if_neg (by rw[sizeLine_eq]; omega) ?_
 try refine wpAny_bind (wpAny_pure ?_)
 rw[show t.relaid (es.map (·.1)) wanted=some (t',order) from (by show SetTable.laid _ _ _ _ _ _=_; rw[hM]; exact e)]
 dsimp only
 refine wpAny_bind (wp_if_neg (by rw[hs2]; simp) ?_)
 try refine wpAny_bind (wpAny_pure ?_)
 refine wpAny_pure ?_
 dsimp only
 refine wpAny_storeSet_of ho hd ?_ (by rw[hs2,hsl,sizeLine_eq]; omega)
 have sb:Heap.SameBut a s.heap (s.heap.update a (Obj.putSet (order.filterMap (es[·]?)) t')):=Heap.SameBut.update ..
 have hl2:=r2.length_eq
 refine hQ _ L2 _ (ep+1) t' sb ⟨⟨_,store_at ho hd,⟨hex.1,hex.2.1,hex.2.2⟩,rfl⟩,r1,(r2.map (·.1)).nodup_iff.mpr nd,fun p hpm=>(el p (r2.mem_iff.mp hpm)).but ho hd sb,fun p hpm=>srt p (r2.mem_iff.mp hpm),T.ris,by rw[el']; exact ld,?_,by omega,fun _=>⟨T,by omega,by omega⟩⟩ (by omega) r2 (by rw[em]; exact hmv)
 exact Zfi T (by rw[Zac,hl2,hs2,hsl]) (by omega)
theorem Zht.off {t:SetTable} {hs:List Int} (T:Zht t hs):Zht {t with plain:=false} hs:=⟨T.ris,T.nodm,T.siz,T.msk,T.low,T.met⟩
theorem ZmB (R:Zcs P w s.heap a false L es ep t) {x:Addr} {k:List Key} (hx:IsTupleKey (mixKind P w) s.heap k x) (hu:A.units < cLine) (hfew:L.length+1 < 1000) {Q:Bool→Shared→Prop}
  (hQ:∀b h' L' es' ep' t',Heap.SameBut a s.heap h'→Zcs P w h' a false L' es' ep' t'→(.inr k∈L.map (·.1)→L'=L)→(.inr k∉L.map (·.1)→L'.Perm ((.inr k,.ref x)::L))→Q b {s with heap:=h'}):
  wpAny (model P w) A (setAddHashed a (.ref x) (ZbL P w (.inr k))) Q E s:=by
 obtain⟨o,ho,hex,hd⟩:=R.ob
 obtain⟨T,hroom,hmk⟩:=R.tab rfl
 have hsl:=ZbK R.rows
 unfold setAddHashed
 refine wpAny_holding ?_
 rw[show (100000:Nat)=99999+1 from rfl,setAddHashedIn_succ]
 refine wpAny_bind (wpAny_setState_of ho hd R.fit ?_)
 dsimp only
 refine wp_if_neg (by simp[byScan,Value.scannable]) ?_
 try refine wpAny_bind (wpAny_pure ?_)
 refine wpAny_bind (Zoe R hx hu (fun hm=>?_) fun K hm hK hb=>?_)
 ·dsimp only
  exact wpAny_pure (hQ false s.heap L es ep t (Heap.SameBut.refl a s.heap) R (fun _=>rfl) fun z=>absurd hm z)
 ·dsimp only
  refine wpAny_bind (wpAny_setState_of ho hd R.fit ?_)
  dsimp only
  generalize hj:way t.mask (ZbL P w (.inr k)) K=j
  generalize hpp:SetTable.below t.place j=p
  obtain⟨q1,q2,q3,q4,q5,q6,q9⟩:=T.put (h:=ZbL P w (.inr k)) hK hb hj.symm hpp.symm
  generalize hpt:t.put j=pt at q1 q3 q4 q5 q6 q9⊢
  obtain⟨t1,p1⟩:=pt
  dsimp only at q1 q3 q4 q5 q6 q9⊢
  obtain rfl:=q1
  have hin:(SetTable.insertAt es p1 (ZbL P w (.inr k),Value.ref x)).toList=Zca P w (L.take p1++(.inr k,.ref x)::L.drop p1):=by
   rw[SetTable.toList_insertAt,ZjG,R.rows]
  have pm:=put_perm L p1 ((.inr k,.ref x):El)
  have hlen:(L.take p1++((.inr k,.ref x):El)::L.drop p1).length=L.length+1:=pm.length_eq
  have hhs:(L.take p1++((.inr k,.ref x):El)::L.drop p1).map (fun p=>ZbL P w p.1)=(L.map fun p=>ZbL P w p.1).take p1++ZbL P w (.inr k)::(L.map fun p=>ZbL P w p.1).drop p1:=by
   rw[Zbs,Zap,List.map_take,Zi1]
  rw[← hhs] at q3
  have nd1:((L.take p1++((.inr k,.ref x):El)::L.drop p1).map (·.1)).Nodup:=by
   refine (pm.map (·.1)).nodup_iff.mpr ?_
   rw[Zap]
   exact ZpW.mpr ⟨hm,R.nd⟩
  have hes:=(ZbK hin).trans hlen
  generalize SetTable.insertAt es p1 (ZbL P w (.inr k),Value.ref x)=es1 at hin hes⊢
  generalize L.take p1++((.inr k,.ref x):El)::L.drop p1=L1 at pm hlen q3 nd1 hin
  have main:∀t2:SetTable,Zht t2 (L1.map fun p=>ZbL P w p.1)→t2.mask=t.mask→t2.led=t.led→t2.fill=L.length+1→wpAny (model P w) A (do
    storeSet a es1 t2
    if (!false&&t2.tooFull)=true then setRelay a (SetTable.grown (es.size+1))
    return true) Q E s:=by
   intro t2 T2 m2 l2 f2
   refine wpAny_bind (wpAny_storeSet_of ho hd ?_ (by rw[hes,sizeLine_eq]; omega))
   have sb:Heap.SameBut a s.heap (s.heap.update a (Obj.putSet es1 t2)):=Heap.SameBut.update ..
   have ho1:=store_at (es':=es1) (t':=t2) ho hd
   generalize s.heap.update a (Obj.putSet es1 t2)=h1 at sb ho1⊢
   have el1:∀p∈L1,IsK P w h1 p.1 p.2:=fun p hp=>by
    rcases Zak.mp (pm.mem_iff.mp hp) with rfl |hp
    ·exact⟨x,rfl,Zkf hx ho hd sb⟩
    ·exact (R.el p hp).but ho hd sb
   have srt1:∀p∈L1,p.1.isLeft=false:=fun p hp=>by
    rcases Zak.mp (pm.mem_iff.mp hp) with rfl |hp
    ·rfl
    ·exact R.srt p hp
   have ld1:w.params.followText "set-order"=true∨t2.led=true:=by rw[l2]; exact R.led
   have hft:t2.fits es1.size=true:=Zfi T2 (by rw[Zac,hlen,hes]) (by have:=T.msk.ge; omega)
   by_cases hf:t2.tooFull=true
   ·first
     |(refine wpAny_bind ?_; refine wp_if_pos (by simp[hf]) ?_)
     |(refine wp_if_pos (by simp[hf]) ?_; refine wpAny_bind ?_)
    have hgr:SetTable.grown (es.size+1)=(es.size+1) * 4:=by unfold SetTable.grown; rw[if_neg (by omega)]
    rw[hgr]
    refine Ze0 (s:={s with heap:=h1}) ho1 ⟨hex.1,hex.2.1,hex.2.2⟩ rfl hin hft nd1 el1 srt1 ld1 (by rw[hlen]; exact hfew) (by omega) (by omega) (by omega) ?_
    intro h2 L2 es2 ep2 t3 sb2 R2 _ pm2 _
    exact wpAny_pure (hQ true h2 L2 es2 ep2 t3 (sb.trans sb2) R2 (fun z=>absurd z hm) fun _=>pm2.trans pm)
   ·first
     |refine wp_if_neg (by simp[hf]) ?_
     |(refine wpAny_bind ?_; refine wp_if_neg (by simp[hf]) ?_; refine wpAny_pure ?_)
    refine wpAny_pure (hQ true h1 L1 es1 (ep+1) t2 sb ⟨⟨_,ho1,⟨hex.1,hex.2.1,hex.2.2⟩,rfl⟩,hin,nd1,el1,srt1,T2.ris,ld1,hft,by rw[hlen]; exact hfew,fun _=>⟨T2,?_,by rw[m2]; exact hmk⟩⟩ (fun z=>absurd z hm) fun _=>pm)
    have h:=hf
    unfold SetTable.tooFull at h
    rw[Zab,f2] at h
    rw[hlen]
    omega
  have q9':t1.fill=L.length+1:=by rw[q9,Zac]
  by_cases hpl:t1.plain=true
  ·refine wp_if_pos hpl (wpAny_bind (Zo3 hx fun r=>?_))
   cases r with
   |true=>exact main t1 q3 q4 q5 q9'
   |false=>exact main {t1 with plain:=false} q3.off q4 q5 q9'
  ·refine wp_if_neg hpl (wpAny_bind (wpAny_pure ?_))
   exact main t1 q3 q4 q5 q9'
end
end Rk
/-! Rk.Tc:adding ints and texts; what a set has got; set(xs). -/
namespace Rk
open PySem PySem.Spec PyProof.Rows L2
section
variable {P:Program} {w:World} {A:Around} {E:Value→Shared→Prop} {s:Shared} {a:Addr} {sc:Bool} {L:List El} {es:Array (Int × Value)} {ep:Nat} {t:SetTable}
theorem Zh2 {k:Key} {v:Value} (h:(mixKind P w).is k v=true):v.scannable=true:=by
 rcases keyIs_shape (k:=k) (v:=v) h with⟨i,t,_,rfl⟩ |⟨x,t,_,rfl⟩<;>rfl
theorem Zmq (hr:es.toList=Zca P w L) {h:Heap} (el:∀p∈L,IsK P w h p.1 p.2) (srt:∀p∈L,p.1.isLeft=true):ElemsOf (mixKind P w) es.toList:=by
 rw[hr]
 intro e he
 obtain⟨⟨k,v⟩,hp,rfl⟩:=Zah.mp he
 have a1:=el _ hp
 have a2:=srt _ hp
 cases k with
 |inr z=>cases a2
 |inl k=>exact⟨⟨k,a1,rfl⟩,Zh2 a1⟩
theorem Ze4:∀{L:List El} {l:List (Int × Value)},l.Perm (Zca P w L)→∃L',l=Zca P w L'∧L'.Perm L:=by
 intro L l pm
 have key:∀{l m:List (Int × Value)},l.Perm m→∀L,m=Zca P w L→∃L',l=Zca P w L'∧L'.Perm L:=by
  intro l m pm
  induction pm with
  |nil=>exact fun L e=>⟨L,e,.refl _⟩
  |cons x p ih=>
   intro L e
   cases L with
   |nil=>cases e
   |cons q L=>
    have e1:x=(ZbL P w q.1,q.2)∧_=Zca P w L:=List.cons.inj e
    obtain⟨L',a1,a2⟩:=ih L e1.2
    exact⟨q::L',by rw[a1,e1.1]; rfl,a2.cons q⟩
  |swap x y l=>
   intro L e
   match L,e with
   |[],e=>cases e
   |[q],e=>have:=(List.cons.inj e).2; cases this
   |q::r::L,e=>
    have e1:x=(ZbL P w q.1,q.2)∧y::l=Zca P w (r::L):=List.cons.inj e
    have e2:y=(ZbL P w r.1,r.2)∧l=Zca P w L:=List.cons.inj e1.2
    exact⟨r::q::L,by rw[e1.1,e2.1,e2.2]; rfl,.swap ..⟩
  |trans p1 p2 ih1 ih2=>
   intro L e
   obtain⟨L1,b1,b2⟩:=ih2 L e
   obtain⟨L2,c1,c2⟩:=ih1 L1 b1
   exact⟨L2,c1,c2.trans b2⟩
 exact key pm L rfl
theorem ZpK (R:Zcs P w s.heap a true L es ep t) {k:Key} {v:Value} (hx:(mixKind P w).is k v=true) (hfew:L.length+1 < 1000) {Q:Bool→Shared→Prop}
  (hQ:∀b h' L' es' ep' t',Heap.SameBut a s.heap h'→Zcs P w h' a true L' es' ep' t'→(.inl k∈L.map (·.1)→L'=L)→(.inl k∉L.map (·.1)→L'.Perm ((.inl k,v)::L))→Q b {s with heap:=h'}):
  wpAny (model P w) A (setAddHashed a v (ZbL P w (.inl k))) Q E s:=by
 obtain⟨o,ho,hex,hd⟩:=R.ob
 have hsl:=ZbK R.rows
 have few:=R.few
 have hsc:=Zh2 hx
 have hel:=Zmq R.rows R.el R.srt
 have hsb:es.size < scanBound:=by rw[hsl]; unfold scanBound; omega
 show wpAny _ A (setAddHashed a v ((mixKind P w).hash k)) Q E s
 unfold setAddHashed setAddHashedIn
 refine wpAny_holding (wpAny_bind (wpAny_setState_of ho hd R.fit ?_))
 dsimp only
 rw[byScan_of hsc hsb hel]
 simp only[↓reduceIte]
 unfold setAddByScan
 refine wpAny_bind (wpAny_bind (wpAny_rule (wpAny_bind (wpAny_setScan_of hx ho hd R.fit hel ?_))))
 cases hfi:List.findIdx? (fun e=>(mixKind P w).is k e.2) es.toList with
 |some j=>
  dsimp only
  obtain⟨hj,pj,_⟩:=List.findIdx?_eq_some_iff_getElem.mp hfi
  refine wpAny_pure (wpAny_pure (hQ _ s.heap L es ep t (Heap.SameBut.refl a s.heap) R (fun _=>rfl) fun z=>(z ?_).elim))
  have hm:es.toList[j]∈Zca P w L:=R.rows ▸ ZeJ hj
  obtain⟨q,hq,e⟩:=Zah.mp hm
  refine Zah.mpr ⟨q,hq,?_⟩
  have e2:q.2=es.toList[j].2:=congrArg Prod.snd e
  exact IsK.inj (R.el q hq) (show IsK P w s.heap (.inl k) q.2 from by rw[e2]; exact pj)
 |none=>
  dsimp only
  have hnk:(Sum.inl k:SK)∉L.map (·.1):=fun z=>by
   obtain⟨q,hq,e⟩:=Zah.mp z
   have c:=List.findIdx?_eq_none_iff.mp hfi (ZbL P w q.1,q.2) (by rw[R.rows]; exact Zah.mpr ⟨q,hq,rfl⟩)
   have d:=R.el q hq
   rw[e] at d
   have d:(mixKind P w).is k q.2=true:=d
   rw[show (mixKind P w).is k (ZbL P w q.1,q.2).2=true from d] at c
   cases c
  have gv:∀(b:Bool) {s₁:Shared} {Q':Unit→Shared→Prop},Q' () s₁→wpAny (model P w) A (match b with |true=>rule "set.scan.the-table-gave-way" |false=>pure ()) Q' E s₁:=
   fun b s₁ Q' q=>by cases b<;>first |exact wpAny_pure q |exact wpAny_rule q
  have pm:=layNew_perm t es ((mixKind P w).hash k) v
  have hf1:=layNew_fits t es ((mixKind P w).hash k) v
  have hr1:=layNew_ris t es ((mixKind P w).hash k) v R.ris
  have hl1:=layNew_led t es ((mixKind P w).hash k) v
  generalize layNew t es ((mixKind P w).hash k) v=Z at pm hf1 hr1 hl1⊢
  obtain⟨es1,t1,wd,gave⟩:=Z
  dsimp only at pm hf1 hr1 hl1⊢
  rw[Array.toList_push] at pm
  have pc:es1.toList.Perm (Zca P w ((.inl k,v)::L)):=by
   have:=pm.trans (List.perm_append_singleton _ _)
   rw[R.rows] at this
   exact this
  have main:∀t2:SetTable,t2.fits es1.size=true→Ris t2.place.toList→t2.led=t1.led→∀(X:Sem (Option Bool)),X=(do
    storeSet a es1 t2
    if (!wd&&t2.tooFull)=true then do
      (match (relayAll t2 es1 (SetTable.grown es1.size)).2.2 with |true=>rule "set.scan.the-table-gave-way" |false=>pure ())
      storeSet a (relayAll t2 es1 (SetTable.grown es1.size)).1 (relayAll t2 es1 (SetTable.grown es1.size)).2.1
      pure (some true)
     else pure (some true))→wpAny (model P w) A X (fun r s'=>wpAny (model P w) A (match r with
      |some added=>pure added
      |none=>setAddHashedIn a v ((mixKind P w).hash k) 99999) Q E s') E s:=by
   intro t2 f2 r2 l2 X hX
   subst hX
   have fin:∀h' es' ep' t',Heap.SameBut a s.heap h'→(∃o,h'.get? a=some o∧o.ExactSet∧o.data=.set es' ep' t')→es'.toList.Perm es1.toList→t'.fits es'.size=true→Ris t'.place.toList→t'.led=t1.led→Q true {s with heap:=h'}:=by
    intro h' es' ep' t' sb ob pe f r l
    obtain⟨L',e1,e2⟩:=Ze4 (pe.trans pc)
    refine hQ true h' L' es' ep' t' sb ⟨ob,e1,(e2.map (·.1)).nodup_iff.mpr (ZpW.mpr ⟨hnk,R.nd⟩),fun p hp=>?_,fun p hp=>?_,r,by rw[l,hl1]; exact R.led,f,by rw[e2.length_eq,Zae]; exact hfew,fun z=>nomatch z⟩ (fun z=>absurd z hnk) fun _=>e2
    ·rcases Zak.mp (e2.mem_iff.mp hp) with rfl |hp
     ·exact hx
     ·exact (R.el p hp).but ho hd sb
    ·rcases Zak.mp (e2.mem_iff.mp hp) with rfl |hp
     ·rfl
     ·exact R.srt p hp
   have hz1:es1.size=L.length+1:=by
    have:=pc.length_eq
    unfold Zca at this
    rw[Zac,Array.length_toList,Zae] at this
    exact this
   refine wpAny_bind (wpAny_storeSet_of ho hd ?_ (by rw[hz1,sizeLine_eq]; omega))
   have ho1:=store_at (es':=es1) (t':=t2) ho hd
   have sb1:=Heap.SameBut.update s.heap a (Obj.putSet es1 t2)
   split
   ·have pm2:=relayAll_perm t2 es1 (SetTable.grown es1.size)
    have hf3:=relayAll_fits t2 es1 (SetTable.grown es1.size)
    have hr3:=relayAll_ris t2 es1 (SetTable.grown es1.size)
    have hl3:=relayAll_led t2 es1 (SetTable.grown es1.size)
    generalize relayAll t2 es1 (SetTable.grown es1.size)=Z at pm2 hf3 hr3 hl3⊢
    obtain⟨es2,t3,gave2⟩:=Z
    dsimp only at pm2 hf3 hr3 hl3⊢
    have hz2:es2.size=es1.size:=by rw[← Array.length_toList,pm2.length_eq,Array.length_toList]
    refine wpAny_bind (gv _ ?_)
    refine wpAny_bind (wpAny_storeSet_of ho1 rfl ?_ (by rw[hz2,hz1,sizeLine_eq]; omega))
    have ho2:=store_at (es':=es2) (t':=t3) ho1 rfl
    exact wpAny_pure (wpAny_pure (fin _ es2 _ t3 (sb1.trans (Heap.SameBut.update _ a _)) ⟨_,ho2,hex,rfl⟩ pm2 hf3 hr3 (hl3.trans l2)))
   ·exact wpAny_pure (wpAny_pure (fin _ es1 _ t2 sb1 ⟨_,ho1,hex,rfl⟩ (.refl _) f2 r2 l2))
  refine wpAny_bind (gv _ ?_)
  split
  ·refine wpAny_bind ?_
   rw[hashByValue_scannable 8 hsc]
   refine wpAny_pure ?_
   cases hpk:plainKind v with
   |true=>exact main t1 hf1 hr1 rfl _ rfl
   |false=>exact main {t1 with plain:=false} (SetTable.fits_plain_off hf1) hr1 rfl _ rfl
  ·refine wpAny_bind (wpAny_pure ?_)
   simp only[↓reduceIte]
   exact main t1 hf1 hr1 rfl _ rfl
def Ins (k:SK) (v:Value) (L L':List El):Prop:=(k∈L.map (·.1)→L'=L)∧(k∉L.map (·.1)→L'.Perm ((k,v)::L))
theorem ZnK (R:Zcs P w s.heap a sc L es ep t) {k:SK} {v:Value} (hx:IsK P w s.heap k v) (hs:k.isLeft=sc) (hu:A.units < cLine) (hfew:L.length+1 < 1000) {Q:Bool→Shared→Prop}
  (hQ:∀b h' L' es' ep' t',Heap.SameBut a s.heap h'→Zcs P w h' a sc L' es' ep' t'→Ins k v L L'→Q b {s with heap:=h'}):
  wpAny (model P w) A (setAddHashed a v (ZbL P w k)) Q E s:=by
 cases k with
 |inl k=>
  subst hs
  exact ZpK R hx hfew fun b h' L' es' ep' t' sb R' i1 i2=>hQ b h' L' es' ep' t' sb R' ⟨i1,i2⟩
 |inr ks=>
  subst hs
  obtain⟨b,rfl,hx⟩:=hx
  exact ZmB R hx hu hfew fun b h' L' es' ep' t' sb R' i1 i2=>hQ b h' L' es' ep' t' sb R' ⟨i1,i2⟩
theorem add_G (R:Zcs P w s.heap a sc L es ep t) {k:SK} {v:Value} (hx:IsK P w s.heap k v) (hs:k.isLeft=sc) (hu:A.units < cLine) (hfew:L.length+1 < 1000) {Q:Bool→Shared→Prop}
  (hQ:∀b h' n L' es' ep' t',Heap.SameBut a s.heap h'→Zcs P w h' a sc L' es' ep' t'→Ins k v L L'→Q b {s with heap:=h',toks:=s.toks+n}):
  wpAny (model P w) A (setAdd a v) Q E s:=by
 unfold setAdd
 refine wpAny_holding (wpAny_bind (k_hash hu hx fun n=>?_))
 exact ZnK (s:={s with toks:=s.toks+n}) R hx hs hu hfew fun b h' L' es' ep' t' sb R' i=>hQ b h' n L' es' ep' t' sb R' i
/-! ### what a set has got from a row of values -/
structure Ziv (ks:List El) (i:Nat) (L:List El):Prop where
 sub:∀p∈L,p∈ks.take i
 all:∀p∈ks.take i,p.1∈L.map (·.1)
 len:L.length≤i
theorem Ziv.zero (ks:List El):Ziv ks 0 [] where
 sub:=fun p h=>(by cases h)
 all:=fun p h=>(by rw[List.take_zero] at h; cases h)
 len:=Zai _
theorem Ziv.next {ks L L':List El} {i:Nat} {x:El} (g:Ziv ks i L) (h:ks[i]? =some x) (ins:Ins x.1 x.2 L L'):Ziv ks (i+1) L':=by
 have tk:=take_next h
 rcases Classical.em (x.1∈L.map (·.1)) with c |c
 ·rw[ins.1 c]
  refine⟨fun p hp=>by rw[tk]; exact Zam _ (g.sub p hp),fun p hp=>?_,Nat.le_succ_of_le g.len⟩
  rw[tk] at hp
  rcases ZaH.mp hp with z |z
  ·exact g.all p z
  ·rw[Zar.mp z]; exact c
 ·have pm:=ins.2 c
  refine⟨fun p hp=>?_,fun p hp=>?_,by rw[pm.length_eq]; exact Nat.succ_le_succ g.len⟩
  ·rw[tk]
   rcases Zak.mp (pm.mem_iff.mp hp) with rfl |z
   ·exact ZaD _ (Zar.mpr rfl)
   ·exact Zam _ (g.sub p z)
  ·rw[(pm.map (·.1)).mem_iff,Zap]
   rw[tk] at hp
   rcases ZaH.mp hp with z |z
   ·exact Zaf _ (g.all p z)
   ·rw[Zar.mp z]; exact Zag
theorem Zf3 {I:Addr} {fp wr:List Addr} {G:Array GenState→Array GenState→Prop} {n:Nat} {Pv:Nat→Value→Prop} {St:Nat→Shared→Prop} {R:Result→Shared→Prop}
  (W:WalksS P w A.in1 I fp wr G n Pv St) (S:Addr) (hSf:S∉fp) (ks:List El) (hn:n=ks.length) (hfew:ks.length < 1000) (hval:∀i v,Pv i v→∃p,ks[i]? =some p∧v=p.2)
  (h0:Heap) (hk:∀p∈ks,IsK P w h0 p.1 p.2∧p.1.isLeft=sc) (hS0:h0.get? S=none) (hw0:∀b∈wr,h0.get? b=none) (hu:A.in1.units < cLine):
  ∀(k i:Nat) (s:Shared),n - i=k→i≤n→St i s→(∀b o,h0.get? b=some o→s.heap.get? b=some o)→(∃L es ep t,Zcs P w s.heap S sc L es ep t∧Ziv ks i L)→
   (∀s' L es ep t,Moved (S::wr) G s s'→Zcs P w s'.heap S sc L es ep t→Ziv ks n L→(∀b o,h0.get? b=some o→s'.heap.get? b=some o)→R (.ok (.ret .none)) s')→
   codeAny (model P w) A (.builtin "set.update.loop" ⟨[.ref S,.ref I],[]⟩) R s:=by
 have hSw:S∉wr:=fun h=>hSf (W.sub _ h)
 have hsub:∀b∈wr,b∈S::wr:=fun b hb=>Zaf _ hb
 have kpM:∀{s s':Shared},Moved wr G s s'→(∀b o,h0.get? b=some o→s.heap.get? b=some o)→∀b o,h0.get? b=some o→s'.heap.get? b=some o:=fun hm hkp b o e=>
  hm.heap b o (fun hb=>by rw[hw0 b hb] at e; cases e) (hkp b o e)
 intro k
 induction k with
 |zero=>
  intro i s hk' hi hst hkp ⟨L,es,ep,t,hS,g⟩ hR
  obtain rfl:i=n:=by omega
  refine codeAny_builtin F.entry_set_update_loop ?_
  rw[Around.under_plainId F.plain_set_update_loop _]
  show wpAny _ A.in1 (pyNext (.ref I) >>=_) _ _ s
  refine wpAny_bind (W.done s _ _ hst fun s' hm=>?_)
  show wpAny _ A.in1 (ret Value.none) _ _ s'
  have hkp':=kpM hm hkp
  exact wpAny_pure (hR s' L es ep t (hm.mono hsub) (hS.keep (fun o e=>hm.heap S o hSw e) fun p hp=>(hk p (Zcp (g.sub p hp))).1.keep hkp') g hkp')
 |succ k ih=>
  intro i s hk' hi hst hkp ⟨L,es,ep,t,hS,g⟩ hR
  have hlt:i < n:=by omega
  refine codeAny_builtin F.entry_set_update_loop ?_
  rw[Around.under_plainId F.plain_set_update_loop _]
  show wpAny _ A.in1 (pyNext (.ref I) >>=_) _ _ s
  refine wpAny_bind (W.item i s _ _ hlt hst fun v s' hP hst' hm=>?_)
  obtain⟨p,hp,rfl⟩:=hval i v hP
  have hkp':=kpM hm hkp
  have hS':Zcs P w s'.heap S sc L es ep t:=hS.keep (fun o e=>hm.heap S o hSw e) fun q hq=>(hk q (Zcp (g.sub q hq))).1.keep hkp'
  have hx:=hk p (Zao hp)
  show wpAny _ A.in1 (holding [p.2] (setAdd S p.2) >>=_) _ _ s'
  refine wpAny_bind (wpAny_holding ?_)
  refine add_G hS' (hx.1.keep hkp') hx.2 hu (by have:=g.len; omega) fun b h' tk L' es' ep' t' sb hS2 ins=>?_
  have hkp2:∀b o,h0.get? b=some o→h'.get? b=some o:=fun b o e=>(sb.2 b (fun z=>by rw[z,hS0] at e; cases e)).trans (hkp' b o e)
  refine wpAny_pure ⟨plainId_quiet F.plain_set_update_loop _,ih (i+1) _ (by omega) hlt (W.frame _ s' _ _ hst' (ZmH _ _) fun b hb o e=>?_) hkp2 ⟨L',es',ep',t',hS2,g.next hp ins⟩ fun s2 L2 es2 ep2 t2 hm2 hS3 g2 hkp3=>?_⟩
  ·rw[sb.2 b fun z:b=S=>hSf (z ▸ hb)]; exact e
  ·refine hR s2 L2 es2 ep2 t2 (Moved.trans W.gtrans ((hm.mono hsub).then_heap (ZmH _ _) fun b o hb e=>?_) hm2) hS3 g2 hkp3
   rw[sb.2 b fun z:b=S=>hb (z ▸ Zag)]; exact e
end
end Rk
/-! Rk.Td:set(xs); a |b; walked. (printed by rktd.py) -/
namespace Rk
open PySem PySem.Spec PyProof.Rows L2
abbrev ZbT (w:World):Obj:={cls:=.type "set",dict:=none,data:=.set #[] 0 (.fresh 0 0 (!w.params.followText "set-order"))}
section
variable {P:Program} {w:World} {A:Around} {E:Value→Shared→Prop} {s:Shared} {sc:Bool}
theorem ZdA {h:Heap} {b:Addr} (hb:h.objs.size≤b):h.get? b=none:=by
 cases q:h.get? b with
 |none=>rfl
 |some o=>exact absurd (ZaT (Heap.lt_size q) hb) (Nat.lt_irrefl _)
theorem ZgU {l:Addr} {items:Array Value} (ks:List El) {Q:Value→Shared→Prop} (hh:A.handled=none) (hl:s.heap.IsList l items) (hit:items.toList=ks.map fun p=>p.2)
  (hk:∀p∈ks,IsK P w s.heap p.1 p.2∧p.1.isLeft=sc) (hfew:ks.length < 1000) (hu:A.units+3 < cLine)
  (h:∀(h':Heap) (tk:Nat) L es ep t,Zcs P w h' s.heap.objs.size sc L es ep t→Ziv ks ks.length L→(∀b o,s.heap.get? b=some o→h'.get? b=some o)→Q (.ref s.heap.objs.size) {s with heap:=h',toks:=tk}):
  wpAny (model P w) A (call (.type "set") [.ref l]) Q E s:=by
 have hisz:items.size=ks.length:=by rw[← Array.length_toList,hit,Zac]
 obtain⟨c,tl,hmro⟩:=F.called_set.mro; have hmade:=F.called_set.made; have hsub:=F.called_set.sub
 refine wpAny_call (codeAny_of_tree ?_); show wpAny _ _ (callAny (.type "set") _) _ _ _
 refine wpAny_pure ⟨Code.quiet_builtin _ (by decide+kernel),codeAny_builtin F.entry_type_call ?_⟩; rw[Around.under_plain (weight_type_call_type "set" [.ref l] []) rfl]
 have h1:=F.called_set.notType; have h2:=F.called_set.canCreate; have hct:=F.typeCall_set_1 (.ref l)
 repeat (any_goals (first |assumption |wp_step))
 refine codeAny_mono (code_set_led1 (.ref l) (E:=E) (Q₁:=fun obj s₁=>obj=.ref s.heap.objs.size∧s₁={s with heap:=s.heap.push (ZbT w)}) ⟨rfl,rfl⟩) fun r s₁ hr=>?_
 match r,hr with
 | .error e,hr=>exact hr
 | .ok (.ret obj),hr=>
  obtain⟨rfl,rfl⟩:=hr
  have hS:(s.heap.push (ZbT w)).get? s.heap.objs.size=some (ZbT w):=Heap.get?_push_size _ rfl
  have hT:Shared.TypeIs {s with heap:=s.heap.push (ZbT w)} (.ref s.heap.objs.size) "set":=⟨_,hS,rfl⟩
  have hli:=F.called_set.init.lookup; have hbi:=F.called_set.init.bind (.ref s.heap.objs.size)
  repeat (any_goals (first |assumption |wp_step))
  refine codeAny_mono (codeAny_call_builtin (R:=wants (fun r s₂=>r=.none∧∃h' tk L es ep t,s₂={s with heap:=h',toks:=tk}∧Zcs P w h' s.heap.objs.size sc L es ep t∧Ziv ks ks.length L∧
    (∀b o,s.heap.get? b=some o→h'.get? b=some o)) E) F.called_set.init.plain F.entry_set_init (check_set_init_1 hT ?_)) fun r₂ s₂ hr₂=>?_
  ·obtain⟨⟨ocls,odict,odata,oslots⟩,hol,hcl,nl,hdl⟩:=hl
   simp only at hcl hdl
   subst hcl; subst hdl
   have hol':(s.heap.push (ZbT w)).get? l=some {cls:=.type "list",dict:=odict,data:=.seq items nl,slots:=oslots}:=Heap.get?_push_of_some _ hol
   have hsls:=F.sub_list_set; have hslf:=F.sub_list_frozenset; have hne:(Value.type "list" == Value.type "dict")=false:=by decide
   have hl1:(s.heap.push (ZbT w)).IsList l items:=⟨_,hol',rfl,nl,rfl⟩
   unfold Builtin.«set.__init__» noKeywords Builtin.Frozenset.updateFrom
   generalize hPI:pyIter=PI
   wp_walk
   subst hPI
   refine wpAny_pyIter_list hl1 ?_
   refine wpAny_bind (wpAny_runValue ?_)
   have hlS:l < s.heap.objs.size:=Heap.lt_size hol
   have hh3:A.in1.in1.in1.handled=none:=by simp[hh]
   have hz1:(s.heap.push (ZbT w)).objs.size=s.heap.objs.size+1:=Heap.size_push ..
   have hneI:l≠(s.heap.push (ZbT w)).objs.size:=by rw[hz1]; exact Zbg (Zcl hlS)
   have hSf:s.heap.objs.size∉[(s.heap.push (ZbT w)).objs.size,l]:=by
    rw[hz1]; simp only[Zak,ZbO,or_false,not_or]; exact⟨Zbg (Zbc _),Zf0 hlS⟩
   have hval:∀(i:Nat) (v:Value),items[i]? =some v→∃p,ks[i]? =some p∧v=p.2:=fun i v hv=>by
    rw[← Array.getElem?_toList,hit,ZaK] at hv
    cases hq:ks[i]? with
    |none=>rw[hq] at hv; cases hv
    |some p=>rw[hq] at hv; exact⟨p,rfl,(Option.some.inj hv).symm⟩
   refine Zf3 ((Walks.list hh3 _ l hneI items).toS) s.heap.objs.size hSf ks hisz hfew hval s.heap hk (ZdA (Zai _)) (fun b hb=>ZdA (by rw[Zar.mp hb,hz1]; exact ZbE _)) hu (items.size - 0) 0 _ (by omega) (ZeB _)
    ⟨⟨_,Heap.get?_push_size _ rfl,rfl,rfl⟩,(hl1.push _)⟩ (fun b o e=>Heap.get?_push_of_some _ (Heap.get?_push_of_some _ e)) ?hS0 ?hR
   case hS0=>exact⟨[],#[],0,_,Zc8 sc (Heap.get?_push_of_some _ hS),Ziv.zero ks⟩
   case hR=>
    intro s' L es ep t hm hS' g' hkp
    obtain⟨h',g2,d',tk',os'⟩:=s'
    obtain rfl:g2=s.gens:=hm.gens
    obtain rfl:d'=s.drawn:=hm.drawn
    obtain rfl:os'=s.os:=hm.os
    rw[hisz] at g'
    show wpAny _ _ _ _ _ _
    refine wpAny_pure ?_
    show wpAny _ _ (ret Value.none) _ _ _
    exact wpAny_pure ⟨rfl,h',tk',L,es,ep,t,rfl,hS',g',hkp⟩
  ·match r₂,hr₂ with
   | .error e,hr₂=>exact hr₂
   | .ok (.ret r),hr₂=>
    obtain⟨rfl,h',tk,L,es,ep,t,rfl,hS',g',hk'⟩:=hr₂
    repeat (any_goals (first |assumption |wp_step))
    exact h _ _ _ _ _ _ hS' g' hk'
theorem Zgg {l:Addr} {items:Array Value} (ks:List El) {Q:Value→Shared→Prop} (hh:A.handled=none) (hl:s.heap.IsTuple l items) (hit:items.toList=ks.map fun p=>p.2)
  (hk:∀p∈ks,IsK P w s.heap p.1 p.2∧p.1.isLeft=sc) (hfew:ks.length < 1000) (hu:A.units+3 < cLine)
  (h:∀(h':Heap) (tk:Nat) L es ep t,Zcs P w h' s.heap.objs.size sc L es ep t→Ziv ks ks.length L→(∀b o,s.heap.get? b=some o→h'.get? b=some o)→Q (.ref s.heap.objs.size) {s with heap:=h',toks:=tk}):
  wpAny (model P w) A (call (.type "set") [.ref l]) Q E s:=by
 have hisz:items.size=ks.length:=by rw[← Array.length_toList,hit,Zac]
 obtain⟨c,tl,hmro⟩:=F.called_set.mro; have hmade:=F.called_set.made; have hsub:=F.called_set.sub
 refine wpAny_call (codeAny_of_tree ?_); show wpAny _ _ (callAny (.type "set") _) _ _ _
 refine wpAny_pure ⟨Code.quiet_builtin _ (by decide+kernel),codeAny_builtin F.entry_type_call ?_⟩; rw[Around.under_plain (weight_type_call_type "set" [.ref l] []) rfl]
 have h1:=F.called_set.notType; have h2:=F.called_set.canCreate; have hct:=F.typeCall_set_1 (.ref l)
 repeat (any_goals (first |assumption |wp_step))
 refine codeAny_mono (code_set_led1 (.ref l) (E:=E) (Q₁:=fun obj s₁=>obj=.ref s.heap.objs.size∧s₁={s with heap:=s.heap.push (ZbT w)}) ⟨rfl,rfl⟩) fun r s₁ hr=>?_
 match r,hr with
 | .error e,hr=>exact hr
 | .ok (.ret obj),hr=>
  obtain⟨rfl,rfl⟩:=hr
  have hS:(s.heap.push (ZbT w)).get? s.heap.objs.size=some (ZbT w):=Heap.get?_push_size _ rfl
  have hT:Shared.TypeIs {s with heap:=s.heap.push (ZbT w)} (.ref s.heap.objs.size) "set":=⟨_,hS,rfl⟩
  have hli:=F.called_set.init.lookup; have hbi:=F.called_set.init.bind (.ref s.heap.objs.size)
  repeat (any_goals (first |assumption |wp_step))
  refine codeAny_mono (codeAny_call_builtin (R:=wants (fun r s₂=>r=.none∧∃h' tk L es ep t,s₂={s with heap:=h',toks:=tk}∧Zcs P w h' s.heap.objs.size sc L es ep t∧Ziv ks ks.length L∧
    (∀b o,s.heap.get? b=some o→h'.get? b=some o)) E) F.called_set.init.plain F.entry_set_init (check_set_init_1 hT ?_)) fun r₂ s₂ hr₂=>?_
  ·obtain⟨⟨ocls,odict,odata,oslots⟩,hol,hcl,nl,hdl⟩:=hl
   simp only at hcl hdl
   subst hcl; subst hdl
   have hol':(s.heap.push (ZbT w)).get? l=some {cls:=.type "tuple",dict:=odict,data:=.seq items nl,slots:=oslots}:=Heap.get?_push_of_some _ hol
   have hsls:=F.sub_tuple_set; have hslf:=F.sub_tuple_frozenset; have hne:(Value.type "tuple" == Value.type "dict")=false:=by decide
   have hl1:(s.heap.push (ZbT w)).IsTuple l items:=⟨_,hol',rfl,nl,rfl⟩
   unfold Builtin.«set.__init__» noKeywords Builtin.Frozenset.updateFrom
   generalize hPI:pyIter=PI
   wp_walk
   subst hPI
   refine wpAny_pyIter_tuple hl1 ?_
   refine wpAny_bind (wpAny_runValue ?_)
   have hlS:l < s.heap.objs.size:=Heap.lt_size hol
   have hh3:A.in1.in1.in1.handled=none:=by simp[hh]
   have hz1:(s.heap.push (ZbT w)).objs.size=s.heap.objs.size+1:=Heap.size_push ..
   have hneI:l≠(s.heap.push (ZbT w)).objs.size:=by rw[hz1]; exact Zbg (Zcl hlS)
   have hSf:s.heap.objs.size∉[(s.heap.push (ZbT w)).objs.size,l]:=by
    rw[hz1]; simp only[Zak,ZbO,or_false,not_or]; exact⟨Zbg (Zbc _),Zf0 hlS⟩
   have hval:∀(i:Nat) (v:Value),items[i]? =some v→∃p,ks[i]? =some p∧v=p.2:=fun i v hv=>by
    rw[← Array.getElem?_toList,hit,ZaK] at hv
    cases hq:ks[i]? with
    |none=>rw[hq] at hv; cases hv
    |some p=>rw[hq] at hv; exact⟨p,rfl,(Option.some.inj hv).symm⟩
   refine Zf3 ((Walks.tuple hh3 _ l hneI items).toS) s.heap.objs.size hSf ks hisz hfew hval s.heap hk (ZdA (Zai _)) (fun b hb=>ZdA (by rw[Zar.mp hb,hz1]; exact ZbE _)) hu (items.size - 0) 0 _ (by omega) (ZeB _)
    ⟨⟨_,Heap.get?_push_size _ rfl,rfl,rfl⟩,(hl1.push _)⟩ (fun b o e=>Heap.get?_push_of_some _ (Heap.get?_push_of_some _ e)) ?hS0 ?hR
   case hS0=>exact⟨[],#[],0,_,Zc8 sc (Heap.get?_push_of_some _ hS),Ziv.zero ks⟩
   case hR=>
    intro s' L es ep t hm hS' g' hkp
    obtain⟨h',g2,d',tk',os'⟩:=s'
    obtain rfl:g2=s.gens:=hm.gens
    obtain rfl:d'=s.drawn:=hm.drawn
    obtain rfl:os'=s.os:=hm.os
    rw[hisz] at g'
    show wpAny _ _ _ _ _ _
    refine wpAny_pure ?_
    show wpAny _ _ (ret Value.none) _ _ _
    exact wpAny_pure ⟨rfl,h',tk',L,es,ep,t,rfl,hS',g',hkp⟩
  ·match r₂,hr₂ with
   | .error e,hr₂=>exact hr₂
   | .ok (.ret r),hr₂=>
    obtain⟨rfl,h',tk,L,es,ep,t,rfl,hS',g',hk'⟩:=hr₂
    repeat (any_goals (first |assumption |wp_step))
    exact h _ _ _ _ _ _ hS' g' hk'
end
end Rk
/-! Rk.Te:sets of tuples joined:a |b. -/
namespace Rk
open PySem PySem.Spec PyProof.Rows L2
section
variable {P:Program} {w:World} {A:Around} {E:Value→Shared→Prop} {s:Shared} {a:Addr} {sc:Bool} {L:List El} {es:Array (Int × Value)} {ep:Nat} {t:SetTable}
theorem Zhw (R:Zcs P w s.heap a sc L es ep t) {Q:Array (Int × Value)→Shared→Prop} (h:∀l d,l.toList.Perm es.toList→Q l {s with drawn:=d}):wpAny (model P w) A (setWalk a) Q E s:=by
 obtain⟨o,ho,hex,hd⟩:=R.ob
 unfold setWalk
 refine wpAny_bind (wpAny_setState_of ho hd R.fit ?_)
 dsimp only
 refine wpAny_bind (wpAny_byText ?_)
 by_cases hbt:w.params.followText "set-order"=true
 ·refine wp_if_pos hbt (wpAny_bind (wpAny_askSetting (wpAny_pure ?_)))
  exact h _ s.drawn (pick_perm _ es)
 ·refine wp_if_neg hbt ?_
  try refine wpAny_bind (wpAny_pure ?_)
  by_cases hdr:(!t.plain&&decide (es.size > 1))=true
  ·refine wp_if_pos hdr (wpAny_bind (drawOrder_at es.size es.toList s _ (by rw[Array.length_toList]; exact Zai _) fun ys d pm=>wpAny_pure ?_))
   exact h _ d (by simpa using pm)
  ·refine wp_if_neg hdr ?_
   try refine wpAny_bind (wpAny_pure ?_)
   have ld:t.led=true:=R.led.resolve_left hbt
   refine wpAny_bind (wpAny_of_eq (a:=()) ?_ (wpAny_pure (h es s.drawn (.refl _))))
   show (if (!t.led&&decide (es.size > 1))=true then unsupported "set:maker-not-led" else pure ())=pure ()
   rw[ld]
   rfl
theorem Zot (R:Zcs P w s.heap a false L es ep t) (h1:1≤L.length) {rest:List Addr} {Q:Bool→Shared→Prop} (h:Q false s):wpAny (model P w) A (setsQuiet (a::rest)) Q E s:=by
 obtain⟨o,ho,hex,hd⟩:=R.ob
 unfold setsQuiet
 refine wpAny_bind ?_
 rw[List.forIn_cons]
 refine wpAny_bind (wpAny_bind (wpAny_setEntries_of ho hd R.fit ?_))
 refine wpAny_bind ?_
 show wpAny _ _ (forIn es _ _) _ _ s
 rw[← Array.forIn_toList,R.rows]
 match L,h1,R with
 |p::L,_,R=>
  have a1:=R.el p Zag
  have a2:=R.srt p Zag
  obtain⟨k,v⟩:=p
  cases k with
  |inl k=>cases a2
  |inr k=>
   obtain⟨b,rfl,hb⟩:=a1
   show wpAny _ _ (forIn ((ZbL P w (.inr k),Value.ref b)::Zca P w L) _ _) _ _ s
   rw[List.forIn_cons]
   dsimp only
   refine wpAny_bind (wpAny_bind (wpAny_specialOf hb.typeIs F.slot_tuple_eq.lookup ?_))
   refine wp_if_pos (by decide) ?_
   refine wpAny_pure ?_
   dsimp only
   first
    |exact wpAny_pure (wpAny_pure (wpAny_pure (wpAny_pure h)))
    |exact wpAny_pure (wpAny_pure (wpAny_pure h))
    |exact wpAny_pure (wpAny_pure h)
    |exact wpAny_pure h
theorem Zja (R:Zcs P w s.heap a false L es ep t) {others:List Addr} {fl:Option Addr} {Q:Array (Int × Value)→Shared→Prop} (h:∀l d,l.toList.Perm es.toList→Q l {s with drawn:=d}):wpAny (model P w) A (setWalkUnseen a others fl) Q E s:=by
 obtain⟨o,ho,hex,hd⟩:=R.ob
 unfold setWalkUnseen
 refine wpAny_bind (wpAny_setState_of ho hd R.fit ?_)
 dsimp only
 refine wpAny_bind (wpAny_byText ?_)
 by_cases c:(w.params.followText "set-order"||(t.led&&t.plain)||decide (es.size≤1))=true
 ·refine wp_if_pos c ?_
  first |exact Zhw R h |exact wpAny_bind (Zhw R fun l d pm=>wpAny_pure (h l d pm))
 ·refine wp_if_neg c ?_
  try refine wpAny_bind (wpAny_pure ?_)
  have hz:=ZbK R.rows
  refine wpAny_bind (Zot R (by simp only[ZaP,Zab,not_or] at c; omega) ?_)
  refine wp_if_pos (by decide) ?_
  first |exact Zhw R h |exact wpAny_bind (Zhw R fun l d pm=>wpAny_pure (h l d pm))
structure Uni (L L2 L':List El):Prop where
 sub:∀p∈L',p∈L∨p∈L2
 all:∀p,p∈L∨p∈L2→p.1∈L'.map (·.1)
 len:L'.length≤L.length+L2.length
theorem Uni.left (L:List El):Uni L [] L:=⟨fun p hp=>.inl hp,fun p hp=>Zah.mpr ⟨p,hp.resolve_right (fun z=>nomatch z),rfl⟩,Zai _⟩
theorem Uni.right {L L':List El} (pm:L'.Perm L):Uni [] L L':=⟨fun p hp=>.inr (pm.mem_iff.mp hp),fun p hp=>Zah.mpr ⟨p,pm.mem_iff.mpr (hp.resolve_left (fun z=>nomatch z)),rfl⟩,by rw[pm.length_eq]; exact Nat.le_add_left _ _⟩
theorem Uni.perm {L L1 L2 L':List El} (pm:L1.Perm L) (u:Uni L1 L2 L'):Uni L L2 L':=⟨fun p hp=>(u.sub p hp).imp pm.mem_iff.mp id,fun p hp=>u.all p (hp.imp pm.mem_iff.mpr id),by rw[← pm.length_eq]; exact u.len⟩
theorem Uni.permR {L L1 L2 L':List El} (pm:L1.Perm L2) (u:Uni L L1 L'):Uni L L2 L':=⟨fun p hp=>(u.sub p hp).imp id pm.mem_iff.mp,fun p hp=>u.all p (hp.imp id pm.mem_iff.mpr),by rw[← pm.length_eq]; exact u.len⟩
theorem Uni.next {L L2 L' L'':List El} {x:El} (u:Uni L L2 L') (ins:Ins x.1 x.2 L' L''):Uni L (L2++[x]) L'':=by
 rcases Classical.em (x.1∈L'.map (·.1)) with c |c
 ·rw[ins.1 c]
  refine⟨fun p hp=>(u.sub p hp).imp id fun z=>Zam _ z,fun p hp=>?_,by have:=u.len; simp; omega⟩
  rcases hp with z |z
  ·exact u.all p (.inl z)
  ·rcases ZaH.mp z with z |z
   ·exact u.all p (.inr z)
   ·rw[Zar.mp z]; exact c
 ·have pm:=ins.2 c
  refine⟨fun p hp=>?_,fun p hp=>?_,by have:=u.len; rw[pm.length_eq]; simp; omega⟩
  ·rcases Zak.mp (pm.mem_iff.mp hp) with rfl |z
   ·exact .inr (ZaD _ (Zar.mpr rfl))
   ·exact (u.sub p z).imp id fun z=>Zam _ z
  ·rw[(pm.map (·.1)).mem_iff,Zap]
   rcases hp with z |z
   ·exact Zaf _ (u.all p (.inl z))
   ·rcases ZaH.mp z with z |z
    ·exact Zaf _ (u.all p (.inr z))
    ·rw[Zar.mp z]; exact Zag
theorem Zcs.other {h h':Heap} {r:Addr} {o:Obj} {es2:Array (Int × Value)} {ep2:Nat} {t2:SetTable} (R:Zcs P w h a sc L es ep t) (ho:h.get? r=some o) (hd:o.data=.set es2 ep2 t2) (hne:a≠r) (sb:Heap.SameBut r h h'):Zcs P w h' a sc L es ep t:=
 R.keep (fun o' e=>(sb.2 a hne).trans e) fun p hp=>(R.el p hp).but ho hd sb
theorem Zj0 {r o:Addr} {L2:List El} {es2:Array (Int × Value)} {ep2:Nat} {t2:SetTable} (hne:r≠o) (Rr:Zcs P w s.heap r false L es ep t) (Ro:Zcs P w s.heap o false L2 es2 ep2 t2) (hu:A.units < cLine) (few:L.length+L2.length < 1000)
  {each:Sem Unit} (hech:∀(s':Shared) (Q':Unit→Shared→Prop),Zcs P w s'.heap o false L2 es2 ep2 t2→Q' () s'→wpAny (model P w) A each Q' E s') {Q:Unit→Shared→Prop}
  (hQ:∀h' d L' es' ep' t',Heap.SameBut r s.heap h'→Zcs P w h' r false L' es' ep' t'→Uni L L2 L'→Q () {s with heap:=h',drawn:=d}):wpAny (model P w) A (setMerge r o each) Q E s:=by
 obtain⟨oo,hoo,hexo,hdo⟩:=Ro.ob
 obtain⟨or,hor,hexr,hdr⟩:=Rr.ob
 unfold setMerge
 refine wp_if_neg (by simpa using hne) ?_
 try refine wpAny_bind (wpAny_pure ?_)
 refine wpAny_bind (wpAny_setState_of hoo hdo Ro.fit ?_)
 dsimp only
 have hz2:=ZbK Ro.rows
 have hz1:=ZbK Rr.rows
 by_cases he:es2.isEmpty=true
 ·refine wp_if_pos he ?_
  have:L2=[]:=by
   have:es2.size=0:=by simpa [Array.isEmpty] using he
   exact ZaL (by omega)
  subst this
  exact wpAny_pure (hQ s.heap s.drawn L es ep t (Heap.SameBut.refl _ _) Rr (Uni.left L))
 ·refine wp_if_neg he ?_
  try refine wpAny_bind (wpAny_pure ?_)
  have hn2:1≤L2.length:=by
   have:es2.size≠0:=by simpa [Array.isEmpty] using he
   omega
  -- what comes behind the room is made
  have rest:∀(h1:Heap) (L1:List El) (es1:Array (Int × Value)) (ep1:Nat) (t1:SetTable),Heap.SameBut r s.heap h1→Zcs P w h1 r false L1 es1 ep1 t1→L1.Perm L→(L1.length+L2.length) * 5 < t1.mask * 3→wpAny (model P w) A (do
    let (_,_,ts) ← setState r
    match ts.road t2 with
    | .slotForSlot=>storeSet r es2 {t2 with finger:=ts.finger,led:=ts.led&&t2.led,moves:=ts.moves,plain:=ts.plain&&t2.plain}
    | .clean=>
     let (es,t) ← (do
      let some (t,order):=(SetTable.laid ts.mask ts.finger ts.moves (led:=ts.led&&t2.led) (plain:=ts.plain&&t2.plain) (es2.map (·.1))) |unsupported "internal:set-table-without-room"
      let es':=order.filterMap (es2[·]?)
      if es'.size != es2.size then unsupported "internal:set-table-lost-an-element"
      pure (es',t):Sem (Array (Int × Value) × SetTable))
     storeSet r es t
    | .oneByOne=>
     for (h,x) in ← setWalkUnseen o [r] (some r) do
      let _ ← holding [x] (setAddHashed r x h)
      each
      if (← setState o).2.1 != ep2 then unsupported "set.changed-during-merge") Q E {s with heap:=h1}:=by
   intro h1 L1 es1 ep1 t1 sb1 R1 pm1 room1
   obtain⟨o1,ho1,hex1,hd1⟩:=R1.ob
   have Ro1:Zcs P w h1 o false L2 es2 ep2 t2:=Ro.other hor hdr (Ne.symm hne) sb1
   obtain⟨T1,rm1,mk1⟩:=R1.tab rfl
   obtain⟨T2,rm2,mk2⟩:=Ro.tab rfl
   refine wpAny_bind (wpAny_setState_of ho1 hd1 R1.fit ?_)
   dsimp only
   have hled:∀b,b=(t1.led&&t2.led)→w.params.followText "set-order"=true∨b=true:=by
    intro b hb
    rcases R1.led with z |z
    ·exact .inl z
    ·rcases Ro.led with y |y
     ·exact .inl y
     ·exact .inr (by rw[hb,z,y]; rfl)
   have elo:∀p∈L2,∀h',Heap.SameBut r h1 h'→IsK P w h' p.1 p.2:=fun p hp h' sb=>(Ro1.el p hp).but ho1 hd1 sb
   cases hrd:t1.road t2 with
   |slotForSlot=>
    dsimp only
    have hmm:t1.place.size=0∧t1.mask=t2.mask:=by
     unfold SetTable.road at hrd
     split at hrd
     ·cases hrd
     ·rename_i z
      split at hrd
      ·rename_i y
       simp only[Zaa,Zbi] at y
       have z:t1.fill=0:=by simpa using z
       unfold SetTable.fill at z
       exact⟨by omega,y.1⟩
      ·cases hrd
    refine wpAny_storeSet_of ho1 hd1 ?_ (by rw[hz2,sizeLine_eq]; have:=Ro.few; omega)
    have sb2:Heap.SameBut r h1 (h1.update r (Obj.putSet es2 {t2 with finger:=t1.finger,led:=t1.led&&t2.led,moves:=t1.moves,plain:=t1.plain&&t2.plain})):=Heap.SameBut.update ..
    have hl1:L1=[]:=by
     have:=T1.siz
     rw[Zac] at this
     exact ZaL (by omega)
    rw[hl1] at pm1
    obtain rfl:L=[]:=pm1.symm.eq_nil
    refine hQ _ s.drawn L2 es2 (ep1+1) _ (sb1.trans sb2) ⟨⟨_,store_at ho1 hd1,⟨hex1.1,hex1.2.1,hex1.2.2⟩,rfl⟩,Ro.rows,Ro.nd,fun p hp=>elo p hp _ sb2,Ro.srt,Ro.ris,hled _ rfl,Ro.fit,Ro.few,fun _=>⟨⟨T2.ris,T2.nodm,T2.siz,T2.msk,T2.low,T2.met⟩,rm2,mk2⟩⟩ (Uni.right (.refl _))
   |clean=>
    dsimp only
    have hmm:t1.place.size=0:=by
     unfold SetTable.road at hrd
     split at hrd
     ·cases hrd
     ·rename_i z
      have z:t1.fill=0:=by simpa using z
      unfold SetTable.fill at z
      omega
    have hl1:L1=[]:=by
     have:=T1.siz
     rw[Zac] at this
     exact ZaL (by omega)
    rw[hl1] at pm1 room1
    obtain rfl:L=[]:=pm1.symm.eq_nil
    have room1:(0+L2.length) * 5 < t1.mask * 3:=room1
    obtain⟨t',order,e,hp,T,em,el',ep'⟩:=Zh0 T1.msk t1.finger t1.moves (t1.led&&t2.led) (t1.plain&&t2.plain) (hs:=es2.map (·.1)) (by rw[Array.size_map,hz2]; omega)
    rw[Array.size_map,hz2] at hp
    obtain⟨L3,r1,r2,r3⟩:=Ze3 L2 es2 order Ro.rows hp
    rw[← r3] at T
    have hs2:(order.filterMap (es2[·]?)).size=es2.size:=(ZbK r1).trans (r2.length_eq.trans hz2.symm)
    rw[e]
    dsimp only
    refine wpAny_bind (wp_if_neg (by rw[hs2]; simp) ?_)
    try refine wpAny_bind (wpAny_pure ?_)
    refine wpAny_pure ?_
    dsimp only
    refine wpAny_storeSet_of ho1 hd1 ?_ (by rw[hs2,hz2,sizeLine_eq]; have:=Ro.few; omega)
    have sb2:Heap.SameBut r h1 (h1.update r (Obj.putSet (order.filterMap (es2[·]?)) t')):=Heap.SameBut.update ..
    have hl3:=r2.length_eq
    refine hQ _ s.drawn L3 _ (ep1+1) t' (sb1.trans sb2) ⟨⟨_,store_at ho1 hd1,⟨hex1.1,hex1.2.1,hex1.2.2⟩,rfl⟩,r1,(r2.map (·.1)).nodup_iff.mpr Ro.nd,fun p hp=>elo p (r2.mem_iff.mp hp) _ sb2,fun p hp=>Ro.srt p (r2.mem_iff.mp hp),T.ris,hled _ el',?_,by rw[hl3]; exact Ro.few,fun _=>⟨T,by rw[hl3,em]; omega,by rw[em]; exact mk1⟩⟩ (Uni.right r2)
    exact Zfi T (by rw[Zac,hl3,hs2,hz2]) (by rw[hs2,hz2,em]; omega)
   |oneByOne=>
    dsimp only
    refine wpAny_bind (Zja (s:={s with heap:=h1}) Ro1 fun l d pml=>?_)
    rw[Ro.rows] at pml
    obtain⟨L3,e3,pm3⟩:=Ze4 pml
    refine wpAny_bind ?_
    rw[← Array.forIn_toList,e3]
    refine wpAny_forIn_list _ (fun rest _ q=>∃(done:List El) (todo:List El) (h':Heap) (d':_) (L':List El) (es':Array (Int × Value)) (ep':Nat) (t':SetTable),rest=Zca P w todo∧done++todo=L3∧q={s with heap:=h',drawn:=d'}∧Heap.SameBut r s.heap h'∧Zcs P w h' r false L' es' ep' t'∧Uni L1 done L') _ ?_ ?_ _ _ ⟨[],L3,h1,d,L1,es1,ep1,t1,rfl,rfl,rfl,sb1,R1,Uni.left L1⟩
    ·rintro⟨g,x⟩ rest u q ⟨done,todo,h',d',L',es',ep',t',er,ed,rfl,sb,R',u'⟩
     cases todo with
     |nil=>cases er
     |cons p todo=>
      obtain⟨e1,rfl⟩:(g,x)=(ZbL P w p.1,p.2)∧rest=Zca P w todo:=List.cons.inj er
      cases e1
      have hpm:p∈L2:=pm3.mem_iff.mp (by rw[← ed]; exact ZaD _ Zag)
      have Ro':Zcs P w h' o false L2 es2 ep2 t2:=Ro.other hor hdr (Ne.symm hne) sb
      have hlen:L'.length+1 < 1000:=by
       have b:=u'.len
       have c:=congrArg List.length ed
       rw[Zal,Zae,pm3.length_eq] at c
       rw[pm1.length_eq] at b
       omega
      obtain⟨oq,hoq,hexq,hdq⟩:=R'.ob
      dsimp only
      refine wpAny_bind (wpAny_holding (ZnK (s:={s with heap:=h',drawn:=d'}) R' (Ro'.el p hpm) (Ro.srt p hpm) hu hlen fun b h2 L4 es4 ep4 t4 sb2 R4 ins=>?_))
      have Ro4:Zcs P w h2 o false L2 es2 ep2 t2:=Ro'.other hoq hdq (Ne.symm hne) sb2
      refine wpAny_bind (hech _ _ Ro4 ?_)
      obtain⟨o4,ho4,hex4,hd4⟩:=Ro4.ob
      refine wpAny_bind (wpAny_setState_of ho4 hd4 Ro4.fit ?_)
      refine wp_if_neg (by simp) ?_
      try refine wpAny_bind (wpAny_pure ?_)
      refine wpAny_pure ?_
      exact⟨done++[p],todo,h2,d',L4,es4,ep4,t4,rfl,by rw[ZbH]; exact ed,rfl,sb.trans sb2,R4,u'.next ins⟩
    ·rintro u q ⟨done,todo,h',d',L',es',ep',t',er,ed,rfl,sb,R',u'⟩
     obtain rfl:todo=[]:=by cases todo with
      |nil=>rfl
      |cons p todo=>cases er
     rw[Zaw] at ed
     subst ed
     exact wpAny_pure (hQ h' d' L' es' ep' t' sb R' ((u'.permR pm3).perm pm1))
  unfold setRoomFor
  refine wpAny_bind ?_
  refine wpAny_bind (wpAny_setState_of hor hdr Rr.fit ?_)
  dsimp only
  obtain⟨T,rm,mk⟩:=Rr.tab rfl
  have hfill:t.fill=L.length:=by
   have:=T.siz
   rw[Zac] at this
   unfold SetTable.fill
   rw[T.nodm,this]
   rfl
  have hps:t.place.size=L.length:=by
   have:=T.siz
   rw[Zac] at this
   exact this
  unfold SetTable.roomFor
  rw[hfill,hps,hz2]
  by_cases hc:(L.length+L2.length) * 5≥t.mask * 3
  ·rw[if_pos hc]
   dsimp only
   refine Ze0 hor hexr hdr Rr.rows Rr.fit Rr.nd Rr.el Rr.srt Rr.led Rr.few (by omega) (by omega) (by omega) ?_
   intro h1 L1 es1 ep1 t1 sb1 R1 hm1 pm1 _
   exact rest h1 L1 es1 ep1 t1 sb1 R1 pm1 (by rw[pm1.length_eq]; omega)
  ·rw[if_neg hc]
   dsimp only
   exact wpAny_pure (rest s.heap L es ep t (Heap.SameBut.refl _ _) Rr (.refl _) (by omega))
end
end Rk
/-! Rk.Se:sets in the layer's heaps; set(x). -/
namespace Rk
open PySem PySem.Spec PyProof.Rows L2
def Zgf:D→Option SK
 | .tup l=>(Ze6 l).map .inr
 |d=>(kOf d).map .inl
theorem ZmS {d:D} (h:Zh3 d=true):Zgf d=(kOf d).map .inl:=by cases d<;>first |rfl |cases h
theorem ZmR (l:List D):Zgf (.tup l)=(Ze6 l).map .inr:=rfl
theorem Zkc {a b:D} {k:Key} (ha:kOf a=some k) (hb:kOf b=some k):a=b:=by
 rcases Zcz ha with⟨i,rfl,e1⟩ |⟨s,rfl,c,e1⟩<;>rcases Zcz hb with⟨j,rfl,e2⟩ |⟨t,rfl,c2,e2⟩
 ·rw[e1] at e2; injection e2 with e2; rw[e2]
 ·rw[e1] at e2; cases e2
 ·rw[e1] at e2; cases e2
 ·rw[e1] at e2; injection e2 with e2; rw[Zfj e2]
theorem Zh4:∀{a b:List D} {k:List Key},Ze6 a=some k→Ze6 b=some k→a=b
 |[],[],_,_,_=>rfl
 |[],y::b,_,ha,hb=>by
  cases ha
  unfold Ze6 at hb
  split at hb<;>cases hb
 |x::a,[],_,ha,hb=>by
  cases hb
  unfold Ze6 at ha
  split at ha<;>cases ha
 |x::a,y::b,_,ha,hb=>by
  unfold Ze6 at ha hb
  split at ha
  ·split at hb
   ·rename_i k1 ks1 e1 e2 _ _ k2 ks2 e3 e4
    cases ha
    injection hb with hb
    injection hb with h1 h2
    subst h1 h2
    rw[Zkc e1 e3,Zh4 e2 e4]
   ·cases hb
  ·cases ha
theorem ZlA {a b:D} {k:SK} (ha:Zgf a=some k) (hb:Zgf b=some k):a=b:=by
 have hn:∀{d:D} {q:Option Key},(q.map Sum.inl:Option SK)=some k→q=kOf d→∃j,kOf d=some j∧k=.inl j:=fun h e=>by
  subst e
  obtain⟨j,h1,h2⟩:=Zan.mp h
  exact⟨j,h1,h2.symm⟩
 have key:∀d:D,Zgf d=some k→(∃j,kOf d=some j∧k=.inl j)∨∃l ks,d=.tup l∧Ze6 l=some ks∧k=.inr ks:=fun d h=>by
  cases d with
  |tup l=>
   unfold Zgf at h
   obtain⟨ks,h1,h2⟩:=Zan.mp h
   exact .inr ⟨l,ks,rfl,h1,h2.symm⟩
  |_=>unfold Zgf at h; exact .inl (hn h rfl)
 rcases key a ha with⟨j,h1,e1⟩ |⟨l,ks,rfl,h1,e1⟩<;>rcases key b hb with⟨j2,h2,e2⟩ |⟨l2,ks2,rfl,h2,e2⟩
 ·rw[e1] at e2; injection e2 with e2; subst e2; exact Zkc h1 h2
 ·rw[e1] at e2; cases e2
 ·rw[e1] at e2; cases e2
 ·rw[e1] at e2; injection e2 with e2; subst e2; rw[Zh4 h1 h2]
def KR (g:Gi) (w:Wd) (n:Nat) (d:D) (q:El):Prop:=Zgf d=some q.1∧∃v,RV g w n d v∧RelV v q.2
section
variable {g:Gi} {w w':Wd} {n n':Nat} {h:AH} {H:Hp} {X:Cx} {pins:List (Addr × Obj)} {σ:L2.St} {s:Shared}
theorem KR.extF {d:D} {q:El} (x:Zdi w n w' n') (r:KR g w n d q):KR g w' n' d q:=⟨r.1,let ⟨v,a,b⟩:=r.2; ⟨v,RV.extF x d v a,b⟩⟩
theorem ZfD:∀{l:List D} {xs:List V},l.all Zh3=true→RVs g w n l xs→∃ks,Ze6 l=some ks∧xs=ks.map kV
 |[],xs,_,r=>⟨[],rfl,Zbo.mp r⟩
 |d::l,xs,hl,r=>by
  obtain⟨v,ys,rfl,r1,r2⟩:=ZaQ.mp r
  rw[ZbA,Zaa] at hl
  obtain⟨j,hj,rfl⟩:=ZjC hl.1 r1
  obtain⟨ks,hk,rfl⟩:=ZfD hl.2 r2
  refine⟨j::ks,?_,rfl⟩
  unfold Ze6
  rw[hj,hk]
theorem ZoT {sc:Bool} {d:D} {v:V} {u:Value} (hk:ZdD sc d=true) (r:RV g w n d v) (ru:RelV v u):∃k,KR g w n d (k,u)∧k.isLeft=sc:=by
 cases sc with
 |true=>
  have hk:Zh3 d=true:=hk
  obtain⟨j,hj,rfl⟩:=ZjC hk r
  exact⟨.inl j,⟨by rw[ZmS hk,hj]; rfl,_,r,ru⟩,rfl⟩
 |false=>
  have hk:Zcu true d=true:=hk
  cases d with
  |tup l=>
   have hl:l.all Zh3=true:=hk
   have r0:=r
   unfold RV at r
   obtain⟨a,xs,rfl,q,r⟩:=r
   obtain⟨ks,e,rfl⟩:=ZfD hl r
   exact⟨.inr ks,⟨by rw[ZmR,e]; rfl,_,r0,ru⟩,rfl⟩
  |_=>cases hk
theorem KR.isK {d:D} {q:El} (gk:g.K=X.K) (r:KR g w n d q) (I:Inv X pins σ H s) (sub:∀a o,w.F a=some o→H a=some o):IsK X.prog X.w s.heap q.1 q.2:=by
 obtain⟨h1,v,rv,ru⟩:=r
 obtain⟨k,u⟩:=q
 have sc:∀{d:D},(kOf d).map Sum.inl=some k→RV g w n d v→IsK X.prog X.w s.heap k u:=fun h rv=>by
  obtain⟨j,e1,rfl⟩:=Zan.mp h
  have:v=kV j:=by
   have a:=key_rv (g:=g) (w:=w) (n:=n) e1
   rcases Zcz e1 with⟨i,rfl,rfl⟩ |⟨t,rfl,c,rfl⟩
   ·unfold RV at rv; exact rv
   ·unfold RV at rv; exact rv.1
  subst this
  exact kV_is ru
 cases d with
 |tup l=>
  unfold Zgf at h1
  obtain⟨ks,e1,rfl⟩:=Zan.mp h1
  unfold RV at rv
  obtain⟨a,xs,rfl,q,r⟩:=rv
  obtain rfl:u=Value.ref a:=ru
  have ex:∀{l:List D} {ks:List Key} {xs:List V},Ze6 l=some ks→RVs g w n l xs→xs=ks.map kV:=by
   intro l
   induction l with
   |nil=>intro ks xs e r; cases e; exact Zbo.mp r
   |cons d l ih=>
    intro ks xs e r
    obtain⟨v,ys,rfl,r1,r2⟩:=ZaQ.mp r
    unfold Ze6 at e
    split at e
    ·rename_i k1 ks1 e1 e2
     cases e
     rw[ih e2 r2]
     rcases Zcz e1 with⟨i,rfl,rfl⟩ |⟨t,rfl,c,rfl⟩
     ·unfold RV at r1; rw[r1]; rfl
     ·unfold RV at r1; rw[r1.1]; rfl
    ·cases e
  obtain rfl:=ex e1 r
  obtain⟨its,rr,⟨o,ho,hc,m,hd⟩,_⟩:=I.tuple (SqT.ext sub (.inl (.inl q)))
  exact⟨a,rfl,o,its.toArray,m,ho,hc,hd,by simpa using items_are rr⟩
 |_=>unfold Zgf at h1; exact sc h1 rv
end
structure SG0 (P:Program) (w:World) (h:Heap) (a:Addr) (sc:Bool) (L:List El):Prop where
 ex:∃(es:Array (Int × Value)) (ep:Nat) (t:SetTable),(∃o,h.get? a=some o∧o.ExactSet∧o.data=.set es ep t)∧es.toList=Zca P w L∧(L.map (·.1)).Nodup∧(∀p∈L,p.1.isLeft=sc)∧Ris t.place.toList∧
  (w.params.followText "set-order"=true∨t.led=true)∧t.fits es.size=true∧L.length < 1000∧(sc=false→Zht t (L.map fun p=>ZbL P w p.1)∧L.length * 5 < t.mask * 3∧t.mask≤8200)
def SGO (P:Program) (w:World) (a:Addr) (sc:Bool) (L:List El):HO:=.ext fun h=>SG0 P w h a sc L
theorem Zcs.g0 {P:Program} {w:World} {h:Heap} {a:Addr} {sc:Bool} {L:List El} {es:Array (Int × Value)} {ep:Nat} {t:SetTable} (R:Zcs P w h a sc L es ep t):SG0 P w h a sc L:=⟨es,ep,t,R.ob,R.rows,R.nd,R.srt,R.ris,R.led,R.fit,R.few,R.tab⟩
theorem SG0.full {P:Program} {w:World} {h:Heap} {a:Addr} {sc:Bool} {L:List El} (R:SG0 P w h a sc L) (el:∀p∈L,IsK P w h p.1 p.2):∃es ep t,Zcs P w h a sc L es ep t:=by
 obtain⟨es,ep,t,h1,h2,h3,h4,h5,h6,h7,h8,h9⟩:=R.ex
 exact⟨es,ep,t,h1,h2,h3,el,h4,h5,h6,h7,h8,h9⟩
theorem Zfp {P:Program} {w:World} {H:Hp} {h:Heap} {a:Addr} {sc:Bool} {L:List El} (R:SG0 P w h a sc L):ObjOk P w H h a (SGO P w a sc L):=by
 have⟨es,ep,t,⟨o,ho,r⟩,q⟩:=R.ex
 refine⟨R,⟨o,ho⟩,fun h1 h2 p k=>?_⟩
 have⟨es',ep',t',⟨o',ho',r'⟩,q'⟩:=SG0.ex p
 exact⟨es',ep',t',⟨o',k o' ho',r'⟩,q'⟩
structure SetV (g:Gi) (w:Wd) (n:Nat) (ds:List D) (L:List El):Prop where
 frm:∀q∈L,∃d∈ds,KR g w n d q
 all:∀d∈ds,∃k,Zgf d=some k∧k∈L.map (·.1)
 len:L.length≤ds.length
theorem SetV.extF {g:Gi} {w w':Wd} {n n':Nat} {ds:List D} {L:List El} (x:Zdi w n w' n') (r:SetV g w n ds L):SetV g w' n' ds L:=⟨fun q hq=>let ⟨d,h1,h2⟩:=r.frm q hq; ⟨d,h1,h2.extF x⟩,r.all,r.len⟩
structure ZgH (X:Cx) (g:Gi) (w:Wd) (h:AH) (H:Hp) (p:Addr) (sc:Bool) (L:List El) (ds:List D):Prop where
 ap:Zdv g w h H p (SGO X.prog X.w p sc L)
 sv:SetV g w h.nx ds L
 srt:∀d∈ds,ZdD sc d=true
section
variable {g:Gi} {w w':Wd} {n n':Nat} {h:AH} {H:Hp} {X:Cx} {pins:List (Addr × Obj)} {σ:L2.St} {s:Shared} {p:Addr} {sc:Bool} {L:List El} {ds:List D}
theorem ZgH.get (gk:g.K=X.K) (r:ZgH X g w h H p sc L ds) (rr:RR g w h H) (I:Inv X pins σ H s):∃es ep t,Zcs X.prog X.w s.heap p sc L es ep t:=by
 have R0:SG0 X.prog X.w s.heap p sc L:=(I.hok p _ r.ap.at_).1
 exact R0.full fun q hq=>let ⟨d,_,k⟩:=r.sv.frm q hq; k.isK gk I rr.sub
theorem Zkz:∀{ds:List D} {xs:List V} {us:List Value},(∀d∈ds,ZdD sc d=true)→RVs g w n ds xs→Vals xs us→∃ks:List El,us=ks.map (·.2)∧ks.length=ds.length∧(∀q∈ks,∃d∈ds,KR g w n d q∧q.1.isLeft=sc)∧∀d∈ds,∃q∈ks,Zgf d=some q.1
 |[],xs,us,_,r,v=>by
  rw[Zbo.mp r] at v
  cases v
  exact⟨[],rfl,rfl,(by intro q hq; cases hq),(by intro d hd; cases hd)⟩
 |d::ds,xs,us,hk,r,v=>by
  obtain⟨y,ys,rfl,r1,r2⟩:=ZaQ.mp r
  cases v with
  |cons v1 v2=>
   obtain⟨k,k1,k2⟩:=ZoT (hk d Zag) r1 v1
   obtain⟨ks,e1,e2,e3,e4⟩:=Zkz (fun d hd=>hk d (Zaf _ hd)) r2 v2
   refine⟨(k,_)::ks,by rw[e1]; rfl,by rw[Zae,e2]; rfl,fun q hq=>?_,fun d' hd=>?_⟩
   ·rcases Zak.mp hq with rfl |hq
    ·exact⟨d,Zag,k1,k2⟩
    ·obtain⟨d',h1,h2⟩:=e3 q hq
     exact⟨d',Zaf _ h1,h2⟩
   ·rcases Zak.mp hd with rfl |hd
    ·exact⟨_,Zag,k1.1⟩
    ·obtain⟨q,h1,h2⟩:=e4 d' hd
     exact⟨q,Zaf _ h1,h2⟩
theorem ZlB {ds:List D} (h:Zfr ds=true):∃sc,(∀d∈ds,ZdD sc d=true)∧ds.length < 480∧(ds.all (Zcu true)=true→sc=false):=by
 unfold Zfr at h
 rw[Zaa,ZaP,Zab] at h
 cases e:ds.all (Zcu true) with
 |true=>exact⟨false,Zaj.mp e,h.2,fun _=>rfl⟩
 |false=>
  rw[e] at h
  exact⟨true,Zaj.mp (h.1.resolve_right (by simp)),h.2,fun z=>nomatch z⟩
def rSetG (X:Cx) (g:Gi):List V→Hp→VK→Prop:=fun xs H Q=>∃w h x ds v,xs=[v]∧RR g w h H∧RV g w h.nx x v∧(x=.lst ds∨x=.tup ds)∧Zfr ds=true∧∀p sc L H',RR g w h H'→ZgH X g w h H' p sc L ds→(ds.all (Zcu true)=true→sc=false)→Q (.ref p) H'
theorem Zpw (gk:g.K=X.K) (hc:X.calm=true) (hu:X.A.units+3 < cLine):CallR X (.type "set") (rSetG X g):=by
 intro pins s σ H xs us Q I r hh
 obtain⟨w,h,x,ds,v,rfl,rr,rv,hx,ok,q⟩:=hh
 obtain⟨sc,hk,hl,hs⟩:=ZlB ok
 obtain⟨u,rfl,ru⟩:=vals1 r
 have hn:H s.heap.objs.size=none:=I.hok.fresh (Zai _)
 have fin:∀{ks:List El},ks.length=ds.length→(∀q∈ks,∃d∈ds,KR g w h.nx d q∧q.1.isLeft=sc)→(∀d∈ds,∃q∈ks,Zgf d=some q.1)→∀(h':Heap) (tk:Nat) L es ep t,Zcs X.prog X.w h' s.heap.objs.size sc L es ep t→Ziv ks ks.length L→(∀b o,s.heap.get? b=some o→h'.get? b=some o)→
   ∃v H',Inv X pins σ H' {s with heap:=h',toks:=tk}∧RelV v (.ref s.heap.objs.size)∧Q v H':=by
  intro ks e2 e3 e4 h' tk L es ep t R G k
  obtain⟨rr2,a2⟩:=rr.apart (o:=SGO X.prog X.w s.heap.objs.size sc L) hn (fun _ z=>nomatch z) (fun _ z=>nomatch z)
  refine⟨.ref s.heap.objs.size,upd H s.heap.objs.size (SGO X.prog X.w s.heap.objs.size sc L),I.laid (t':=tk) k (Zai _) (Zfp R.g0),rfl,q _ sc L _ rr2 ⟨a2,⟨fun q hq=>?_,fun d hd=>?_,by rw[← e2]; exact G.len⟩,hk⟩ hs⟩
  ·obtain⟨d,h1,h2,_⟩:=e3 q (Zcp (G.sub q hq))
   exact⟨d,h1,h2⟩
  ·obtain⟨q,h1,h2⟩:=e4 d hd
   exact⟨_,h2,G.all q (by rw[ZeH]; exact h1)⟩
 rcases hx with rfl |rfl
 ·unfold RV at rv
  obtain⟨a,xs,rfl,hF,rs⟩:=rv
  obtain rfl:u=Value.ref a:=ru
  obtain⟨its,rv,pl,hz⟩:=I.list (SqL.of (rr.sub _ _ hF))
  obtain⟨ks,e1,e2,e3,e4⟩:=Zkz hk rs rv
  exact ZgU (P:=X.prog) (w:=X.w) ks (I.ok.hd hc) pl.isList (by simpa using e1) (fun p hp=>by
   obtain⟨d,_,h1,h2⟩:=e3 p hp
   exact⟨h1.isK gk I rr.sub,h2⟩) (by omega) hu (fin e2 e3 e4)
 ·unfold RV at rv
  obtain⟨a,xs,rfl,hF,rs⟩:=rv
  obtain rfl:u=Value.ref a:=ru
  obtain⟨its,rv,pl,hz⟩:=I.tuple (SqT.ext rr.sub (.inl (.inl hF)))
  obtain⟨ks,e1,e2,e3,e4⟩:=Zkz hk rs rv
  exact Zgg (P:=X.prog) (w:=X.w) ks (I.ok.hd hc) pl (by simpa using e1) (fun p hp=>by
   obtain⟨d,_,h1,h2⟩:=e3 p hp
   exact⟨h1.isK gk I rr.sub,h2⟩) (by omega) hu (fin e2 e3 e4)
end
end Rk
/-! Rk.Sf:a |b of sets of tuples,at the model's level. -/
namespace Rk
open PySem PySem.Spec PyProof.Rows L2
theorem Zgy:entryFor table "set.__or__"=some Builtin.«frozenset.__or__» :=
 entryFor_alias (id':="frozenset.__or__") (by kernel_rfl) rfl (by decide+kernel) (by kernel_rfl)
def ZmL (id:String) (l:Addr) (r:Value):Sem Value:=do
 let result ← Builtin.Frozenset.copyOf l
 if r != .ref l then holding [result] (Builtin.Frozenset.updateFrom id (← Builtin.Frozenset.addrOf result) r)
 return result
theorem or_eq (args:Args):Builtin.«frozenset.__or__» args=(do
  let (self,other) ← Builtin.Frozenset.slot1 "__or__" args
  let (l,r):=if false then (other,self) else (self,other)
  if !(← Builtin.Frozenset.isAnySet l <&&> Builtin.Frozenset.isAnySet r) then rule s!"frozenset.{"__or__"}.declined"; return ← ret .notImplemented
  ret (← ZmL s!"frozenset.{"__or__"}" (← Builtin.Frozenset.addrOf l) r)):=rfl
section
variable {P:Program} {w:World} {A:Around} {E:Value→Shared→Prop} {s:Shared} {a b:Addr} {L L2:List El} {es es2:Array (Int × Value)} {ep ep2:Nat} {t t2:SetTable}
theorem Zcs.typ {sc:Bool} (R:Zcs P w s.heap a sc L es ep t):s.TypeIs (.ref a) "set":=let ⟨o,ho,hx,_⟩:=R.ob; ⟨o,ho,hx.1⟩
theorem Zhs {sc:Bool} (R:Zcs P w s.heap a sc L es ep t) {Q:Bool→Shared→Prop} (h:Q true s):wpAny (model P w) A (Builtin.Frozenset.isAnySet (.ref a)) Q E s:=by
 unfold Builtin.Frozenset.isAnySet orM
 refine wpAny_bind (wpAny_isInstance R.typ PySem.F.sub_set_set ?_)
 exact wpAny_pure h
theorem or_G (hne:a≠b) (Ra:Zcs P w s.heap a false L es ep t) (Rb:Zcs P w s.heap b false L2 es2 ep2 t2) (hu:A.units+1 < cLine) (few:L.length+L2.length < 1000) {Q:Value→Shared→Prop}
  (hQ:∀h' d L1 L' es' ep' t',(∀c o,s.heap.get? c=some o→h'.get? c=some o)→Zcs P w h' s.heap.objs.size false L' es' ep' t'→Uni [] L L1→Uni L1 L2 L'→Q (.ref s.heap.objs.size) {s with heap:=h',drawn:=d}):
  wpAny (model P w) A (binaryOp .BitOr (.ref a) (.ref b)) Q E s:=by
 refine wpAny_binaryOp_same (op:=.BitOr) (T:="set") Ra.typ Rb.typ F.fills_set_or F.slot_set_or (wpAny_call_entry F.slot_set_or Ra.typ Zgy ?_ (F.args_set_or_2 _ _))
 rw[or_eq]
 unfold Builtin.Frozenset.slot1 slotArgs
 simp only[List.isEmpty_nil,ZaM,Zau,↓reduceIte,Zbh,Zae,Zat,bne_self_eq_false]
 refine wpAny_bind (wpAny_pure ?_)
 try dsimp only
 unfold andM
 refine wpAny_bind (wpAny_bind (Zhs Ra ?_))
 show wpAny _ _ (Builtin.Frozenset.isAnySet (Value.ref b)) _ _ _
 refine Zhs Rb ?_
 refine wp_if_neg (by simp) ?_
 try dsimp only
 unfold Builtin.Frozenset.addrOf ZmL
 refine wpAny_bind (wpAny_pure ?_)
 refine wpAny_bind ?_
 have pk:∀c o,s.heap.get? c=some o→(s.heap.push (ZbT w)).get? c=some o:=fun c o e=>Heap.get?_push_of_some _ e
 have la:a < s.heap.objs.size:=let ⟨o,ho,_⟩:=Ra.ob; Heap.lt_size ho
 have lb:b < s.heap.objs.size:=let ⟨o,ho,_⟩:=Rb.ob; Heap.lt_size ho
 unfold Builtin.Frozenset.copyOf Builtin.Frozenset.baseOf
 refine wpAny_bind (wpAny_bind (wpAny_bind (wpAny_isInstance Ra.typ PySem.F.sub_set_set ?_)))
 try dsimp only
 refine wpAny_pure ?_
 refine wpAny_bind (PpSet.newSet_ok ?_)
 unfold Builtin.Frozenset.addrOf
 refine wpAny_bind (wpAny_pure ?_)
 have R0:Zcs P w (s.heap.push (ZbT w)) s.heap.objs.size false [] _ _ _:=Zc8 false (Heap.get?_push_size _ rfl)
 have Ra0:=Ra.keep (h':=s.heap.push (ZbT w)) (fun o e=>pk _ _ e) fun p hp=>(Ra.el p hp).keep pk
 have Rb0:=Rb.keep (h':=s.heap.push (ZbT w)) (fun o e=>pk _ _ e) fun p hp=>(Rb.el p hp).keep pk
 obtain⟨o0,ho0,_,hd0⟩:=R0.ob
 refine wpAny_bind (Zj0 (s:={s with heap:=s.heap.push (ZbT w)}) (Ne.symm (Zbg la)) R0 Ra0 (by first |exact hu |(show A.in1.units < cLine; exact Zbr (Around.units_in1 A) hu)) (by rw[Zat]; omega) (fun s' Q' _ q=>wpAny_pure q) fun h1 d1 L1 es1 ep1 t1 sb1 R1 u1=>?_)
 refine wpAny_pure ?_
 have ne2:((Value.ref b) != Value.ref a)=true:=by simpa using Ne.symm hne
 refine wp_if_pos ne2 ?_
 refine wpAny_bind (wpAny_pure ?_)
 refine wpAny_bind (wpAny_holding ?_)
 have Rb1:Zcs P w h1 b false L2 es2 ep2 t2:=Rb0.other ho0 hd0 (Zbg lb) sb1
 unfold Builtin.Frozenset.updateFrom
 refine wpAny_bind (Zhs (s:={s with heap:=h1,drawn:=d1}) Rb1 ?_)
 refine wp_if_pos rfl ?_
 unfold Builtin.Frozenset.addrOf Builtin.Frozenset.merge
 refine wpAny_bind (wpAny_pure ?_)
 obtain⟨ob,hob,_,hdb⟩:=Rb1.ob
 refine wpAny_bind (wpAny_setEpoch_of (s:={s with heap:=h1,drawn:=d1}) hob hdb Rb1.fit ?_)
 have l1:L1.length≤L.length:=by have:=u1.len; rw[Zat,Zbt] at this; exact this
 refine Zj0 (s:={s with heap:=h1,drawn:=d1}) (Ne.symm (Zbg lb)) R1 Rb1 (by first |exact hu |(show A.in1.units < cLine; exact Zbr (Around.units_in1 A) hu)) (by omega) (fun s' Q' R' q=>?_) fun h2 d2 L' es' ep' t' sb2 R' u2=>?_
 ·obtain⟨o',ho',_,hd'⟩:=R'.ob
  unfold Builtin.Frozenset.unchanged
  refine wpAny_bind (wpAny_setEpoch_of ho' hd' R'.fit ?_)
  refine wp_if_neg (by simp) ?_
  exact wpAny_pure q
 ·refine wpAny_pure ?_
  refine wpAny_pure ⟨_,rfl,by simp,hQ h2 d2 L1 L' es' ep' t' (fun c o e=>?_) R' u1 u2⟩
  have hc:c≠s.heap.objs.size:=Zbg (Heap.lt_size e)
  exact (sb2.2 c hc).trans ((sb1.2 c hc).trans (pk c o e))
end
end Rk
/-! Rk.Sh:{e for ..},at the layer's level (the way of HandS.SetBool,for sets of texts and of tuples). -/
namespace Rk
open PySem PySem.Spec PyProof.Rows L2
section
variable {X:Cx}
theorem ZpM {pins:List (Addr × Obj)} {σ:L2.St} {H:Hp} {s:Shared} {E:Value→Shared→Prop} {D:Addr} {sc:Bool} {L:List El} {k:SK} {y:Value} {Q:Value→Shared→Prop} (I:Inv X pins σ H s) (hD:H D=some (SGO X.prog X.w D sc L))
  (el:∀q∈L,IsK X.prog X.w s.heap q.1 q.2) (hx:IsK X.prog X.w s.heap k y) (hs:k.isLeft=sc) (hu:X.A.units+1 < cLine) (few:L.length+1 < 1000)
  (h:∀s' L',Inv X pins σ (upd H D (SGO X.prog X.w D sc L')) s'→Ins k y L L'→Q .none s'):wpAny (model X.prog X.w) X.A (call (.builtin "set.add") [.ref D,y]) Q E s:=by
 have R0:SG0 X.prog X.w s.heap D sc L:=(I.hok D _ hD).1
 obtain⟨es,ep,t,R⟩:=R0.full el
 refine wpAny_call_entry F.slot_set_add R.typ F.entry_set_add ?_ (F.args_set_add_2 _ _)
 unfold Builtin.«set.add» Builtin.Frozenset.oneOther
 simp only[List.isEmpty_nil,Zbh]
 unfold Builtin.Frozenset.addrOf
 refine wpAny_bind (wpAny_pure ?_)
 try dsimp only
 try refine wpAny_bind (wpAny_pure ?_)
 try dsimp only
 refine wpAny_bind ?_
 refine add_G R hx hs hu few fun b h' n L' es' ep' t' sb R' ins=>?_
 show wpAny _ _ (ret Value.none) _ _ _
 have he:∃u,h'.get? D=some u:=let ⟨o,ho,_⟩:=R'.ob; ⟨o,ho⟩
 exact wpAny_pure ⟨_,rfl,h _ L' (I.write (e:=D) (t':=s.toks+n) (by rw[hD]; trivial) (.inl rfl) (fun b u hb hu=>(sb.2 b hb).trans hu) he (Zfp R'.g0)) ins⟩
def ZpU (K:PySem.W.Frag) (P:Program) (w:World) (H:Hp) (k:SK) (y:V):Prop:=∀(X':Cx) (pins:List (Addr × Obj)) (σ:L2.St) (s:Shared) (u:Value),X'.K=K→X'.prog=P→X'.w=w→Inv X' pins σ H s→RelV y u→IsK P w s.heap k u
def tScG (K:PySem.W.Frag) (P:Program) (w:World) (sc:Bool) (wi:TI) (g:TG) (tt:TT) (te:TE) (vs:List Nat):TE:=fun σ H Q=>wi σ H fun J H1=>∀D,H1 D=none→∃W:Nat→Nat→Hp→Prop,(∃m,W 0 m (upd H1 D (SGO P w D sc [])))∧∀i m H,W i m H→
 (J.stop i H∧Q (.ref D) H)∨(J.go i H∧∃Nx:Hp→Prop,(∀H',Nx H'→∃m',m' < m∧W (i+1) m' H')∧∀x H',J.yld i H x H'→g x (wipe σ vs) H' fun σ2 H2=>wipe σ2 vs=wipe σ vs∧tt σ2 H2 fun b H3=>
  if b=true then te σ2 H3 fun y H4=>∃L k,H4 D=some (SGO P w D sc L)∧L.length+1 < 1000∧k.isLeft=sc∧ZpU K P w H4 k y∧(∀q∈L,∃v,RelV v q.2∧ZpU K P w H4 q.1 v)∧∀u L',RelV y u→Ins k u L L'→Nx (upd H4 D (SGO P w D sc L')) else Nx H3)
theorem Zoi {pins:List (Addr × Obj)} {s:Shared} {σ:L2.St} {H:Hp} {Q:VK} {elt tg iter:Expr} {ifs:List Expr} {scope:Scope} {own:List (PySem.Str × Nat)} {sc:Bool} {pos pos':Pos} {wi:TI} {g:TG} {tt:TT} {te:TE} {use:Option (Value→Sem Unit)} {Qf:Value→Shared→Prop}
  (hu:X.A.units+1 < cLine) (hc:X.calm=true) (hN:X.N.Nodup) (I:Inv X pins σ H s) (hi:PI X tg iter wi) (ok:BlkOk X.N X.env.scope scope own)
  (hg:∀(s:Shared) (H:Hp) (C:Addr) (cl:List (PySem.Str × Addr)) (fp:List Addr),PG (X.blk s H scope (compEnvC scope cl C X.env) fp) tg g) (ht:∀(s:Shared) (H:Hp) (C:Addr) (cl:List (PySem.Str × Addr)) (fp:List Addr),PTs (X.blk s H scope (compEnvC scope cl C X.env) fp) ifs tt)
  (he:∀(s:Shared) (H:Hp) (C:Addr) (cl:List (PySem.Str × Addr)) (fp:List Addr),PE (X.blk s H scope (compEnvC scope cl C X.env) fp) elt te) (hs:∀x,foldedSetIterable iter X.env x=pure x)
  (h:tScG X.K X.prog X.w sc wi g tt te (own.map (·.2)) σ H Q)
  (hRR:∀D C s' m H',Inv X pins σ H' s'→Q (.ref D) H'→s'.heap.Ns C m→FpOk X pins H' C→compPost (model X.prog X.w) X.A X.xe use Qf (.ref D) C (.ok .next) s'):
  wpAny (model X.prog X.w) X.A (comprehension (.SetComp elt [⟨tg,iter,ifs,0⟩] scope pos) scope X.env pos' (newSet (.type "set")) false (eval iter X.env) use) Qf X.xe s:=by
 have hfree:∀y∈scope.names,y.2=.free→∃c,X.env.cells.lookup y.1=some c:=fun y hy e=>by
  rcases ok.free y hy e with k |k
  ·exact I.ok.has _ (.inl k)
  ·exact I.ok.has _ (.inr k)
 refine wpAny_comprehension_free (use:=use) rfl hs (closure_ok hfree) ok.kind (fun y hy e=>by rw[ok.uniq y hy,e])
  (thn (hi.run pins s σ H _ I h) fun xv s1 hx=>thn hx fun itv s2 h2=>?_)
 obtain⟨it,fp,tn,J,H2,e,I2,T,st2,f2,q⟩:=h2
 subst e
 refine PpSet.newSet_ok (newEnv_comp ?_)
 generalize hD:s2.heap.objs.size=D
 have hDn:H2 D=none:=I2.hok.fresh (Nat.le_of_eq hD)
 obtain⟨W,⟨m0,w0⟩,turn⟩:=q D hDn
 -- the new list
 generalize hs3:({s2 with heap:=s2.heap.push {cls:=.type "set",dict:=none,data:=.set #[] 0 (.fresh 0 0 (!X.w.params.followText "set-order"))}}:Shared)=s3
 have I3:Inv X pins σ (upd H2 D (SGO X.prog X.w D sc [])) s3:=by
  rw[← hs3]
  refine I2.laid (t':=s2.toks) (fun b o e=>Heap.get?_push_of_some _ e) (Nat.le_of_eq hD) ?_
  rw[← hD]
  exact Zfp (Zc8 sc (Heap.get?_push_size _ rfl)).g0
 have h3:s3.heap=s2.heap.push {cls:=.type "set",dict:=none,data:=.set #[] 0 (.fresh 0 0 (!X.w.params.followText "set-order"))}:=by rw[← hs3]
 have sz:∀b∈fp,b < s2.heap.objs.size:=fun b hb=>by
  obtain⟨o,e,_⟩:=T.obj _ _ st2 b hb
  exact Heap.lt_size e
 have f3:∀b∈fp,FpOk X pins (upd H2 D (SGO X.prog X.w D sc [])) b∧b < s3.heap.objs.size:=fun b hb=>by
  have hlt:=sz b hb
  refine⟨⟨?_,(f2 b hb).2⟩,by rw[h3,Heap.size_push]; exact Zcl hlt⟩
  rw[upd_ne (by rw[← hD]; exact Zbg hlt)]
  exact (f2 b hb).1
 have st3:tn 0 s3.heap:=T.keep _ _ _ st2 fun b _ o e=>by rw[h3]; exact Heap.get?_push_of_some _ e
 have I4:=block_start I3 ok hN f3
 have pg:=hg s3 (upd H2 D (SGO X.prog X.w D sc [])) s3.heap.objs.size (cellsFrom (s3.heap.objs.size+1) scope.names (cloFrom X.env.cells scope.names [])) fp
 have pt:=ht s3 (upd H2 D (SGO X.prog X.w D sc [])) s3.heap.objs.size (cellsFrom (s3.heap.objs.size+1) scope.names (cloFrom X.env.cells scope.names [])) fp
 have pe:=he s3 (upd H2 D (SGO X.prog X.w D sc [])) s3.heap.objs.size (cellsFrom (s3.heap.objs.size+1) scope.names (cloFrom X.env.cells scope.names [])) fp
 show codeAny _ _ (.compStart (.SetComp elt [⟨tg,iter,ifs,0⟩] scope pos) 0 (.ref it) (.ref D) (compEnvC scope (cellsFrom (s3.heap.objs.size+1) scope.names (cloFrom X.env.cells scope.names [])) s3.heap.objs.size X.env)) (compPost (model X.prog X.w) X.A X.xe use Qf (.ref D) s3.heap.objs.size) {s3 with heap:=pushCells (s3.heap.push {cls:=.type "dict",data:=.dict #[]}) scope.names}
 have nfp:∀b∈fp,(upd H2 D (SGO X.prog X.w D sc [])) b=none:=fun b hb=>(f3 b hb).1.1
 generalize hce:compEnvC scope (cellsFrom (s3.heap.objs.size+1) scope.names (cloFrom X.env.cells scope.names [])) s3.heap.objs.size X.env=ce at I4 pg pt pe⊢
 have cL:ce.locals=s3.heap.objs.size:=by subst hce; rfl
 generalize hH3:upd H2 D (SGO X.prog X.w D sc [])=H3 at I3 I4 pg pt pe w0 nfp f3
 generalize hs4:({s3 with heap:=pushCells (s3.heap.push {cls:=.type "dict",data:=.dict #[]}) scope.names}:Shared)=s4 at I4⊢
 have st4:tn 0 s4.heap:=T.keep _ _ _ st3 fun b _ o e=>by rw[← hs4]; exact pushCells_keeps _ _ _ _ (Heap.get?_push_of_some _ e)
 have stat:∀{σ':L2.St} {H':Hp} {s':Shared},Inv (X.blk s3 H3 scope ce fp) [] σ' H' s'→(∀b∈fp,H' b=none)→∀b∈fp,FpOk (X.blk s3 H3 scope ce fp) [] H' b:=fun {σ' H' s'} I' hn b hb=>
  ⟨hn b hb,(I'.ok.exf b hb).1,I'.ok.exfs b hb,.inl hb,fun x c e=>(I'.ok.exf b hb).2 x c e,fun p hp=>absurd (show p∈([]:List (Addr × Obj))++[] from hp) (by simp)⟩
 have loop:codeAny (model X.prog X.w) X.A (.compLoop (.SetComp elt [⟨tg,iter,ifs,0⟩] scope pos) 0 (.ref it) (.ref D) ce) (compPost (model X.prog X.w) X.A X.xe use Qf (.ref D) s3.heap.objs.size) s4:=by
  refine PpSet.compLoopS_any (fun n s'=>∃i H',Inv (X.blk s3 H3 scope ce fp) [] (wipe σ (own.map (·.2))) H' s'∧tn i s'.heap∧(∀b∈fp,H' b=none)∧W i n H') ?_ m0 ⟨0,H3,I4,st4,nfp,w0⟩
  rintro n s5 ⟨i,H5,I5,st5,n5,w5⟩
  rcases turn i n H5 w5 with⟨stop,qq⟩ |⟨go,Nx,hNx,step⟩
  ·have td:=T.done (X.blk s3 H3 scope ce fp) rfl rfl rfl hc i [] s5 _ H5 (fun _ _=>False) I5 (stat I5 n5) st5 stop
   refine thnF td fun r s6 ⟨hr,I6⟩=>?_
   subst hr
   -- back in the def's context
   have I7:Inv X pins σ H5 s6:=I3.call' (ch:=fp) I6.os I6.base I6.hok I6.bare fun b hb=>⟨(f3 b hb).1.2.2.2.1,(f3 b hb).1.2.1,(f3 b hb).1.2.2.2.2.1,(f3 b hb).1.2.2.2.2.2⟩
   have nC:H5 s3.heap.objs.size=none:=by
    have z:H5 ce.locals=none:=I6.free
    rw[cL] at z
    exact z
   obtain⟨m,hn,_⟩:=I6.loc
   have hn:s6.heap.Ns ce.locals m:=hn
   rw[cL] at hn
   exact hRR D s3.heap.objs.size s6 m H5 I7 qq hn (I3.fpOk (Zai _) nC)
  ·have ti:=T.item (X.blk s3 H3 scope ce fp) rfl rfl rfl hc i [] s5 _ H5 (fun _ _=>False) I5 (stat I5 n5) st5 go
   refine thnF ti fun r s6 ⟨u,hr,h6⟩=>?_
   subst hr
   refine thnF h6 fun _ s7 ⟨x,H7,I7,r7,y7,st7,n7⟩=>?_
   have I7':=I7.pinned (stat I7 n7) (T.obj _ _ st7)
   refine thnF (pg.run _ s7 _ H7 x u _ I7' r7 (step x H7 y7)) fun _ s8 ⟨σ8,H8,I8,hw8,q8⟩=>?_
   refine thnF (pt.run _ s8 σ8 H8 _ I8 q8) fun b s9 ⟨H9,I9,q9⟩=>?_
   -- the turn's end
   have fin:∀{s':Shared} {H':Hp},Inv (X.blk s3 H3 scope ce fp) ([]++pinsAt fp s7.heap) σ8 H' s'→Nx H'→∃m,m < n∧∃i H',Inv (X.blk s3 H3 scope ce fp) [] (wipe σ (own.map (·.2))) H' s'∧tn i s'.heap∧(∀b∈fp,H' b=none)∧W i m H':=fun {s' H'} I' nx=>by
    obtain⟨m',hm,w'⟩:=hNx H' nx
    have pin':∀b∈fp,∀o,s7.heap.get? b=some o→s'.heap.get? b=some o∧H' b=none:=fun b hb o e=>
     let z:=I'.pin (b,o) (ZaD _ (ZaD _ (mem_pinsAt hb e)))
     ⟨z.1,z.2.1⟩
    have hl:(wipe σ (own.map (·.2))).length=σ8.length:=by rw[← hw8,wipe_length]
    refine⟨m',hm,i+1,H',(I'.unpinned (pins:=[])).weak hl (fun j v e=>?_),T.keep _ _ _ st7 fun b hb o e=>(pin' b hb o e).1,fun b hb=>?_,w'⟩
    ·rw[← hw8] at e
     exact (wipe_some e).1
    ·obtain⟨o,e,_⟩:=T.obj _ _ st7 b hb
     exact (pin' b hb o e).2
   cases b with
   |false=>
    simp only[Zau,if_false] at q9⊢
    exact fin I9 q9
   |true=>
    simp only[if_true] at q9⊢
    refine thnF (pe.run _ s9 σ8 H9 _ I9 q9) fun z s10 ⟨yv,H10,I10,r10,L0,k0,hD10,hz10,hs10,mk,ml,nx⟩=>?_
    exact ZpM (X:=X.blk s3 H3 scope ce fp) I10 hD10 (fun q hq=>let ⟨v,rv,m⟩:=ml q hq; m (X.blk s3 H3 scope ce fp) _ _ _ _ rfl rfl rfl I10 rv) (mk (X.blk s3 H3 scope ce fp) _ _ _ _ rfl rfl rfl I10 r10) hs10 hu hz10 fun s11 L' I11 ins=>fin I11 (nx _ L' r10 ins)
 exact PpSet.codeAny_compStart_set loop (T.self X.A 0 _ _ _ st4 loop)
theorem pe_sg {elt tg iter:Expr} {ifs:List Expr} {scope:Scope} {own:List (PySem.Str × Nat)} {sc:Bool} {pos:Pos} {wi:TI} {g:TG} {tt:TT} {te:TE} (hu:X.A.units+1 < cLine) (hc:X.calm=true) (hN:X.N.Nodup) (hi:PI X tg iter wi) (ok:BlkOk X.N X.env.scope scope own)
  (hg:∀(s:Shared) (H:Hp) (C:Addr) (cl:List (PySem.Str × Addr)) (fp:List Addr),PG (X.blk s H scope (compEnvC scope cl C X.env) fp) tg g) (ht:∀(s:Shared) (H:Hp) (C:Addr) (cl:List (PySem.Str × Addr)) (fp:List Addr),PTs (X.blk s H scope (compEnvC scope cl C X.env) fp) ifs tt)
  (he:∀(s:Shared) (H:Hp) (C:Addr) (cl:List (PySem.Str × Addr)) (fp:List Addr),PE (X.blk s H scope (compEnvC scope cl C X.env) fp) elt te) (hs:∀x,foldedSetIterable iter X.env x=pure x:=by intro _; rfl):
  PE X (.SetComp elt [⟨tg,iter,ifs,0⟩] scope pos) (tScG X.K X.prog X.w sc wi g tt te (own.map (·.2))):=by
 refine⟨fun pins s σ H Q I h=>?_⟩
 rw[PpSet.eval_SetComp]
 refine Zoi hu hc hN I hi ok hg ht he hs h fun D C s' m H' I' q hn f=>⟨m,hn,fun h'' sb=>?_⟩
 obtain⟨f0,f1,f2,f3,f4,f5⟩:=f
 exact⟨.ref D,H',I'.turned (t':=s'.toks) (fun b o hb e=>(sb.2 b hb).trans e) f0 f1 f3 f4 f5,rfl,q⟩
end
end Rk
/-! Rk.Sg:set expressions:set(x),{.. for ..},a |b. -/
namespace Rk
open PySem PySem.Spec PyProof.Rows L2
def tSE (X:Cx) (g:Gi) (E:SX') (T:Bool) (rs:Run (List D)):TE:=fun σ H Q=>∃w env h,RR g w h H∧RE g w h.nx env σ∧Za4 g w h.nx (rs env h) (E σ) (fun w' h' H' ds=>∀p sc L,ZgH X g w' h' H' p sc L ds→(T=true→ds.all (Zcu true)=true→sc=false)→Q (.ref p) H')
abbrev EVS (X:Cx) (g:Gi) (E:SX') (e:Expr) (T:Bool) (rs:Run (List D)):Prop:=PE X e (tSE X g E T rs)
section
variable {X:Cx} {g:Gi} {c:Bool} {k:Nat} {E:SX'} {e a b tg iter:Expr} {pos p1 p2 p3:Pos} {ra:Run D} {rs rt:Run (List D)}
theorem es_of (G:GX g c k X) (hc:c=true) (hg:Gl X "set") (hm:X.mg "set"=none) (hn:nst a=true) (ha:EV X g E a ra):EVS X g E (.Call (.Name "set" p1) [a] [] pos) true (fun env h=>(ra env h).bind fun x h=>Zjw x h):=by
 refine ((pe_callTy (Zpw (g:=g) G.K.symm (G.calm hc) (by have:=G.un; omega)) hg hm (by first |rfl |decide+kernel) (pa_cons ha.pe pa_nil (Zbw hn _ X.env)) (by decide) (by decide) (Zbw hn _ X.env)).imp fun σ H Q ⟨w,env,h,rr,re,q⟩=>?_)
 refine tE.step q rr re rfl fun w1 h1 H1 x v ext rr1 re1 rv q1=>?_
 unfold Zjw at q1
 cases x with
 |lst l=>
  dsimp only at q1
  by_cases ok:Zfr l=true
  ·rw[if_pos ok] at q1
   exact⟨w1,h1,_,l,v,rfl,rr1,rv,.inl rfl,ok,fun p sc L H' rr' sp hs=>q1.now rr' p sc L sp fun _=>hs⟩
  ·rw[if_neg ok] at q1; exact q1.elim
 |tup l=>
  dsimp only at q1
  by_cases ok:Zfr l=true
  ·rw[if_pos ok] at q1
   exact⟨w1,h1,_,l,v,rfl,rr1,rv,.inr rfl,ok,fun p sc L H' rr' sp hs=>q1.now rr' p sc L sp fun _=>hs⟩
  ·rw[if_neg ok] at q1; exact q1.elim
 |_=>exact q1.elim
def rOrG (X:Cx) (g:Gi):R2:=fun x y H Q=>∃w h q1 q2 L1 L2 ds1 ds2,x=.ref q1∧y=.ref q2∧RR g w h H∧ZgH X g w h H q1 false L1 ds1∧ZgH X g w h H q2 false L2 ds2∧q1≠q2∧ds1.length+ds2.length < 900∧∀p L H',RR g w h H'→ZgH X g w h H' p false L (ds1++ds2)→Q (.ref p) H'
theorem op_orG (gk:g.K=X.K) (hu:X.A.units+1 < cLine):OpR X (binaryOp .BitOr) (rOrG X g):=by
 intro pins s σ H x y v u Q I rx ry hh
 obtain⟨w,h,q1,q2,L1,L2,ds1,ds2,rfl,rfl,rr,s1,s2,ne,few,q⟩:=hh
 obtain rfl:v=Value.ref q1:=rx
 obtain rfl:u=Value.ref q2:=ry
 obtain⟨es1,ep1,t1,R1⟩:=s1.get gk rr I
 obtain⟨es2,ep2,t2,R2⟩:=s2.get gk rr I
 have l1:=s1.sv.len
 have l2:=s2.sv.len
 have hn:H s.heap.objs.size=none:=I.hok.fresh (Zai s.heap.objs.size)
 refine or_G ne R1 R2 hu (by omega) fun h' d M1 L' es' ep' t' kp R' u1 u2=>?_
 obtain⟨rr2,a2⟩:=rr.apart (o:=SGO X.prog X.w s.heap.objs.size false L') hn (fun _ z=>nomatch z) (fun _ z=>nomatch z)
 have J:Inv X pins σ (upd H s.heap.objs.size (SGO X.prog X.w s.heap.objs.size false L')) {s with heap:=h',gens:=s.gens,drawn:=d,toks:=s.toks}:=
  I.call (ch:=[]) (Un.laid kp (Zai _) hn) (I.hok.laid kp (Zai _) (Zfp R'.g0)) I.bare (fun _ z=>nomatch z)
 refine⟨.ref s.heap.objs.size,_,J,rfl,q _ L' _ rr2 ⟨a2,⟨fun z hz=>?_,fun d hd=>?_,?_⟩,fun d hd=>?_⟩⟩
 ·rcases u2.sub z hz with m |m
  ·rcases u1.sub z m with m |m
   ·cases m
   ·obtain⟨d,h1,h2⟩:=s1.sv.frm z m
    exact⟨d,Zam _ h1,h2⟩
  ·obtain⟨d,h1,h2⟩:=s2.sv.frm z m
   exact⟨d,ZaD _ h1,h2⟩
 ·rcases ZaH.mp hd with m |m
  ·obtain⟨k,h1,h2⟩:=s1.sv.all d m
   obtain⟨z,hz,rfl⟩:=Zah.mp h2
   obtain⟨z',hz',e⟩:=Zah.mp (u1.all z (.inr hz))
   refine⟨_,h1,?_⟩
   rw[← e]
   exact u2.all z' (.inl hz')
  ·obtain⟨k,h1,h2⟩:=s2.sv.all d m
   obtain⟨z,hz,rfl⟩:=Zah.mp h2
   exact⟨_,h1,u2.all z (.inr hz)⟩
 ·have e1:=u1.len
  have e2:=u2.len
  rw[Zat] at e1
  rw[Zal]
  omega
 ·rcases ZaH.mp hd with m |m
  ·exact s1.srt d m
  ·exact s2.srt d m
theorem Zdv.post2 {α:Type} {w:Wd} {h:AH} {H:Hp} {p:Addr} {o:HO} {rs:Res α} {EE:XK} {P P':Wd→AH→Hp→α→Prop} (a:Zdv g w h H p o) (q:Za4 g w h.nx rs EE P) (k:∀w2 h2 H2 v,RR g w2 h2 H2→Ext w h.nx w2 h2.nx→Zdv g w2 h2 H2 p o→P w2 h2 H2 v→∀w3,RR g w3 h2 H2→w3.m=w2.m→w3.F=w2.F→(∀b,w3.Z b=none→w2.Z b=none)→w3.Z p=some o→P' w3 h2 H2 v):Za4 g ⟨w.m,w.F,upd w.Z p o⟩ h.nx rs EE P':=by
 cases rs with
 |ok v h2=>
  intro w2 H2 x r2
  obtain⟨b1,b2,b3⟩:=a.back (n:=0) r2 x
  refine k _ h2 H2 v b1 b2 b3 (q _ _ b2 b1) w2 r2 rfl rfl (fun b hb=>?_) (x.Z p o upd_same)
  show (if b=p then none else w2.Z b)=none
  split
  ·rfl
  ·exact hb
 |exc y h2=>
  intro w2 H2 cls d x r2 rx
  obtain⟨b1,b2,b3⟩:=a.back (n:=0) r2 x
  refine q _ _ cls d b2 b1 ?_
  obtain⟨c,fs,dd,gs,h1,h2',h3,h4,h5,h6⟩:=rx
  exact⟨c,fs,dd,gs,h1,h2',h3,h4,RVf.extF (show Zdi w2 h2.nx ⟨w2.m,w2.F,fun b=>if b=p then none else w2.Z b⟩ h2.nx from⟨Zai _,fun _ _=>rfl,fun _ _ e=>e⟩) fs gs h5,h6⟩
 |stuck=>exact q
theorem es_or (G:GX g c k X) (ha:EVS X g E a true rs) (hb:EVS X g E b true rt):EVS X g E (.BinOp a .BitOr b pos) true (fun env h=>(rs env h).bind fun l h=>(rt env h).bind fun m h=>seOr l m h):=by
 refine (pe_op (op_orG (g:=g) G.K.symm (by have:=G.un; omega)) ha hb).imp fun σ H Q ⟨w,env,h,rr,re,q⟩=>?_
 refine⟨w,env,h,rr,re,q.bind.mono fun w1 h1 H1 ds1 ext rr1 q1 p1 sc1 L1 sp1 hs1=>?_⟩
 obtain⟨rz,xz⟩:=sp1.ap.side rr1
 refine⟨_,env,h1,rz,(re.ext ext).ext xz,?_⟩
 refine sp1.ap.post2 q1.bind fun w2 h2 H2 ds2 rr2 ext2 a2 q2 w3 r3 em eF eZ eP p2 sc2 L2 sp2 hs2=>?_
 unfold seOr at q2
 by_cases ok:((ds1.all (Zcu true)&&ds2.all (Zcu true))&&decide (ds1.length+ds2.length < 900))=true
 ·rw[if_pos ok] at q2
  rw[Zaa,Zaa,Zab] at ok
  obtain rfl:=hs1 rfl ok.1.1
  obtain rfl:=hs2 rfl ok.1.2
  have ne:p1≠p2:=fun z=>by
   have:=sp2.ap.noZ
   rw[← z,eP] at this
   cases this
  refine⟨w2,h2,p1,p2,L1,L2,ds1,ds2,rfl,rfl,rr2,⟨a2,sp1.sv.extF ext2.f,sp1.srt⟩,⟨⟨sp2.ap.at_,by rw[← eF]; exact sp2.ap.noF,eZ _ sp2.ap.noZ,fun j hj=>by rw[← em]; exact sp2.ap.noC j hj,sp2.ap.n1,sp2.ap.n2⟩,sp2.sv.extF ⟨Zai _,fun j _=>by rw[em],fun b o e=>by rw[← eF]; exact e⟩,sp2.srt⟩,ne,ok.2,fun p L H' rr' sp=>q2.now rr' p false L sp fun _ _=>rfl⟩
 ·rw[if_neg ok] at q2; exact q2.elim
end
/-! ### comprehensions -/
def Zke (sc:Bool) (tgs:List Nat) (rf:Run Bool) (re:Run D) (env:Env):D→AH→Res (Option D):=fun x h=>match ZbB tgs x env with
 |some e=>(rf e h).bind fun b h=>if b then (re e h).bind fun y h=>if ZdD sc y then .ok (some y) h else .stuck else .ok none h
 |none=>.stuck
def scmR (sc:Bool) (rI:Run Src) (tgs:List Nat) (rf:Run Bool) (re:Run D):Run (List D):=fun env h=>(rI env h).bind fun s h=>if s.len h≤400 then
   Za6 (Zeb s (Zke sc tgs rf re env) (s.len h+1) 0 h) else .stuck
theorem Za4.noexc_bind {α β:Type} {g:Gi} {w:Wd} {n:Nat} {r:Res α} {f:α→AH→Res β} {X X':XK} {P:Wd→AH→Hp→β→Prop} (q:Za4 g w n (Rk.Za6 (r.bind f)) X P):
  Za4 g w n (Rk.Za6 r) X' (fun w1 h1 H1 a=>Za4 g w1 h1.nx (Rk.Za6 (f a h1)) X P):=by
 cases r with
 |ok a h1=>
  have q:Za4 g w n (Rk.Za6 (f a h1)) X P:=q
  intro w1 H1 e1 rr1
  cases e:f a h1 with
  |ok b h2=>
   rw[e] at q
   exact fun w2 H2 e2 rr2=>q w2 H2 (e1.trans e2) rr2
  |exc x h2=>rw[e] at q; exact q.elim
  |stuck=>rw[e] at q; exact q.elim
 |exc x h1=>exact q
 |stuck=>exact q
section
variable {X:Cx} {g:Gi} {c:Bool} {k:Nat} {E:SX'} {e a b tg iter elt:Expr} {pos p1 p2 p3:Pos} {sc:Bool}
theorem sk_of {w:Wd} {n:Nat} {sc:Bool} {d:D} {v:V} (hk:ZdD sc d=true) (r:RV g w n d v):∃k,Zgf d=some k∧k.isLeft=sc:=by
 cases sc with
 |true=>
  have hk:Zh3 d=true:=hk
  obtain⟨j,hj,rfl⟩:=ZjC hk r
  exact⟨.inl j,by rw[ZmS hk,hj]; rfl,rfl⟩
 |false=>
  have hk:Zcu true d=true:=hk
  cases d with
  |tup l=>
   unfold RV at r
   obtain⟨a,xs,rfl,q,r⟩:=r
   obtain⟨ks,e,rfl⟩:=ZfD (show l.all Zh3=true from hk) r
   exact⟨.inr ks,by rw[ZmR,e]; rfl,rfl⟩
  |_=>cases hk
theorem KR.memOk {P:Program} {w0:World} {w:Wd} {n:Nat} {H:Hp} {d:D} {q:El} (r:KR g w n d q) (sub:∀a o,w.F a=some o→H a=some o):∃v,RelV v q.2∧ZpU g.K P w0 H q.1 v:=by
 obtain⟨h1,v,rv,ru⟩:=r
 refine⟨v,ru,fun X' pins σ s u e1 e2 e3 I ru'=>?_⟩
 subst e2 e3
 exact KR.isK (q:=(q.1,u)) e1.symm ⟨h1,v,rv,ru'⟩ I sub
theorem ZlC {σ:L2.St} {H:Hp} {Q:VK} {rI:Run Src} {tgs vs:List Nat} {rf:Run Bool} {re:Run D} (gk:X.K=g.K) (hsub:∀i∈vs,i∈tgs) (hsup:∀i∈tgs,i∈vs) (h:tSE X g E (!sc) (scmR sc rI tgs rf re) σ H Q):tScG X.K X.prog X.w sc (tI g E rI) (tG g tgs) (tB' g E0 rf) (tE g E0 re) vs σ H Q:=by
 obtain⟨w,env,h,rr,renv,q⟩:=h
 refine⟨w,env,h,rr,renv,q.bind.mono fun w1 h1 H1 src ext rr1 q1 J sv D0 hD=>?_⟩
 obtain⟨hlen,q1⟩:=Zbx q1
 obtain⟨rr2,ap2⟩:=rr1.apart (o:=SGO X.prog X.w D0 sc []) hD (fun _ z=>nomatch z) (fun _ z=>nomatch z)
 have re1:=renv.ext ext
 refine⟨fun i m H=>i+m≤400∧∃w3 h3 ds L,ds.length≤i∧Ext w1 h1.nx w3 h3.nx∧RR g w3 h3 H∧ZgH X g w3 h3 H D0 sc L ds∧Za4 g w1 h1.nx (Za6 (Zeb src (Zke sc tgs rf re env) (m+1) i h3)) (E σ) (fun w' h' H' r=>∀p s' L,ZgH X g w' h' H' p s' L (ds++r)→((!sc)=true→(ds++r).all (Zcu true)=true→s'=false)→Q (.ref p) H'),
  ⟨src.len h1,by omega,w1,h1,[],[],Zai _,Ext.refl _ _,rr2,⟨ap2,⟨fun q hq=>(nomatch hq),fun d hd=>(nomatch hd),Zai _⟩,fun d hd=>(nomatch hd)⟩,q1⟩,?_⟩
 rintro i m H3 ⟨him,w3,h3,ds,L,hds,ext3,rr3,sp3,q3⟩
 unfold Zeb at q3
 cases hg:src.get i h3 with
 |none=>rw[hg] at q3; exact q3.elim
 |some o=>
  cases o with
  |none=>
   rw[hg] at q3
   refine .inl ⟨sv.stop w3 h3 H3 i ext3.f rr3 hg,?_⟩
   have q4:=q3 w3 H3 ext3 rr3 D0 sc L
   rw[Zaw] at q4
   exact q4 sp3 fun z _=>by simpa using z
  |some x=>
   rw[hg] at q3
   obtain⟨rz,xz⟩:=sp3.ap.side rr3
   obtain⟨go,yl⟩:=sv.it _ h3 H3 i x (ext3.trans xz).f rz hg
   refine .inr ⟨go,fun H'=>∃m',m' < m∧i+1+m'≤400∧∃w3 h3 ds L,ds.length≤i+1∧Ext w1 h1.nx w3 h3.nx∧RR g w3 h3 H'∧ZgH X g w3 h3 H' D0 sc L ds∧Za4 g w1 h1.nx (Za6 (Zeb src (Zke sc tgs rf re env) (m'+1) (i+1) h3)) (E σ) (fun w' h' H' r=>∀p s' L,ZgH X g w' h' H' p s' L (ds++r)→((!sc)=true→(ds++r).all (Zcu true)=true→s'=false)→Q (.ref p) H'),fun H' ⟨m',hm,z⟩=>⟨m',hm,z⟩,fun x' H' y=>?_⟩
   obtain⟨w4,ext4,rr4,rv4⟩:=yl x' H' y
   dsimp only at q3
   cases hb:ZbB tgs x env with
   |none=>
    have e0:Zke sc tgs rf re env x h3=.stuck:=by unfold Zke; rw[hb]
    rw[e0] at q3
    exact q3.elim
   |some env'=>
    have e0:Zke sc tgs rf re env x h3=((rf env' h3).bind fun b h=>if b then (re env' h).bind fun y h=>if ZdD sc y then .ok (some y) h else .stuck else .ok none h):=by unfold Zke; rw[hb]
    rw[e0] at q3
    refine⟨w4,env,h3,x,env',_,rr4,REu.of_wipe (((re1.ext ext3).ext xz).ext ext4) vs,hsub,rv4,hb,fun σ2 re2 hw=>⟨?_,?_⟩⟩
    ·rw[hw vs hsup]
     refine Zd5 fun j=>?_
     by_cases hj:j∈vs
     ·rw[Zdk hj,Zdk hj,wipe_length]
     ·rw[wipe_out hj]
    refine⟨w4,env',h3,rr4,re2,?_⟩
    -- what is left behind a turn
    have left:∀(w5:Wd) (h5:AH) (H5:Hp) (ds':List D) (L':List El),ds'.length≤i+1→Ext w1 h1.nx w5 h5.nx→RR g w5 h5 H5→ZgH X g w5 h5 H5 D0 sc L' ds'→Za4 g w1 h1.nx (Za6 (Zeb src (Zke sc tgs rf re env) m (i+1) h5)) (E σ) (fun w' h' H' r=>∀p s' L,ZgH X g w' h' H' p s' L (ds'++r)→((!sc)=true→(ds'++r).all (Zcu true)=true→s'=false)→Q (.ref p) H')→
      ∃m',m' < m∧i+1+m'≤400∧∃w3 h3 ds L,ds.length≤i+1∧Ext w1 h1.nx w3 h3.nx∧RR g w3 h3 H5∧ZgH X g w3 h3 H5 D0 sc L ds∧Za4 g w1 h1.nx (Za6 (Zeb src (Zke sc tgs rf re env) (m'+1) (i+1) h3)) (E σ) (fun w' h' H' r=>∀p s' L,ZgH X g w' h' H' p s' L (ds++r)→((!sc)=true→(ds++r).all (Zcu true)=true→s'=false)→Q (.ref p) H'):=by
     intro w5 h5 H5 ds' L' l5 ext5 rr5 sp5 q5
     cases m with
     |zero=>exact q5.elim
     |succ m'=>exact⟨m',Zbc _,by omega,w5,h5,ds',L',l5,ext5,rr5,sp5,q5⟩
    have back:∀{w5:Wd} {h5:AH} {H5:Hp},RR g w5 h5 H5→Ext ⟨w3.m,w3.F,upd w3.Z D0 (SGO X.prog X.w D0 sc L)⟩ h3.nx w5 h5.nx→∃w6,RR g w6 h5 H5∧Ext w3 h3.nx w6 h5.nx∧ZgH X g w6 h5 H5 D0 sc L ds∧w6.m=w5.m∧w6.F=w5.F:=fun r5 x5=>by
     obtain⟨b1,b2,b3⟩:=sp3.ap.back (n:=0) r5 x5
     exact⟨_,b1,b2,⟨b3,sp3.sv.extF b2.f,sp3.srt⟩,rfl,rfl⟩
    cases hrf:rf env' h3 with
    |stuck=>rw[hrf] at q3; exact q3.elim
    |exc y h5=>rw[hrf] at q3; exact q3.elim
    |ok b h5=>
     rw[hrf,bind_ok] at q3
     intro w5 H5 ext5 rr5
     show if b=true then _ else _
     cases b with
     |false=>
      refine iteF ?_
      obtain⟨w6,b1,b2,b3,_,_⟩:=back rr5 (ext4.trans ext5)
      refine left w6 h5 H5 ds L (Nat.le_succ_of_le hds) (ext3.trans b2) b1 b3 ?_
      have q4:Za4 g w1 h1.nx (Za6 ((Zeb src (Zke sc tgs rf re env) m (i+1) h5).bind fun r h''=>.ok (push none r) h'')) (E σ) _:=q3
      exact q4.noexc_bind.mono fun w' h' H' r _ rr' z=>z.now rr'
     |true=>
      refine iteT ⟨w5,env',h5,rr5,re2.ext ext5,?_⟩
      simp only[if_true] at q3
      cases hre:re env' h5 with
      |stuck=>rw[hre] at q3; exact q3.elim
      |exc y h6=>rw[hre] at q3; exact q3.elim
      |ok vd h6=>
       rw[hre,bind_ok] at q3
       intro w6 H6 ext6 rr6 vv rv6
       by_cases hk:ZdD sc vd=true
       ·simp only[hk,if_true] at q3
        obtain⟨w7,b1,b2,b3,em,eF⟩:=back rr6 ((ext4.trans ext5).trans ext6)
        have rv7:RV g w7 h6.nx vd vv:=RV.mF em eF rv6
        have q4:Za4 g w1 h1.nx (Za6 ((Zeb src (Zke sc tgs rf re env) m (i+1) h6).bind fun r h''=>.ok (push (some vd) r) h'')) (E σ) _:=q3
        have hll:=b3.sv.len
        obtain⟨kk,kr,ks⟩:=sk_of hk rv7
        refine⟨L,kk,b3.ap.at_,by omega,ks,?_,?_,fun u L' ru ins=>?_⟩
        ·intro X' pins σ' s' u e1 e2 e3 I ru
         obtain⟨kk2,kr2,_⟩:=ZoT hk rv7 ru
         obtain rfl:kk2=kk:=Option.some.inj (kr2.1.symm.trans kr)
         have:=kr2.isK (X:=X') (by rw[e1]; exact gk.symm) I b1.sub
         rw[e2,e3] at this
         exact this
        ·intro q hq
         obtain⟨d,_,h2⟩:=b3.sv.frm q hq
         rw[gk]
         exact h2.memOk b1.sub
        ·obtain⟨rr8,ap8⟩:=b3.ap.change (o':=SGO X.prog X.w D0 sc L') b1 (fun _ z=>nomatch z) (fun _ z=>nomatch z)
         obtain⟨kk2,kr2,_⟩:=ZoT hk rv7 ru
         obtain rfl:kk2=kk:=Option.some.inj (kr2.1.symm.trans kr)
         refine left w7 h6 _ (ds++[vd]) L' (by rw[Zal]; simp; omega) (ext3.trans b2) rr8 ⟨ap8,?_,?_⟩ ?_
         ·rcases Classical.em (kk2∈L.map (·.1)) with z |z
          ·rw[ins.1 z]
           refine⟨fun q hq=>?_,fun d hd=>?_,by rw[Zal]; omega⟩
           ·obtain⟨d,h1,h2⟩:=b3.sv.frm q hq
            exact⟨d,Zam _ h1,h2⟩
           ·rcases ZaH.mp hd with hd |hd
            ·exact b3.sv.all d hd
            ·rw[Zar.mp hd]
             exact⟨_,kr2.1,z⟩
          ·have pm:=ins.2 z
           refine⟨fun q hq=>?_,fun d hd=>?_,by rw[pm.length_eq,Zal]; simp; omega⟩
           ·rcases Zak.mp (pm.mem_iff.mp hq) with rfl |hq
            ·exact⟨vd,ZaD _ (Zar.mpr rfl),kr2⟩
            ·obtain⟨d,h1,h2⟩:=b3.sv.frm q hq
             exact⟨d,Zam _ h1,h2⟩
           ·have pm':∀j,j∈L'.map (·.1)↔j∈((kk2,u)::L).map (·.1):=fun j=>(pm.map (·.1)).mem_iff
            rcases ZaH.mp hd with hd |hd
            ·obtain⟨j,h1,h2⟩:=b3.sv.all d hd
             exact⟨j,h1,(pm' j).mpr (Zaf _ h2)⟩
            ·rw[Zar.mp hd]
             exact⟨_,kr2.1,(pm' _).mpr Zag⟩
         ·intro d hd
          rcases ZaH.mp hd with hd |hd
          ·exact b3.srt d hd
          ·rw[Zar.mp hd]; exact hk
         ·refine q4.noexc_bind.mono fun w' h' H' r _ rr' z=>?_
          have z:=z.now rr'
          rw[ZbH]
          exact z
       ·simp only[hk] at q3
        exact q3.elim
theorem es_cmp {ifs:List Expr} {scope:Scope} {own:List (Str × Nat)} {tgs:List Nat} {rI:Run Src} {rf:Run Bool} {re:Run D} (G:GX g c k X) (hc:X.calm=true) (hi:PI X tg iter (tI g E rI)) (ok:BlkOk X.N X.env.scope scope own) (hsub:∀i∈own.map (·.2),i∈tgs) (hsup:∀i∈tgs,i∈own.map (·.2))
  (hg:∀(s:Shared) (H:Hp) (C:Addr) (cl:List (Str × Addr)) (fp:List Addr),PG (X.blk s H scope (compEnvC scope cl C X.env) fp) tg (tG g tgs)) (ht:∀(s:Shared) (H:Hp) (C:Addr) (cl:List (Str × Addr)) (fp:List Addr),PTs (X.blk s H scope (compEnvC scope cl C X.env) fp) ifs (tB' g E0 rf))
  (he:∀(s:Shared) (H:Hp) (C:Addr) (cl:List (Str × Addr)) (fp:List Addr),PE (X.blk s H scope (compEnvC scope cl C X.env) fp) elt (tE g E0 re)) (hs:ZjT iter=true):
  EVS X g E (.SetComp elt [⟨tg,iter,ifs,0⟩] scope pos) (!sc) (scmR sc rI tgs rf re):=
 (pe_sg (sc:=sc) (by have:=G.un; omega) hc G.nd hi ok hg ht he (Zeq hs _)).imp fun σ H Q q=>ZlC G.K hsub hsup q
end
end Rk
/-! Rk.Si:ints,texts and tuples of such sorted. -/
namespace Rk
open PySem PySem.Spec PyProof.Rows L2 PySem.W
def LeD (x y:D):Prop:=dataLt (py y) (py x)=false
theorem LeD.trans {x y z:D} (h1:LeD x y) (h2:LeD y z):LeD x z:=by
 unfold LeD dataLt at *
 cases e:lexLt itemOrd (keyToks (py z)) (keyToks (py x)) with
 |false=>rfl
 |true=>
  rcases lex_negTrans _ (keyToks (py y)) _ e with a |a
  ·rw[h2] at a; cases a
  ·rw[h1] at a; cases a
theorem LeD.asym {x y:D} (h:dataLt (py x) (py y)=true):LeD x y:=by
 unfold LeD dataLt at *
 cases e:lexLt itemOrd (keyToks (py y)) (keyToks (py x)) with
 |false=>rfl
 |true=>
  have:=lex_trans _ _ _ h e
  rw[lex_irrefl] at this
  cases this
theorem LeD.anti {x y:D} (k:kin x y=true) (h1:LeD x y) (h2:LeD y x):x=y:=by
 have e:keyToks (py x)=keyToks (py y):=lex_total _ _ h2 h1
 obtain⟨a1,a2⟩:=ZdC x y k
 refine a1.mp ?_
 cases c:Zbb x y with
 |true=>rfl
 |false=>
  have q:=(toks_eqv _ _ (ZcI x y k)).2 (a2.trans c) [.inl 0] [.inl 1]
  rw[e,lex_pre,lex_irrefl] at q
  rw[lex_one] at q
  exact absurd q (by simp[itemLt])
theorem LeD.total (x y:D):LeD x y∨LeD y x:=by
 cases e:dataLt (py x) (py y) with
 |true=>exact .inl (LeD.asym e)
 |false=>exact .inr e
/-! ### by insertion -/
theorem Zeu (lt:D→D→Bool) (x:D):∀l:List D,(Zl5 lt x l).Perm (x::l)
 |[]=>.refl _
 |y::r=>by
  unfold Zl5
  split
  ·exact ((Zeu lt x r).cons y).trans (.swap x y r)
  ·exact .refl _
theorem Zb9 (lt:D→D→Bool):∀l:List D,(Zd0 lt l).Perm l
 |[]=>.refl _
 |x::l=>by unfold Zd0; exact (Zeu lt x _).trans ((Zb9 lt l).cons x)
theorem Zkj {x:D}:∀{l:List D},(∀y∈l,ltB y x=dataLt (py y) (py x))→l.Pairwise LeD→(Zl5 ltB x l).Pairwise LeD
 |[],_,_=>ZeC _ _
 |y::r,hx,hs=>by
  have h1:=hx y Zag
  rw[ZbD] at hs
  unfold Zl5
  by_cases c:ltB y x=true
  ·rw[if_pos c]
   refine ZbD.mpr ⟨fun z hz=>?_,Zkj (fun z hz=>hx z (Zaf _ hz)) hs.2⟩
   rcases Zak.mp ((Zeu ltB x r).mem_iff.mp hz) with rfl |hz
   ·exact LeD.asym (h1.symm.trans c)
   ·exact hs.1 z hz
  ·rw[if_neg c]
   have hxy:LeD x y:=by
    show dataLt (py y) (py x)=false
    rw[← h1]
    simpa using c
   refine ZbD.mpr ⟨fun z hz=>?_,ZbD.mpr hs⟩
   rcases Zak.mp hz with rfl |hz
   ·exact hxy
   ·exact hxy.trans (hs.1 z hz)
def Zi7 (l:List D):Prop:=∀x∈l,∀y∈l,kin x y=true
theorem Zd8:∀{l:List D},Zi7 l→(Zd0 ltB l).Pairwise LeD
 |[],_=>List.Pairwise.nil
 |x::l,h=>by
  unfold Zd0
  refine Zkj (fun y hy=>?_) (Zd8 fun a ha b hb=>h a (Zaf _ ha) b (Zaf _ hb))
  exact ZhY (h y (Zaf _ ((Zb9 ltB l).mem_iff.mp hy)) x Zag)
theorem Zj6:∀{a b:List D},Zi7 a→a.Perm b→a.Pairwise LeD→b.Pairwise LeD→a=b
 |[],b,_,p,_,_=>(p.nil_eq)
 |x::a,[],_,p,_,_=>absurd p.length_eq (by simp)
 |x::a,y::b,k,p,ha,hb=>by
  rw[ZbD] at ha hb
  have hx:x∈y::b:=p.mem_iff.mp Zag
  have hy:y∈x::a:=p.mem_iff.mpr Zag
  have e:x=y:=by
   rcases Zak.mp hx with e |hx
   ·exact e
   ·rcases Zak.mp hy with e |hy
    ·exact e.symm
    ·exact LeD.anti (k x Zag y (Zaf _ hy)) (ha.1 y hy) (hb.1 x hx)
  subst e
  rw[Zj6 (fun u hu v hv=>k u (Zaf _ hu) v (Zaf _ hv)) (List.Perm.cons_inv p) ha.2 hb.2]
theorem ZlT {l:List D} (k:Zi7 l):l.mergeSort (dataLe false py)=Zd0 ltB l:=by
 have le:∀a b:D,dataLe false py a b=true↔LeD a b:=fun a b=>by
  rw[dataLe_eq]
  show (!dataLt (py b) (py a))=true↔dataLt (py b) (py a)=false
  cases dataLt (py b) (py a)<;>simp
 have p1:=List.mergeSort_perm l (dataLe false py)
 have s1:=List.pairwise_mergeSort (le:=dataLe false py) (fun a b c h1 h2=>(le a c).mpr (((le a b).mp h1).trans ((le b c).mp h2))) (fun a b=>Bool.or_eq_true_iff.mpr ((LeD.total a b).imp (le a b).mpr (le b a).mpr)) l
 refine Zj6 (fun x hx y hy=>k x (p1.mem_iff.mp hx) y (p1.mem_iff.mp hy)) (p1.trans (Zb9 ltB l).symm) (s1.imp fun h=>(le _ _).mp h) (Zd8 k)
theorem ZlY:(∀x y:D,kin x y=true→kin y x=true):=by
 have key:∀n:Nat,(∀x y:D,sizeOf x < n→kin x y=true→kin y x=true)∧∀l m:List D,sizeOf l < n→kins l m=true→kins m l=true:=by
  intro n
  induction n with
  |zero=>exact⟨fun _ _ h=>absurd h (ZcF _),fun _ _ h=>absurd h (ZcF _)⟩
  |succ n ih=>
   refine⟨fun x y hx h=>?_,fun l m hl h=>?_⟩
   ·cases x with
    |int a=>cases y<;>first |(unfold kin; rfl) |(unfold kin at h; cases h)
    |str a=>cases y<;>first |(unfold kin; rfl) |(unfold kin at h; cases h)
    |tup l=>
     cases y with
     |tup m=>
      unfold kin at h⊢
      refine ih.2 l m ?_ h
      have:sizeOf (D.tup l)=1+sizeOf l:=by first |rfl |simp
      omega
     |_=>unfold kin at h; cases h
    |_=>unfold kin at h; cases h
   ·cases l with
    |nil=>cases m<;>(unfold kins; rfl)
    |cons x l=>
     cases m with
     |nil=>unfold kins; rfl
     |cons y m=>
      unfold kins at h⊢
      rw[Zaa] at h⊢
      have:sizeOf (x::l)=1+sizeOf x+sizeOf l:=by first |rfl |simp
      exact⟨ih.1 x y (by omega) h.1,ih.2 l m (by omega) h.2⟩
 exact fun x y h=>(key (sizeOf x+1)).1 x y (Zbc _) h
theorem Zka:∀{l:List D},Zfc l=true→Zi7 l
 |[],_=>fun x hx=>nomatch hx
 |x::l,h=>by
  unfold Zfc at h
  rw[Zaa,Zaa] at h
  have r:=Zka h.2
  have q:∀y∈l,kin x y=true:=fun y hy=>by
   have:=Zaj.mp h.1.2 y hy
   rw[Zaa] at this
   exact this.1
  intro a ha b hb
  rcases Zak.mp ha with e |ha<;>rcases Zak.mp hb with e' |hb
  ·rw[e,e']; exact h.1.1
  ·rw[e]; exact q b hb
  ·rw[e']; exact ZlY _ _ (q a ha)
  ·exact r a ha b hb
end Rk
/-! Rk.Sj:sorted(list),sorted(set),len(set),max(a,b). -/
namespace Rk
open PySem PySem.Spec PyProof.Rows L2 PySem.W
section
variable {g:Gi} {w:Wd} {n:Nat} {h:AH} {H:Hp} {X:Cx} {pins:List (Addr × Obj)} {σ:L2.St} {s:Shared}
mutual
theorem Zgi (gk:g.K=X.K) (I:Inv X pins σ H s) (sub:∀a o,w.F a=some o→H a=some o):∀(d:D) (v:V) (u:Value),kin d d=true→RV g w n d v→RelV v u→Reads s.heap u (py d) []
 | .int i,v,u,_,r,ru=>by
  unfold RV at r
  subst r
  obtain⟨t,rfl⟩:=ru
  unfold py
  exact .int i t
 | .str x,v,u,_,r,ru=>by
  unfold RV at r
  obtain⟨rfl,_⟩:=r
  obtain⟨t,rfl⟩:=ru
  unfold py
  exact .str _ t
 | .tup l,v,u,hk,r,ru=>by
  unfold RV at r
  obtain⟨a,xs,rfl,q,r⟩:=r
  obtain rfl:u=Value.ref a:=ru
  unfold kin at hk
  obtain⟨its,rv,⟨o,ho,hc,m,hd⟩,_⟩:=I.tuple (SqT.ext sub (.inl (.inl q)))
  unfold py
  exact .tuple ho hc hd (by simpa using reads_kins gk I sub l xs its hk r rv)
 | .non,_,_,h,_,_=>by unfold kin at h; cases h
 | .bl _,_,_,h,_,_=>by unfold kin at h; cases h
 | .lst _,_,_,h,_,_=>by unfold kin at h; cases h
 | .ref _,_,_,h,_,_=>by unfold kin at h; cases h
 | .ins _ _,_,_,h,_,_=>by unfold kin at h; cases h
 | .exc _ _,_,_,h,_,_=>by unfold kin at h; cases h
 | .scr _,_,_,h,_,_=>by unfold kin at h; cases h
 | .dct _ _,_,_,h,_,_=>by unfold kin at h; cases h
 | .set _,_,_,h,_,_=>by unfold kin at h; cases h
 | .ktp _,_,_,h,_,_=>by unfold kin at h; cases h
theorem reads_kins (gk:g.K=X.K) (I:Inv X pins σ H s) (sub:∀a o,w.F a=some o→H a=some o):∀(l:List D) (xs:List V) (us:List Value),kins l l=true→RVs g w n l xs→Vals xs us→ReadsAll s.heap us (pys l) []
 |[],xs,us,_,r,rv=>by
  rw[Zbo.mp r] at rv
  cases rv
  unfold pys
  exact .nil
 |d::l,xs,us,hk,r,rv=>by
  obtain⟨y,ys,rfl,r1,r2⟩:=ZaQ.mp r
  unfold kins at hk
  rw[Zaa] at hk
  cases rv with
  |cons v1 v2=>
   unfold pys
   exact ReadsAll.cons (as:=[]) (bs:=[]) (Zgi gk I sub d _ _ hk.1 r1 v1) (reads_kins gk I sub l ys _ hk.2 r2 v2)
end
def Std (g:Gi) (w:Wd) (n:Nat) (u:Value) (d:D):Prop:=∃v,RV g w n d v∧RelV v u
theorem Zfl:∀{us:List Value} {ds:List D},EachIs (Std g w n) us ds→∃ys,RVs g w n ds ys∧Vals ys us
 |_,_,.nil=>⟨[],RVs.nil,.nil⟩
 |_,_,.cons ⟨v,a,b⟩ r=>by
  obtain⟨ys,h1,h2⟩:=Zfl r
  exact⟨v::ys,RVs.mk a h1,.cons b h2⟩
theorem Zf7 (gk:g.K=X.K) (I:Inv X pins σ H s) (sub:∀a o,w.F a=some o→H a=some o):∀{us:List Value} {ds:List D},(∀d∈ds,kin d d=true)→EachIs (Std g w n) us ds→EachIs (fun v d=>∃as,Reads s.heap v (py d) as∧as=[]) us ds
 |_,_,_,.nil=>.nil
 |_,_,k,.cons ⟨v,a,b⟩ r=>.cons ⟨[],Zgi gk I sub _ v _ (k _ Zag) a b,rfl⟩ (Zf7 gk I sub (fun d hd=>k d (Zaf _ hd)) r)
theorem ZgR {ds:List D} (h:Zeg ds=true):Zi7 ds∧dpts 60 ds=true∧∀d∈ds,Zkh d=false:=by
 unfold Zeg at h
 rw[Zaa,Zaa] at h
 exact⟨Zka h.1.1,h.1.2,fun d hd=>by simpa using Zaj.mp h.2 d hd⟩
theorem Zjn {ds:List D} (k:Zi7 ds):AllAlike (ds.map py):=fun d hd d' hd'=>by
 obtain⟨x,hx,rfl⟩:=Zah.mp hd
 obtain⟨y,hy,rfl⟩:=Zah.mp hd'
 exact ZcI x y (k x hx y hy)
theorem py_tup (a:D) (l:List D):py (.tup (a::l))=.tuple (py a::pys l):=by rw[py,pys]
theorem Zlv {ds:List D} (k:Zi7 ds) (t:∀d∈ds,Zkh d=false):Sortable (ds.map py):=by
 have shp:∀d∈ds,(∃x r,py d=.tuple (x::r))∨(py d≠ .none∧∀xs,py d≠ .tuple xs):=fun d hd=>by
  have:=k d hd d hd
  have h0:=t d hd
  cases d with
  |int i=>exact .inr (by unfold py; exact⟨by simp,by simp⟩)
  |str i=>exact .inr (by unfold py; exact⟨by simp,by simp⟩)
  |tup l=>
   cases l with
   |nil=>cases h0
   |cons a l=>exact .inl ⟨py a,pys l,py_tup a l⟩
  |_=>unfold kin at this; cases this
 cases ds with
 |nil=>exact .inl fun d hd=>by cases hd
 |cons a ds=>
  have one:∀d∈a::ds,alike (py a) (py d)=true:=fun d hd=>ZcI a d (k a Zag d hd)
  rcases shp a Zag with⟨x,r,e⟩ |⟨e1,e2⟩
  ·refine .inl fun d hd=>?_
   obtain⟨d,hm,rfl⟩:=Zah.mp hd
   rcases shp d hm with z |⟨z1,z2⟩
   ·exact z
   ·have q:=one d hm
    rw[e] at q
    cases ed:py d with
    |tuple xs=>exact absurd ed (z2 xs)
    |_=>rw[ed] at q; simp[alike] at q
  ·refine .inr fun d hd=>?_
   obtain⟨d,hm,rfl⟩:=Zah.mp hd
   rcases shp d hm with⟨x,r,z⟩ |z
   ·have q:=one d hm
    rw[z] at q
    cases ea:py a with
    |tuple xs=>exact absurd ea (e2 xs)
    |_=>rw[ea] at q; simp[alike] at q
   ·exact z
/-! ### sets -/
theorem Zgn {α β:Type} (f:α→β):∀{m:List β} {l:List α},m.Perm (l.map f)→∃l':List α,m=l'.map f∧l'.Perm l
 |[],l,p=>by
  have:l=[]:=by simpa using p.symm.eq_nil
  exact⟨[],rfl,by rw[this]⟩
 |x::m,l,p=>by
  have hx:x∈l.map f:=p.mem_iff.mp Zag
  obtain⟨a,ha,rfl⟩:=Zah.mp hx
  obtain⟨l1,l2,rfl⟩:=List.append_of_mem ha
  have p2:(f a::m).Perm (f a::(l1++l2).map f):=by
   refine p.trans ?_
   rw[Zbs,Zap,Zbs]
   exact List.perm_middle
  obtain⟨l',e,pl⟩:=Zgn f p2.cons_inv
  exact⟨a::l',by rw[Zap,e],(pl.cons a).trans List.perm_middle.symm⟩
theorem ZdG {l:List D} (k:Zi7 l):(ZfU l).Nodup∧∀d,d∈ZfU l↔d∈l:=by
 have key:∀(l acc:List D),Zi7 (acc++l)→acc.Nodup→(l.foldl (fun acc x=>if acc.any (Zbb x) then acc else acc++[x]) acc).Nodup∧∀d,d∈l.foldl (fun acc x=>if acc.any (Zbb x) then acc else acc++[x]) acc↔d∈acc∨d∈l:=by
  intro l
  induction l with
  |nil=>intro acc _ h; exact⟨h,fun d=>by simp⟩
  |cons x l ih=>
   intro acc hk h
   rw[Zcj]
   have hx:x∈acc++x::l:=ZaD _ Zag
   have an:acc.any (Zbb x)=true↔x∈acc:=by
    rw[List.any_eq_true]
    refine⟨fun⟨y,hy,e⟩=>?_,fun hm=>⟨x,hm,(ZdC x x (hk x hx x hx)).1.mpr rfl⟩⟩
    rw[(ZdC x y (hk x hx y (Zam _ hy))).1.mp e]
    exact hy
   by_cases c:acc.any (Zbb x)=true
   ·rw[if_pos c]
    obtain⟨i1,i2⟩:=ih acc (fun a ha b hb=>hk a (by
     rcases ZaH.mp ha with z |z
     ·exact Zam _ z
     ·exact ZaD _ (Zaf _ z)) b (by
     rcases ZaH.mp hb with z |z
     ·exact Zam _ z
     ·exact ZaD _ (Zaf _ z))) h
    refine⟨i1,fun d=>(i2 d).trans ⟨fun z=>z.imp id (Zaf _),fun z=>?_⟩⟩
    rcases z with z |z
    ·exact .inl z
    ·rcases Zak.mp z with rfl |z
     ·exact .inl (an.mp c)
     ·exact .inr z
   ·rw[if_neg c]
    obtain⟨i1,i2⟩:=ih (acc++[x]) (by rw[ZbH]; exact hk) (List.nodup_append.mpr ⟨h,ZeC _ _,fun a ha b hb=>by
     rw[Zar.mp hb]
     intro e
     subst e
     exact c (an.mpr ha)⟩)
    refine⟨i1,fun d=>(i2 d).trans ⟨fun z=>?_,fun z=>?_⟩⟩
    ·rcases z with z |z
     ·rcases ZaH.mp z with z |z
      ·exact .inl z
      ·rw[Zar.mp z]; exact .inr Zag
     ·exact .inr (Zaf _ z)
    ·rcases z with z |z
     ·exact .inl (Zam _ z)
     ·rcases Zak.mp z with rfl |z
      ·exact .inl (ZaD _ (Zar.mpr rfl))
      ·exact .inr z
 obtain⟨a,b⟩:=key l [] (by simpa using k) List.nodup_nil
 exact⟨a,fun d=>(b d).trans ⟨fun z=>z.resolve_left (fun z=>by cases z),.inr⟩⟩
theorem ZmW {ds:List D}:∀{L1:List El},(∀q∈L1,∃d∈ds,KR g w n d q)→∃ds1:List D,EachIs (Std g w n) (L1.map (·.2)) ds1∧(∀d∈ds1,d∈ds)∧ds1.map Zgf=L1.map fun q=>some q.1
 |[],_=>⟨[],.nil,(fun d hd=>by cases hd),rfl⟩
 |q::L1,h=>by
  obtain⟨d,h1,h2,v,h3,h4⟩:=h q Zag
  obtain⟨ds1,a,b,c⟩:=ZmW fun q hq=>h q (Zaf _ hq)
  refine⟨d::ds1,.cons ⟨v,h3,h4⟩ a,fun x hx=>?_,by rw[Zap,Zap,h2,c]⟩
  rcases Zak.mp hx with rfl |hx
  ·exact h1
  ·exact b x hx
theorem SetV.row {ds:List D} {L L1:List El} (sv:SetV g w n ds L) (nd:(L.map (·.1)).Nodup) (kl:Zi7 ds) (pm:L1.Perm L):∃ds1:List D,EachIs (Std g w n) (L1.map (·.2)) ds1∧ds1.Perm (ZfU ds):=by
 obtain⟨ds1,e,sb,ek⟩:=ZmW (g:=g) (w:=w) (n:=n) (ds:=ds) (L1:=L1) fun q hq=>sv.frm q (pm.mem_iff.mp hq)
 have nd1:(L1.map (·.1)).Nodup:=(pm.map (·.1)).nodup_iff.mpr nd
 have n1:ds1.Nodup:=by
  have h1:(ds1.map Zgf).Nodup:=by
   rw[ek]
   have:(L1.map fun q=>some q.1)=(L1.map (·.1)).map some:=by rw[Zb3]; rfl
   rw[this]
   exact Zk6.mpr (nd1.imp fun h z=>h (Option.some.inj z))
  exact List.Pairwise.imp (fun h z=>h (by rw[z])) (Zk6.mp h1)
 obtain⟨d1,d2⟩:=ZdG kl
 refine⟨ds1,e,(List.perm_ext_iff_of_nodup n1 d1).mpr fun d=>?_⟩
 rw[d2]
 refine⟨sb d,fun hd=>?_⟩
 obtain⟨k,h1,h2⟩:=sv.all d hd
 obtain⟨q,hq,rfl⟩:=Zah.mp ((pm.map (·.1)).mem_iff.mpr h2)
 have:some q.1∈ds1.map Zgf:=by
  rw[ek]
  exact Zah.mpr ⟨q,hq,rfl⟩
 obtain⟨d',h3,h4⟩:=Zah.mp this
 rw[ZlA h1 h4]
 exact h3
def rSrt (X:Cx) (g:Gi):List V→Hp→VK→Prop:=fun vs H Q=>∃w h p sc L ds,vs=[V.ref p]∧RR g w h H∧ZgH X g w h H p sc L ds∧Zeg ds=true∧∀p' ys,H p'=none→RVs g w h.nx (Zd0 ltB (ZfU ds)) ys→Q (.ref p') (upd H p' (.lst ys))
theorem ZnA {c:Bool} {k:Nat} (G:GX g c k X) (hc:c=true):CallR X (.builtin "sorted") (rSrt X g):=by
 intro pins s σ H vs us Q I r hh
 obtain⟨w,h,p,sc,L,ds,rfl,rr,sp,ok,q⟩:=hh
 obtain⟨kl,dp,t0⟩:=ZgR ok
 obtain⟨u,rfl,ru⟩:=vals1 r
 obtain rfl:u=Value.ref p:=ru
 obtain⟨es,ep,t,R⟩:=sp.get G.K.symm rr I
 obtain⟨o,ho,hex,hd⟩:=R.ob
 have hsz:=ZbK R.rows
 have hfew:=R.few
 have hun:=G.un
 refine Calls.call_function_entry kind_sorted plain_sorted entry_sorted (args_sorted1 _) ?_
 unfold Builtin.«sorted»
 refine wpAny_bind (m:=checkCount "sorted" 1 1 _) (wpAny_pure ?_)
 refine wpAny_bind (collect_set (A:=X.A.in1) (I.ok.hd (G.calm hc)) ⟨o,ho,hex.1,hd⟩ R.fit (by unfold scanBound; omega) R.ris R.led fun s1 vs k1 hz g1 o1 pm=>?_)
 have hes:es.toList.map (·.2)=L.map (·.2):=by
  rw[R.rows]
  unfold Zca
  rw[Zb3]<;>rfl
 rw[hes] at pm
 obtain⟨L1,rfl,pL⟩:=Zgn (fun q:El=>q.2) pm
 obtain⟨ds1,e1,pd⟩:=sp.sv.row R.nd kl pL
 have kd:Zi7 (ZfU ds):=fun a ha b hb=>kl a ((ZdG kl).2 a |>.mp ha) b ((ZdG kl).2 b |>.mp hb)
 have k1d:Zi7 ds1:=fun a ha b hb=>kd a (pd.mem_iff.mp ha) b (pd.mem_iff.mp hb)
 have m1:∀d∈ds1,d∈ds:=fun d hd=>((ZdG kl).2 d).mp (pd.mem_iff.mp hd)
 obtain⟨ys0,ry0,_⟩:=Zfl e1
 have hl1:ds1.length < 1000:=by
  rw[← e1.length,Zac,pL.length_eq]
  exact hfew
 have dep:∀d∈ds1,(py d).depth≤60:=fun d hd=>by
  have hdd:dpt 60 d=true:=by
   have all:∀{l:List D},dpts 60 l=true→∀d∈l,dpt 60 d=true:=by
    intro l
    induction l with
    |nil=>intro _ d hd; cases hd
    |cons x l ih=>
     intro h d hd
     unfold dpts at h
     rw[Zaa] at h
     rcases Zak.mp hd with rfl |hd
     ·exact h.1
     ·exact ih h.2 d hd
   exact all dp d (m1 d hd)
  have rvd:∀{l:List D} {ys:List V},RVs g w h.nx l ys→∀d∈l,∃v,RV g w h.nx d v:=by
   intro l
   induction l with
   |nil=>intro ys _ d hd; cases hd
   |cons x l ih=>
    intro ys r d hd
    obtain⟨y,ys,rfl,r1,r2⟩:=ZaQ.mp r
    rcases Zak.mp hd with rfl |hd
    ·exact⟨_,r1⟩
    ·exact ih r2 d hd
  obtain⟨v,rv⟩:=rvd ry0 d hd
  exact (Ze5 60 d v hdd rv).2
 have er0:=Zf7 G.K.symm I rr.sub (fun d hd=>k1d d hd d hd) e1
 refine wpAny_bind (wpAny_newList ?_ (by rw[sizeLine_eq,Zac,pL.length_eq]; omega))
 have hoL:(s1.heap.push (seqObj "list" (L1.map (·.2)).toArray 0)).get? s1.heap.objs.size=some (seqObj "list" (L1.map (·.2)).toArray 0):=Heap.get?_push_size _ rfl
 have kp:∀b u,s.heap.get? b=some u→(s1.heap.push (seqObj "list" (L1.map (·.2)).toArray 0)).get? b=some u:=fun b u e=>Heap.get?_push_of_some _ (k1 b u e)
 have er:EachIs (fun v d=>∃as,Reads (s1.heap.push (seqObj "list" (L1.map (·.2)).toArray 0)) v (py d) as∧s1.heap.objs.size∉as) (L1.map (·.2)) ds1:=
  er0.mono fun v d ⟨as,z,e⟩=>⟨as,PyProof.Rows.Reads.keeps (fun b u=>kp b u) z,by rw[e]; simp⟩
 refine wpAny_bind (wpAny_holding (list_sort_data (s:={s1 with heap:=s1.heap.push (seqObj "list" (L1.map (·.2)).toArray 0)}) (R:=Std g w h.nx) (enc:=py) hoL e1 er (Zjn k1d) (Zlv k1d fun d hd=>t0 d (m1 d hd)) (by rw[sizeLine_eq]; omega) (fun d hd=>by
  have:=dep d hd
  show X.A.in1.units+1+(py d).depth < cLine
  have e2:X.A.in1.units=X.A.units+1:=rfl
  omega) fun out hlen eo=>?_))
 have es1:ds1.mergeSort (dataLe false py)=Zd0 ltB (ZfU ds):=by
  rw[ZlT k1d]
  refine Zj6 (fun x hx y hy=>k1d x ((Zb9 ltB ds1).mem_iff.mp hx) y ((Zb9 ltB ds1).mem_iff.mp hy)) ((Zb9 ltB ds1).trans (pd.trans (Zb9 ltB _).symm)) (Zd8 k1d) (Zd8 kd)
 rw[es1] at eo
 obtain⟨ys,ry,vy⟩:=Zfl eo
 obtain⟨m,hm⟩:=sortedHeap_at (vs:=L1.map (·.2)) (out:=List.toArray out) hoL
 refine wpAny_pure ⟨_,rfl,?_⟩
 have kk:∀b u,s.heap.get? b=some u→(sortedHeap (s1.heap.push (seqObj "list" (L1.map (·.2)).toArray 0)) s1.heap.objs.size (L1.map (·.2)) (List.toArray out)).get? b=some u:=fun b u e=>by
  have q:=k1 b u e
  have hlt:=Heap.lt_size q
  rw[sortedHeap_old (Zbg hlt) (by rw[size_push']; exact Zcl hlt)]
  exact Heap.get?_push_of_some _ q
 have hn:H s1.heap.objs.size=none:=I.hok.fresh hz
 have J:Inv X pins σ (upd H s1.heap.objs.size (.lst ys)) {s with heap:=sortedHeap (s1.heap.push (seqObj "list" (L1.map (·.2)).toArray 0)) s1.heap.objs.size (L1.map (·.2)) (List.toArray out),gens:=s1.gens,drawn:=s1.drawn,toks:=s1.toks}:=
  I.call (ch:=[]) (Un.laid kk hz hn) (I.hok.laid kk hz ⟨by rw[ry.length,(Zb9 ltB _).length_eq,← pd.length_eq,sizeLine_eq]; omega,out,m,vy,hm⟩) (by rw[g1]; exact I.bare) (fun _ z=>nomatch z)
 refine⟨.ref s1.heap.objs.size,_,?_,rfl,q _ ys hn ry⟩
 have e:({s1 with heap:=sortedHeap (s1.heap.push (seqObj "list" (L1.map (·.2)).toArray 0)) s1.heap.objs.size (L1.map (·.2)) (List.toArray out)}:Shared)={s with heap:=sortedHeap (s1.heap.push (seqObj "list" (L1.map (·.2)).toArray 0)) s1.heap.objs.size (L1.map (·.2)) (List.toArray out),gens:=s1.gens,drawn:=s1.drawn,toks:=s1.toks}:=by
  rw[← o1]
 first |exact J |(rw[e]; exact J)
end
end Rk
/-! Rk.Sk:sorted(x),len(set),max(a,b),l.index(x) as expressions. -/
namespace Rk
open PySem PySem.Spec PyProof.Rows L2 PySem.W
section
variable {X:Cx} {g:Gi} {c:Bool} {k:Nat} {E:SX'} {e a b:Expr} {pos p1 p2 p3:Pos} {ra rb:Run D} {rs:Run (List D)} {T:Bool}
theorem ev_srt (G:GX g c k X) (hc:c=true) (hg:Gl X "sorted") (hm:X.mg "sorted"=none) (hn:nst e=true) (he:EVS X g E e T rs):EV X g E (.Call (.Name "sorted" p1) [e] [] pos) (fun env h=>(rs env h).bind fun l h=>ZeM l h):=by
 refine EV.of G ((pe_callB (ZnA G hc) hg hm (by first |rfl |decide+kernel) (pa_cons he pa_nil (Zbw hn _ X.env)) (by decide) (by decide) (Zbw hn _ X.env)).imp fun σ H Q ⟨w,env,h,rr,re,q⟩=>?_) fun _=>rfl
 refine⟨w,env,h,rr,re,q.bind.mono fun w1 h1 H1 ds ext rr1 q1 p sc L sp _=>?_⟩
 unfold ZeM at q1
 by_cases ok:Zeg ds=true
 ·rw[if_pos ok] at q1
  exact⟨w1,h1,p,sc,L,ds,rfl,rr1,sp,ok,fun p' ys hp ry=>Zcd q1 rr1 hp (Zbd.mpr ⟨p',ys,rfl,upd_same,ry.ext (rr1.freeze hp).2⟩)⟩
 ·rw[if_neg ok] at q1; exact q1.elim
end
end Rk
/-! Rk.Hm:C(..) as a cell:an instance that will be changed. -/
namespace Rk
open PySem PySem.Spec PyProof.Rows L2
def Zog (g:Gi) (call:Cl) (b kk:Nat):Sp:=fun vs H Q E=>∃w ds h x dx us,vs=.ref x::us∧NW g w h H kk x dx []∧RVs g w h.nx ds us∧
 Za4 g w h.nx (call.make b ds h) E fun w' h' H' v=>∀fs gs,v=.ins b fs→NW g w' h' H' kk x dx gs→RVf g w' h'.nx fs gs→Q .non H'
section
variable {g:Gi} {w:Wd} {h:AH} {H:Hp} {kk:Nat} {x dx:Addr} {gs:List (Str × V)} {fs:List (Nat × D)}
theorem NW.cell (N:NW g w h H kk x dx gs) (rf:RVf g w h.nx fs gs):RR g ⟨fun k=>if k=h.nx then x else w.m k,w.F,w.Z⟩ (h.new (.ins kk fs)) H∧Ext w h.nx ⟨fun k=>if k=h.nx then x else w.m k,w.F,w.Z⟩ (h.nx+1):=by
 have ext:Ext w h.nx ⟨fun k=>if k=h.nx then x else w.m k,w.F,w.Z⟩ (h.nx+1):=⟨ZbE _,fun k hk=>if_neg (Zbg hk),fun _ _ e=>e,fun _ _ e=>e,fun k h1 h2=>by
  obtain rfl:k=h.nx:=by omega
  show w.Z (if h.nx=h.nx then x else w.m h.nx)=none
  rw[if_pos rfl]; exact N.zx⟩
 have hx:H x=some (.ins (g.cb kk) dx gs):=(N.rr.subz x _ (by show upd _ x _ x=_; rw[upd_same])).1
 have hd:H dx=some (.own x):=(N.rr.subz dx _ (by show upd (upd _ dx _) x _ dx=_; rw[upd_ne N.ne,upd_same])).1
 have r:RR g w h H:=N.rr.lessZ fun a o e=>(N.ext (n:=0)).Z a o e
 have nm:∀k,k < h.nx→w.m k≠x:=N.ac
 refine⟨⟨r.sub,r.subz,fun k hk=>?_,fun j k hj hk e=>?_,fun k hk=>?_,fun q hq=>(r.tabs q hq).to (fun _ _ e=>e) (r.tabs q hq).nF (r.tabs q hq).nZ rfl⟩,ext⟩
 ·show RC g _ (h.nx+1) _ (if k=h.nx then x else w.m k) (if k=h.nx then ZeW.ins kk fs else h.cell k)
  by_cases e:k=h.nx
  ·rw[if_pos e,if_pos e]
   exact⟨⟨N.fx,N.zx⟩,dx,gs,⟨N.fd,N.zd⟩,hx,hd,RVf.extF ext.f fs gs rf,N.kc⟩
  ·rw[if_neg e,if_neg e]
   have hk':k < h.nx:=by have:k < h.nx+1:=hk; omega
   exact (r.cell k hk').to ext (fun b _ e1 e2=>⟨e1,e2⟩) fun b u e _ _=>e
 ·have hj:j < h.nx+1:=hj
  have hk:k < h.nx+1:=hk
  have e:(if j=h.nx then x else w.m j)=(if k=h.nx then x else w.m k):=e
  by_cases e1:j=h.nx<;>by_cases e2:k=h.nx
  ·rw[e1,e2]
  ·rw[if_pos e1,if_neg e2] at e
   exact absurd e.symm (nm k (by omega))
  ·rw[if_neg e1,if_pos e2] at e
   exact absurd e (nm j (by omega))
  ·rw[if_neg e1,if_neg e2] at e
   exact r.inj j k (by omega) (by omega) e
 ·show H (if k=h.nx then x else w.m k)≠none
  have hk:k < h.nx+1:=hk
  by_cases e:k=h.nx
  ·rw[if_pos e,hx]; exact fun z=>nomatch z
  ·rw[if_neg e]
   exact r.oc k (by omega)
end
def spN (g:Gi) (call:Cl) (kk:Nat):Sp:=fun vs H Q E=>∃w ds h x dx us,vs=.ref x::us∧NW g w h H kk x dx []∧RVs g w h.nx ds us∧
 Za4 g w h.nx (call.hm kk ds h) E fun w' h' H' v=>RV g w' h'.nx v (.ref x)→Q .non H'
structure MkOkN (X:Cx) (g:Gi) (gG:G) (call:Cl) (k kk n:Nat) (ks:List Str) (sel:List Nat) (x:Str):Prop where
 mg:X.mg x=some (.ref (g.cb kk))
 kp:PySem.W.keepIn X.K (.ref (g.cb kk))=true
 kc:kk < g.nc
 df:∀w n,RVs g w n (gG.cdf kk) (g.cdv kk)
 ok:(∀vs h,call.hm kk vs h=.stuck)∨∃j fI fd ps,k=j+1∧Mk X.K (g.cb kk) fI∧FnG false X.prog X.w X.K X.mg X.base j true fI fd ps (spN g call kk)∧ps.length=sel.length+1∧
  ∃ds,Vals (g.cdv kk) ds∧∀(s:Shared) (a:Value) (us ws vs:List Value),X.K.In s.heap→us.length=n→ws.length=ks.length→ZbU sel (us++ws++ds)=some vs→BindsTo s fd ⟨a::us,ks.zip ws⟩ (ps.zip (a::vs))
structure MkOkH (X:Cx) (g:Gi) (gG:G) (call:Cl) (k kk n:Nat) (ks:List Str) (sel:List Nat) (x:Str):Prop where
 mg:X.mg x=some (.ref (g.cb kk))
 kp:PySem.W.keepIn X.K (.ref (g.cb kk))=true
 kc:kk < g.nc
 df:∀w n,RVs g w n (gG.cdf kk) (g.cdv kk)
 ok:(∀vs h,call.make kk vs h=.stuck)∨∃j fI fd ps,k=j+1∧Mk X.K (g.cb kk) fI∧FnG false X.prog X.w X.K X.mg X.base j true fI fd ps (Zog g call kk kk)∧ps.length=sel.length+1∧
  ∃ds,Vals (g.cdv kk) ds∧∀(s:Shared) (a:Value) (us ws vs:List Value),X.K.In s.heap→us.length=n→ws.length=ks.length→ZbU sel (us++ws++ds)=some vs→BindsTo s fd ⟨a::us,ks.zip ws⟩ (ps.zip (a::vs))
section
end
end Rk
/-! Rk.Ha:k in d,k in o (by an own __contains__). -/
namespace Rk
open PySem PySem.Spec PyProof.Rows L2 PySem.Calls
section
end
section
end
end Rk
/-! Rk.Mt:match over written texts; l.index(x). -/
namespace Rk
open PySem PySem.Spec PyProof.Rows L2
section
variable {X:Cx} {g:Gi} {c:Bool} {k:Nat} {W:L2.WX} {e:Expr} {pos p1 p2:Pos} {re:Run Rk.D}
structure MV (X:Cx) (g:Gi) (W:L2.WX) (cs:List MatchCase) (run:List Nat→Run Fl):Prop where
 run:∀(s:List Nat) (t:Tok) (first:Bool) (pins:List (Addr × Obj)) (S:Shared) (σ:L2.St) (H:Hp) (D:Ends),Inv X pins σ H S→tS g W (run s) D σ H→wpAny (model X.prog X.w) X.A (matchCases cs X.env (.str (stt s) t) first) (SP X pins D) X.xe S
theorem mv_nil:MV X g W [] (fun _ env h=>.ok (.nx env) h):=⟨fun _ _ _ _ _ σ H _ I ⟨w,env,h,rr,re,q⟩=>wpAny_matchCases_nil ⟨σ,H,I,q.now rr σ re⟩⟩
theorem ZoI {x:List Nat} {j:Nat} {body:List Stmt} {rest:List MatchCase} {rb:Run Fl} {rr':List Nat→Run Fl} (hb:SVs X g W body rb) (hr:MV X g W rest rr'):
  MV X g W (⟨.MatchValue (.Constant (.str (stt x)) j p1) p2,none,body⟩::rest) (fun s env h=>if s=x then rb env h else rr' s env h):=by
 refine⟨fun s t first pins S σ H D I q=>wpAny_matchCases_cons (wpAny_matchPattern_Value (thn ((pe_str (X:=X) (x:=stt x) (j:=j) (pos:=p1)).run pins S σ H (fun v H1=>v=.str (stt x)∧H1=H) I ⟨rfl,rfl⟩) fun u s1 ⟨v,H1,I1,r1,e1⟩=>?_))⟩
 obtain⟨rfl,rfl⟩:=e1
 obtain⟨t',rfl⟩:=r1
 refine P.eq_str (wpAny_truthy_bool ?_)
 have eb:((stt s).cps.toList == (stt x).cps.toList)=decide (s=x):=by
  show (s == x)=_
  exact Bool.beq_eq_decide_eq s x
 rw[eb]
 by_cases h:s=x
 ·simp only[h,decide_true,if_true]
  simp only[h,if_true] at q
  refine wpAny_assignInOrder_none ?_
  exact hb.run pins s1 σ H1 D I1 q
 ·simp only[h,decide_false,Zau,if_false]
  simp only[h,if_false] at q
  exact hr.run s t false pins s1 σ H1 D I1 q
end
/-! ### l.index(x) -/
section
end
/-! ### list(Zcm(i)); x in a list of the heap; a+b as a list of the heap -/
section
end
end Rk
/-! Rk.Ks:sorted(places,key=lambda at:(rows[at][1],at)). -/
namespace Rk
open PySem PySem.Spec PyProof.Rows L2 PySem.W
section
end
/-! ### the lambda made -/
section
end
/-! ### sorted by keys,plain -/
section
end
end Rk
/-! Rk.Tu:dicts whose keys are tuples,as cells. -/
namespace Rk
open PySem PySem.Spec PyProof.Rows L2
section
variable {g:Gi} {w:Wd} {h:AH} {H:Hp} {n:Nat}
theorem Zdz {p:D × D} {l:List (D × D)} {xs:List (List Key × V)}:RVt g w n (p::l) xs↔∃k x r,xs=(k,x)::r∧Zlc p.1=some k∧RV g w n p.2 x∧RVt g w n l r:=Iff.rfl
theorem RVt.mk {k d:D} {j:List Key} {x:V} {l:List (D × D)} {xs:List (List Key × V)} (h:Zlc k=some j) (a:RV g w n d x) (b:RVt g w n l xs):RVt g w n ((k,d)::l) ((j,x)::xs):=Zdz.mpr ⟨j,x,xs,rfl,h,a,b⟩
theorem RVt.nil:RVt g w n [] []:=rfl
theorem RVt.length:∀{l:List (D × D)} {xs:List (List Key × V)},RVt g w n l xs→xs.length=l.length
 |[],xs,h=>by rw[show xs=[] from h]; rfl
 |p::l,xs,h=>by
  obtain⟨k,x,r,rfl,_,_,h2⟩:=Zdz.mp h
  rw[Zae,Zae,RVt.length h2]
theorem Zey:∀{l m:List D} {ks js:List Key},Ze6 l=some ks→Ze6 m=some js→(dsames l m=true↔ks=js)
 |[],[],_,_,h1,h2=>by cases h1; cases h2; unfold dsames; exact⟨fun _=>rfl,fun _=>rfl⟩
 |[],y::m,ks,js,h1,h2=>by
  cases h1
  unfold Ze6 at h2
  split at h2
  ·cases h2; unfold dsames; exact⟨fun z=>(nomatch z),fun z=>nomatch z⟩
  ·cases h2
 |x::l,[],ks,js,h1,h2=>by
  cases h2
  unfold Ze6 at h1
  split at h1
  ·cases h1; unfold dsames; exact⟨fun z=>(nomatch z),fun z=>nomatch z⟩
  ·cases h1
 |x::l,y::m,ks,js,h1,h2=>by
  unfold Ze6 at h1 h2
  split at h1
  ·rename_i k1 ks1 e1 e2
   split at h2
   ·rename_i k2 ks2 e3 e4
    cases h1
    cases h2
    unfold dsames
    rw[Zaa,Zc2 e1 e3,Zey e2 e4,List.cons.injEq]
   ·cases h2
  ·cases h1
theorem Ze7 {d:D} {j:List Key} (h:Zlc d=some j):∃l,d=.tup l∧Ze6 l=some j:=by
 cases d with
 |tup l=>exact⟨l,rfl,h⟩
 |_=>cases h
theorem Zdd {d e:D} {j k:List Key} (h:Zlc d=some j) (h2:Zlc e=some k):Zbb d e=true↔j=k:=by
 obtain⟨l,rfl,h⟩:=Ze7 h
 obtain⟨m,rfl,h2⟩:=Ze7 h2
 unfold Zbb
 exact Zey h h2
theorem RVt.look:∀{l:List (D × D)} {xs:List (List Key × V)} {k:D} {j:List Key},RVt g w n l xs→Zlc k=some j→match lkD k l with
  |some d=>∃v,valV xs j=some v∧RV g w n d v
  |none=>valV xs j=none
 |[],xs,k,j,h,_=>by rw[show xs=[] from h]; rfl
 |p::l,xs,k,j,h,hk=>by
  obtain⟨i,x,r,rfl,h1,h2,h3⟩:=Zdz.mp h
  unfold lkD
  by_cases c:Zbb p.1 k=true
  ·rw[if_pos c]
   have e:i=j:=(Zdd h1 hk).mp c
   exact⟨x,valV_pos e,h2⟩
  ·rw[if_neg c]
   have e:¬i=j:=fun z=>c ((Zdd h1 hk).mpr z)
   rw[valV_neg (p:=(i,x)) e]
   exact RVt.look h3 hk
theorem RVt.repl:∀{l:List (D × D)} {xs:List (List Key × V)} {k v:D} {j:List Key} {y:V},RVt g w n l xs→Zlc k=some j→RV g w n v y→RVt g w n (repD k v l) (xs.map fun kv=>if kv.1=j then (kv.1,y) else kv)
 |[],xs,k,v,j,y,h,_,_=>by rw[show xs=[] from h]; exact RVt.nil
 |p::l,xs,k,v,j,y,h,hk,hv=>by
  obtain⟨i,x,r,rfl,h1,h2,h3⟩:=Zdz.mp h
  unfold repD
  rw[Zap]
  by_cases c:Zbb p.1 k=true
  ·rw[if_pos c,if_pos (show i=j from (Zdd h1 hk).mp c)]
   exact RVt.mk h1 hv (RVt.repl h3 hk hv)
  ·rw[if_neg c,if_neg (show ¬i=j from fun z=>c ((Zdd h1 hk).mpr z))]
   exact RVt.mk h1 h2 (RVt.repl h3 hk hv)
theorem RVt.snoc:∀{l:List (D × D)} {xs:List (List Key × V)} {k v:D} {j:List Key} {y:V},RVt g w n l xs→Zlc k=some j→RV g w n v y→RVt g w n (l++[(k,v)]) (xs++[(j,y)])
 |[],xs,k,v,j,y,h,hk,hv=>by rw[show xs=[] from h]; exact RVt.mk hk hv RVt.nil
 |p::l,xs,k,v,j,y,h,hk,hv=>by
  obtain⟨i,x,r,rfl,h1,h2,h3⟩:=Zdz.mp h
  exact RVt.mk h1 h2 (RVt.snoc h3 hk hv)
theorem RVt.put {l:List (D × D)} {xs:List (List Key × V)} {k v:D} {j:List Key} {y:V} (h:RVt g w n l xs) (hk:Zlc k=some j) (hv:RV g w n v y):RVt g w n (ZmY k v l) (putK xs j y):=by
 have q:=h.look hk
 unfold ZmY putK
 rw[valV_any]
 cases e:lkD k l with
 |some d=>
  rw[e] at q
  obtain⟨u,hu,_⟩:=q
  rw[hu]
  exact h.repl hk hv
 |none=>
  rw[e] at q
  have q:valV xs j=none:=q
  rw[q]
  exact h.snoc hk hv
end
section
end
section
end
end Rk
/-! Rk.Ra:instances that are cells:attributes,methods,special methods; is True. -/
namespace Rk
open PySem PySem.Spec PyProof.Rows L2
section
variable {g:Gi} {w:Wd} {h:AH} {H:Hp}
theorem ins_at (rr:RR g w h H) {x:D} {v:V} {kk:Nat} {fs:List (Nat × D)} (rv:RV g w h.nx x v) (hi:Zc1 x h=some (kk,fs)):∃oa dx gs,v=.ref oa∧H oa=some (.ins (g.cb kk) dx gs)∧H dx=some (.own oa)∧RVf g w h.nx fs gs∧kk < g.nc:=by
 cases x with
 |ins c l=>
  have hi:some (c,l)=some (kk,fs):=hi
  cases hi
  obtain⟨oa,dx,gs,rfl,f1,f2,f3⟩:=ZjD rv
  exact⟨oa,dx,gs,rfl,rr.sub _ _ f1,rr.sub _ _ f2,f3,Zoq rv⟩
 |ref n=>
  unfold RV at rv
  obtain⟨rfl,hn⟩:=rv
  have c:=rr.cell n hn
  have hi:(match h.cell n with
   | .ins c fs=>some (c,fs)
   |_=>none)=some (kk,fs):=hi
  cases ec:h.cell n with
  |ins c0 l=>
   rw[ec] at c hi
   cases hi
   obtain⟨_,dx,gs,_,e1,e2,r,hc⟩:=c
   exact⟨_,dx,gs,rfl,e1,e2,r,hc⟩
  |_=>rw[ec] at hi; cases hi
 |_=>cases hi
end
section
variable {X:Cx} {g:Gi} {z c:Bool} {k:Nat} {E:SX'} {e a b d:Expr} {pos p1 p2 p3:Pos} {es:List Expr} {ra rb rv:Run D} {rs rk:Run (List D)}
theorem Zo1 {w:Wd} {h:AH} {H:Hp} {pins:List (Addr × Obj)} {σ:L2.St} {s:Shared} (I:Inv X pins σ H s) (rr:RR g w h H) {xd:D} {kk:Nat} {fs:List (Nat × D)} {x:V} (rv:RV g w h.nx xd x) (hi:Zc1 xd h=some (kk,fs)):∃a ox od,x=.ref a∧PySem.W.InstAt s.heap a ox (g.cb kk) od∧ox.data=.plain:=by
 obtain⟨oa,dx,gs,rfl,f1,f2,f3,f4⟩:=ins_at rr rv hi
 obtain⟨ox,od,J,hd⟩:=StX.insC_at I (.inr ⟨dx,gs,f1⟩)
 exact⟨oa,ox,od,rfl,J,hd⟩
/-! ### is True,is False -/
end
end Rk
/-! Rk.Rb:a new list that may be changed. -/
namespace Rk
open PySem PySem.Spec PyProof.Rows L2
section
end
section
end
end Rk
/-! Rk.Rc:[f(x) for x in g(..) if ..],as data or as a cell. -/
namespace Rk
open PySem PySem.Spec PyProof.Rows L2 GenW
section
end
end Rk
/-! Rk.Rd:isinstance(x,T) where x may be a list that is a cell. -/
namespace Rk
open PySem PySem.Spec PyProof.Rows L2
section
end
section
end
end Rk
/-! Rk.Ya:sorted(x),list(d) as cells; min; lists inside lists given up; a dict of the module. -/
namespace Rk
open PySem PySem.Spec PyProof.Rows L2
section
variable {g:Gi} {w:Wd} {h:AH} {H:Hp}
theorem Zme {x:D} {l:List D} {h:AH} (no:∀n m,x=.ref n→h.cell n≠ .lst m) (nd:∀n t m,x=.ref n→h.cell n≠ .dct t m):ZaR (x::l) h=(x::(ZaR l h).1,(ZaR l h).2):=by
 cases x with
 |ref n=>
  have e:ZaR (.ref n::l) h=match h.cell n with
   | .lst m=>(match ZaR l (h.put n .no) with
    |(r,h')=>(.lst m::r,h'))
   | .dct t m=>(match ZaR l (h.put n .no) with
    |(r,h')=>(.dct t m::r,h'))
   |_=>(match ZaR l h with
    |(r,h')=>(.ref n::r,h')):=rfl
  rw[e]
  cases ec:h.cell n with
  |lst m=>exact absurd ec (no n m rfl)
  |dct t m=>exact absurd ec (nd n t m rfl)
  |_=>rfl
 |_=>rfl
theorem Zmc {n:Nat} {m l:List D} {h:AH} (e:h.cell n=.lst m):ZaR (.ref n::l) h=(.lst m::(ZaR l (h.put n .no)).1,(ZaR l (h.put n .no)).2):=by
 have e2:ZaR (.ref n::l) h=match h.cell n with
   | .lst m=>(match ZaR l (h.put n .no) with
    |(r,h')=>(.lst m::r,h'))
   | .dct t m=>(match ZaR l (h.put n .no) with
    |(r,h')=>(.dct t m::r,h'))
   |_=>(match ZaR l h with
    |(r,h')=>(.ref n::r,h')):=rfl
 rw[e2,e]
theorem Zmd {n:Nat} {t:Bool} {m:List (D × D)} {l:List D} {h:AH} (e:h.cell n=.dct t m):ZaR (.ref n::l) h=(.dct t m::(ZaR l (h.put n .no)).1,(ZaR l (h.put n .no)).2):=by
 have e2:ZaR (.ref n::l) h=match h.cell n with
   | .lst m=>(match ZaR l (h.put n .no) with
    |(r,h')=>(.lst m::r,h'))
   | .dct t m=>(match ZaR l (h.put n .no) with
    |(r,h')=>(.dct t m::r,h'))
   |_=>(match ZaR l h with
    |(r,h')=>(.ref n::r,h')):=rfl
 rw[e2,e]
def LockJ (J:Hp→Prop):Prop:=∀(H:Hp) (a:Addr) (xs:List (Key × V)),J H→H a=some (.dK xs)→∃od,J (upd H a (.frz od (.dK xs)))
theorem RR.frzI {J:Hp→Prop} (hJ:LockJ J):∀(l:List D) (w:Wd) (h:AH) (H:Hp) (xs:List V),J H→RR g w h H→RVs g w h.nx l xs→∃w' H',J H'∧RR g w' (ZaR l h).2 H'∧Ext w h.nx w' (ZaR l h).2.nx∧RVs g w' (ZaR l h).2.nx (ZaR l h).1 xs
 |[],w,h,H,xs,I,rr,rv=>⟨w,H,I,rr,Ext.refl _ _,rv⟩
 |x::l,w,h,H,xs,I,rr,rv=>by
  obtain⟨v,r,rfl,rv1,rv2⟩:=ZaQ.mp rv
  by_cases c:∃n m,x=.ref n∧h.cell n=.lst m
  ·obtain⟨n,m,rfl,ec⟩:=c
   obtain⟨rfl,hn⟩:=Zb0.mp rv1
   obtain⟨ys,q1,r1⟩:=ZbF rr hn ec
   obtain⟨rr2,x2⟩:=rr.still hn ec q1
   obtain⟨w3,H3,I3,rr3,x3,r3⟩:=RR.frzI hJ l _ _ H r I rr2 (rv2.ext x2)
   rw[Zmc ec]
   exact⟨w3,H3,I3,rr3,x2.trans x3,RVs.mk ((Zbd.mpr ⟨_,ys,rfl,upd_same,r1.ext x2⟩:RV g _ _ (.lst m) _).ext x3 _ _) r3⟩
  ·by_cases d:∃n t m,x=.ref n∧h.cell n=.dct t m
   ·obtain⟨n,t,m,rfl,ec⟩:=d
    obtain⟨rfl,hn⟩:=Zb0.mp rv1
    obtain⟨rfl,⟨f,zz⟩,ys,hy,r1⟩:=rr.dcell hn ec
    obtain⟨od,I2⟩:=hJ H _ _ I hy
    obtain⟨rr2,x2⟩:=rr.stillD hn ec hy od
    obtain⟨w3,H3,I3,rr3,x3,r3⟩:=RR.frzI hJ l _ _ _ r I2 rr2 (rv2.ext x2)
    rw[Zmd ec]
    exact⟨w3,H3,I3,rr3,x2.trans x3,RVs.mk ((ZjE.mpr ⟨rfl,_,ys,rfl,⟨od,upd_same⟩,r1.ext x2⟩:RV g _ _ (.dct false m) _).ext x3 _ _) r3⟩
   ·obtain⟨w3,H3,I3,rr3,x3,r3⟩:=RR.frzI hJ l w h H r I rr rv2
    rw[Zme (fun n m e1 e2=>c ⟨n,m,e1,e2⟩) fun n t m e1 e2=>d ⟨n,t,m,e1,e2⟩]
    exact⟨w3,H3,I3,rr3,x3,RVs.mk (rv1.ext x3 _ _) r3⟩
theorem RR.fri {J:Hp→Prop} (hJ:LockJ J) {x:D} {v:V} {r:D} {h':AH} (I:J H) (rr:RR g w h H) (rv:RV g w h.nx x v) (e:ZfL x h=.ok r h'):∃w' H',J H'∧RR g w' h' H'∧Ext w h.nx w' h'.nx∧RV g w' h'.nx r v:=by
 cases x with
 |lst l=>
  obtain⟨a,xs,rfl,q1,q2⟩:=Zbd.mp rv
  obtain⟨w3,H3,I3,rr3,x3,r3⟩:=RR.frzI hJ l w h H xs I rr q2
  have e:Res.ok (D.lst (ZaR l h).1) (ZaR l h).2=.ok r h':=e
  cases e
  exact⟨w3,H3,I3,rr3,x3,Zbd.mpr ⟨a,xs,rfl,x3.F _ _ q1,r3⟩⟩
 |ref n=>
  obtain⟨rfl,hn⟩:=Zb0.mp rv
  unfold ZfL at e
  dsimp only at e
  cases ec:h.cell n with
  |lst l=>
   rw[ec] at e
   obtain⟨xs,q1,r1⟩:=ZbF rr hn ec
   obtain⟨rr2,x2⟩:=rr.still hn ec q1
   obtain⟨w3,H3,I3,rr3,x3,r3⟩:=RR.frzI hJ l _ _ H xs I rr2 (r1.ext x2)
   have e:Res.ok (D.lst (ZaR l (h.put n .no)).1) (ZaR l (h.put n .no)).2=.ok r h':=e
   cases e
   exact⟨w3,H3,I3,rr3,x2.trans x3,Zbd.mpr ⟨_,xs,rfl,x3.F _ _ upd_same,r3⟩⟩
  |_=>rw[ec] at e; cases e
 |_=>cases e
theorem Zkq (x:D) (h:AH):(∃r h',ZfL x h=.ok r h')∨ZfL x h=.stuck:=by
 cases x with
 |lst l=>exact .inl ⟨_,_,rfl⟩
 |ref n=>
  unfold ZfL
  dsimp only
  cases h.cell n with
  |lst l=>exact .inl ⟨_,_,rfl⟩
  |_=>exact .inr rfl
 |_=>exact .inr rfl
theorem Zou {E:XK} {Q:VK} {l:List D} {ys:List V} {p:Addr} (q:Za4 g w h.nx (.ok (.ref h.nx) (h.new (.lst l))) E (PV g Q)) (rr:RR g w h H) (hp:H p=none) (r:RVs g w h.nx l ys):Q (.ref p) (upd H p (.lst ys)):=by
 obtain⟨r2,x2⟩:=rr.alloc hp r
 exact q _ _ x2 r2 _ (Zb0.mpr ⟨by show _=V.ref (if h.nx=h.nx then p else _); rw[if_pos rfl],Zbc _⟩)
end
section
variable {X:Cx} {g:Gi} {z c:Bool} {k:Nat} {E:SX'} {e a b d o f:Expr} {pos p1 p2 p3:Pos} {es:List Expr} {ra rb rd:Run D}
theorem ev_hst {T:Bool} {rs:Run (List D)} (G:GX g c k X) (hc:c=true) (hg:Gl X "sorted") (hm:X.mg "sorted"=none) (hn:nst e=true) (he:EVS X g E e T rs):EV X g E (.Call (.Name "sorted" p1) [e] [] pos) (fun env h=>(rs env h).bind fun l h=>Zmw (ZeM l h)):=by
 refine EV.of G ((pe_callB (ZnA G hc) hg hm (by first |rfl |decide+kernel) (pa_cons he pa_nil (Zbw hn _ X.env)) (by decide) (by decide) (Zbw hn _ X.env)).imp fun σ H Q ⟨w,env,h,rr,re,q⟩=>?_) fun _=>rfl
 refine⟨w,env,h,rr,re,q.bind.mono fun w1 h1 H1 ds ext rr1 q1 p sc L sp _=>?_⟩
 unfold ZeM at q1
 by_cases ok:Zeg ds=true
 ·rw[if_pos ok] at q1
  exact⟨w1,h1,p,sc,L,ds,rfl,rr1,sp,ok,fun p' ys hp ry=>Zou q1 rr1 hp ry⟩
 ·rw[if_neg ok] at q1; exact q1.elim
theorem ZnY {W:L2.WX} {rest:List Stmt} {rr':Run Fl} {i:Nat} (h2:SVs X g W rest rr'):SVs X g W rest (fun env h=>((ldV env i h).bindX env fun x h=>(ZfL x h).bindX env fun v h=>.ok (.nx (env.set i (.v v))) h).bind fun f h=>match f with
  | .nx e=>rr' e h
  |f=>.ok f h):=by
 refine⟨fun pins s σ H D I ⟨w,env,h,rr,re,q⟩=>?_⟩
 have q:Za4 g w h.nx (((ldV env i h).bindX env fun x h=>(ZfL x h).bindX env fun v h=>.ok (.nx (env.set i (.v v))) h).bind fun f h=>match f with
  | .nx e=>rr' e h
  |f=>.ok f h) (fun _ _ _=>False) (PF g W D):=q
 unfold ldV at q
 cases ei:env[i]? with
 |none=>rw[ei] at q; exact q.elim
 |some sl=>
  rw[ei] at q
  cases sl with
  |v x=>
   obtain⟨v,hv,rv⟩:=re.at_ i x ei
   rw[bindX_ok] at q
   rcases Zkq x h with⟨r,h',er⟩ |er
   ·rw[er] at q
    obtain⟨w',H2,I2,rr2,x2,rv2⟩:=RR.fri (J:=fun H=>L2.Inv X pins σ H s) (fun H a xs I hy=>I.lock hy True.intro) I rr rv er
    exact h2.run pins s σ H2 D I2 ⟨_,_,_,rr2,(re.ext x2).reset hv rv2,q.from x2⟩
   ·rw[er] at q; exact q.elim
  |_=>exact q.elim
/-! ### a dict of the module -/
def kdV (l:List (D × D)) (es:Array DictEntry):Prop:=∀s,match lkD (.str s) l with
 |none=>findBy Value.isStrOf es (stt s)=none
 |some (.int i)=>∃t,findBy Value.isStrOf es (stt s)=some (.int i t)
 |_=>False
structure KgOk (X:Cx) (x:Str) (l:List (D × D)):Prop where
 ex:∃a es n,X.mg x=some (.ref a)∧X.K.lookup a=some ⟨.type "dict",none,.dict es n,#[]⟩∧PySem.W.KeysLit X.w.params es.toList∧(a == sysModules)=false∧kdV l es
end
end Rk
/-! Rk.Yb:stores at instances:o.f+=e,by a property,several at once. -/
namespace Rk
open PySem PySem.Spec PyProof.Rows L2
section
end
end Rk
/-! Rk.Yc:with C(..):body,where the body may raise. -/
namespace Rk
open PySem PySem.Spec PyProof.Rows L2 PySem.W
section
end
/-! ### a def called while an exception is handled -/
structure FnY (P:Program) (w:World) (K:Frag) (mg:Str→Option Value) (base:Heap) (k:Nat) (f:Addr) (fd:FuncData) (ps:List Str) (sp:List V→Hp→VK→Prop):Prop where
 run:∀(A:Around) (outer:List PySem.Env) (s:Shared) (H:Hp) (p:Addr × Obj) (us:List Value) (vs:List V) (Q:VK),Zcf k A→L2H.PinOk outer H s p→Env0 P w K mg base A outer s H→vs.length=ps.length→BindsTo s fd ⟨us,[]⟩ (ps.zip us)→Vals vs us→sp vs H Q→
  codeAny (model P w) A (.call (.ref f) ⟨us,[]⟩) (CR (CXZ false P w) outer P w H s Q (fun _ _ _=>False)) s
theorem fny_of {P:Program} {w:World} {K:Frag} {mg:Str→Option Value} {base:Heap} {k:Nat} {x qual:Str} {params:Arguments} {body:List Stmt} {scope:Scope} {f:Addr} {fd:FuncData} {N ps:List Str} {sp:List V→Hp→VK→Prop} (F:FunD K x qual params body scope [] [] f fd) (S:FnScope N ps scope)
  (hbody:∀(cdv:Value) (A:Around) (outer:List PySem.Env) (s:Shared) (H:Hp) (p:Addr × Obj) (vs:List V) (Q:VK),Zcf k (A.deeper (envOfC qual scope s.heap.objs.size f cdv))→vs.length=ps.length→sp vs H Q→
   ∃t,PSs (L2H.cxH (CXZ false P w) P w K mg base N qual scope f cdv A outer s H (fun _ _ _=>False) p) body t∧t {nx:=fun _ H'=>Q .non H',rt:=Q} (L2.start N vs) H):FnY P w K mg base (k+1) f fd ps sp:=by
 obtain⟨oc,od,dV,kV,doc,pm,an,cdv,ct,osl,rfl,lk,hcd,_,_⟩:=F.ex
 constructor
 intro A outer s H p us vs Q room hpin e0 hl hb r hsp
 have KX:K.In s.heap:=e0.mod.kin.keeps fun b o e=>(e0.bs b o e).1
 have lim:s.heap.NoLimit:=e0.mod.nolimit.keeps fun b o e=>(e0.bs b o e).1
 have hkind:∀y∈ps.zip us,scope.names.lookup y.1=some .local∨(scope.names.lookup y.1=some .cell∧((cellsFrom (s.heap.objs.size+1) scope.names []).lookup y.1).isSome=true):=fun⟨n,v⟩ hy=>by
  rcases S.par n (ZpV hy).1 with q |q
  ·exact .inl q
  ·exact .inr ⟨q,PySem.W.cellsFrom_some _ _ _ (.inl q)⟩
 have hdep:A.depth < recursionLimit:=by have:=room.dp; omega
 refine codeAny_call_function hdep (KX _ _ lk) rfl S.co S.gen rfl (PySem.W.codeRec_of KX hcd) (hb _ _ _ _ ?_)
 refine wpAny_newFunctionEnv_cells S.kind hkind fun env he s1 x=>?_
 subst he
 refine⟨lim.keeps x.toInCall.keep,codeAny_func ?_⟩
 obtain⟨t,ht,hq⟩:=hbody cdv A outer s H p vs Q (room.deeper _) hl hsp
 have I:Inv (L2H.cxH (CXZ false P w) P w K mg base N qual scope f cdv A outer s H (fun _ _ _=>False) p) [] (L2.start N vs) H s1:=L2H.inv_startH S hpin e0 hl r x
 refine wpAny_mono (ht.run [] s1 (L2.start N vs) H _ I hq) (fun fl s' hs=>?_) fun e s' hs=>hs
 have fin:∀{σ':L2.St} {H':Hp} {v:V} {u:Value},Inv (L2H.cxH (CXZ false P w) P w K mg base N qual scope f cdv A outer s H (fun _ _ _=>False) p) [] σ' H' s'→RelV v u→Q v H'→CE outer P w H s Q u s':=
  fun {σ' H' v u} J rv q=>⟨v,H',J.os,J.bare,J.base,J.hok,rv,q⟩
 cases fl with
 |ret u=>
  obtain⟨v,σ',H',J,rv,q⟩:=hs
  exact fin J rv q
 |next=>
  obtain⟨σ',H',J,q⟩:=hs
  exact fin (v:=V.non) (u:=Value.none) J rfl q
 |brk=>
  obtain⟨_,_,_,q⟩:=hs
  exact q.elim
 |cont=>
  obtain⟨_,_,_,q⟩:=hs
  exact q.elim
def spY (g:Gi) (run:D→AH→Res D):List V→Hp→VK→Prop:=fun vs H Q=>∃w m h x a b c,vs=[x,a,b,c]∧RR g w h H∧RV g w h.nx m x∧Za4 g w h.nx (run m h) (fun _ _ _=>False) (PV g Q)
theorem RX.ext {g:Gi} {w w':Wd} {n n':Nat} {x:D} {cls:Value} {d:Option Addr} {H H':Hp} (h:RX g w n x cls d H) (e:Ext w n w' n'):RX g w' n' x cls d H':=by
 obtain⟨c,fs,dd,gs,h1,h2,h3,h4,h5,h6⟩:=h
 exact⟨c,fs,dd,gs,h1,h2,h3,e.F _ _ h4,RVf.ext e _ _ h5,h6⟩
structure WthOk (X:Cx) (g:Gi) (gG:G) (call:Cl) (k:Nat):Prop where
 en:ZnO X g gG call k .enter "__enter__" 1
 exo:ZnO X g gG call k .exit "__exit__" 4
 exh:∀kk f,gG.dmt kk .exit=some f→(∀m h,call.ex f m h=.stuck)∨∃n,k=n+1∧FnY X.prog X.w X.K X.mg X.base n (g.fa f) (g.fd f) (g.fps f) (spY g (call.ex f))
section
end
end Rk
/-! Rk.Yd:a store by a property's setter; a method with star parameters; an instance in a cell called. -/
namespace Rk
open PySem PySem.Spec PyProof.Rows L2 PySem.W
section
variable {X:Cx} {g:Gi} {gG:G} {call':Cl} {z c:Bool} {k:Nat} {W:L2.WX} {E:SX'} {e a b d o:Expr} {pos p1 p2 p3:Pos} {es:List Expr} {re ro ra:Run D} {rs rk:Run (List D)}
structure ZpP (X:Cx) (g:Gi) (gG:G) (call:Cl) (k i:Nat):Prop where
 ok:∀kk p,gG.pst kk i=some p→Cls X.K (g.cb kk)∧(∃pa v rest,takerIn X.K (g.cb kk) (g.an i)=some (some (.ref pa))∧typeIn X.K (.ref pa)=some (.type "property")∧recIn X.K pa "property"=some (v::.ref (g.fa p)::rest))∧ZmI X g call k p∧KB g p 2 [] [0,1]∧(g.fps p).length=2
theorem Zjv {kk p oa n:Nat} {i:Nat} {pins:List (Addr × Obj)} {σ:L2.St} {H:Hp} {s:Shared} {Q:Hp→Prop} {EE:XK} {W0:L2.WX} {vV:V} {u:Value} {ox:Obj} {od:Option Obj} {call':Cl} (G:GX g true k X) (tk:Takes X W0) (hE:∀cls d H',EE cls d H'→W0 cls d σ H') (I:Inv X pins σ H s)
  (J:InstAt s.heap oa ox (g.cb kk) od) (cl:Cls X.K (g.cb kk)) (pr:∃pa v rest,takerIn X.K (g.cb kk) (g.an i)=some (some (.ref pa))∧typeIn X.K (.ref pa)=some (.type "property")∧recIn X.K pa "property"=some (v::.ref (g.fa p)::rest))
  (F:FnG false X.prog X.w X.K X.mg X.base n true (g.fa p) (g.fd p) (g.fps p) (spP g call' p)) (hk:k=n+1) (hb:KB g p 2 [] [0,1]) (hl:(g.fps p).length=2) (ru:RelV vV u)
  (h:spP g call' p [.ref oa,vV] H (fun _ H'=>Q H') EE):
  wpAny (model X.prog X.w) X.A (setAttr (.ref oa) (g.an i) u) (fun _ s'=>∃H',Inv X pins σ H' s'∧Q H') X.xe s:=by
 subst hk
 obtain⟨pa,v,rest,t1,t2,t3⟩:=pr
 have I1:=I.tok (s.toks+1)
 have room:Zcf n X.A.in1.in1:=ZjI G.room
 refine set_plain I.kIn J cl.sa (osa_descr (s:={s with toks:=s.toks+1}) KF.slot_pset I.kIn J cl.po t1 t2 (prop_set (s:={s with toks:=s.toks+1}) I.kIn t3 ?_))
 refine codeAny_mono (F.run X.A.in1.in1 X.stack {s with toks:=s.toks+1} H ⟨[.ref oa,u],[]⟩ [.ref oa,u] [.ref oa,vV] (fun _ H'=>Q H') EE room (fun _=>I.ok.hd (G.calm rfl)) I1.env0.in1.in1 (by rw[hl]; rfl) (kb_two hb (G.K ▸ I1.kIn)) (.cons rfl (.cons ru .nil)) h) fun r s' hq=>?_
 cases r with
 |error er=>exact tk er s' (L2.XE.of_call I1 (fun cls d H' h=>hE cls d H' h) hq)
 |ok fl=>
  cases fl with
  |ret v=>
   obtain⟨_,H',I2,_,q⟩:=I1.after hq
   exact⟨H',I2,q⟩
  |next=>exact False.elim hq
  |brk=>exact False.elim hq
  |cont=>exact False.elim hq
def stpR (gG:G) (call:Cl) (f:Nat) (re ro:Run D):Run Fl:=fun env h=>(re env h).bindX env fun v h=>(ro env h).bindX env fun x h=>match Zc1 x h with
  |some (k,_)=>(match gG.pst k f with
   |some p=>(call.pr p [x,v] h).bindX env fun _ h=>.ok (.nx env) h
   |none=>.stuck)
  |none=>.stuck
theorem sv_stp {i:Nat} (G:GX g true k X) (tk:Takes X W) (A:ZpP X g gG call' k i) (he:EV X g (xw W) e re) (ho:EV X g (xw W) o ro) (hn:ncp e=true):
  SV X g W (.Assign [.Attribute o (g.an i) p1] e pos) (stpR gG call' i re ro):=by
 refine⟨fun pins s σ H D I ⟨w,env,h,rr,renv,q⟩=>?_⟩
 unfold stpR at q
 refine plainObj_wpAny_Assign_Attribute (thn (he.pe.run pins s σ H (fun v H1=>∃w1 h1 vd,RR g w1 h1 H1∧RE g w1 h1.nx env σ∧RV g w1 h1.nx vd v∧Za4 g w1 h1.nx ((ro env h1).bindX env fun x h=>match Zc1 x h with
  |some (k,_)=>(match gG.pst k i with
   |some p=>(call'.pr p [x,vd] h).bindX env fun _ h=>.ok (.nx env) h
   |none=>.stuck)
  |none=>.stuck) NoX (PF g W D)) I (bX.step q rr renv fun w1 h1 H1 x v ext rr1 re1 rv q1=>⟨w1,h1,x,rr1,re1,rv,q1⟩)) fun u s1 ⟨v,H1,I1,ru,w1,h1,vd,rr1,re1,rv,q1⟩=>
  thn (ho.pe.run pins s1 σ H1 (fun xv H2=>∃w2 h2 xd,RR g w2 h2 H2∧RE g w2 h2.nx env σ∧RV g w2 h2.nx vd v∧RV g w2 h2.nx xd xv∧Za4 g w2 h2.nx (match Zc1 xd h2 with
  |some (k,_)=>(match gG.pst k i with
   |some p=>(call'.pr p [xd,vd] h2).bindX env fun _ h=>.ok (.nx env) h
   |none=>.stuck)
  |none=>.stuck) NoX (PF g W D)) I1 (bX.step q1 rr1 re1 fun w2 h2 H2 x u2 ext2 rr2 re2 rv2 q2=>⟨w2,h2,x,rr2,re2,rv.ext ext2 _ _,rv2,q2⟩)) fun ov s2 ⟨xv,H2,I2,rx,w2,h2,xd,rr2,re2,rvv,rvx,q2⟩=>?_) (Zgq hn _ _ _)
 cases hi:Zc1 xd h2 with
 |none=>rw[hi] at q2; exact q2.elim
 |some p0=>
  obtain⟨kk,fs⟩:=p0
  rw[hi] at q2
  dsimp only at q2
  cases hp:gG.pst kk i with
  |none=>rw[hp] at q2; exact q2.elim
  |some p=>
   rw[hp] at q2
   dsimp only at q2
   obtain⟨oa,ox,od,rfl,J,hd⟩:=Zo1 I2 rr2 rvx hi
   obtain rfl:ov=Value.ref oa:=rx
   obtain⟨cl,pr,hF,hb,hl⟩:=A.ok kk p hp
   rcases hF with hF |⟨n,hk,F⟩
   ·rw[hF] at q2; exact q2.elim
   ·refine wpAny_mono (Zjv (Q:=fun H'=>D.nx σ H') (EE:=fun cls d H=>W cls d σ H) (vV:=v) G tk (fun _ _ _ h=>h) I2 J cl pr F hk hb hl ru ⟨w2,_,h2,rr2,RVs.mk rvx (RVs.mk rvv RVs.nil),?_⟩) (fun _ s' ⟨H',I',q⟩=>⟨σ,H',I',q⟩) fun _ _ z=>z
    exact (bX.to q2 re2).mono fun w3 h3 H3 _ ext rr3 q3 _ _=>q3.now rr3 σ (re2.ext ext)
structure MsOk (X:Cx) (g:Gi) (gG:G) (call:Cl) (k m kf:Nat) (mn:Str):Prop where
 no:∀i,i < g.nn→g.an i≠mn
 ok:∀kk f,gG.mtd kk m=some f→Cls X.K (g.cb kk)∧Meth X.K (g.cb kk) mn (g.fa f)∧FnG false X.prog X.w X.K X.mg X.base k true (g.fa f) (g.fd f) (g.fps f) (spF g call true f)∧VarB (g.fd f) (g.fps f) (kf+1)∧(g.fps f).length=kf+2
end
end Rk
/-! Rk.L:the text is the evaluator's program:a check and its meaning. -/
namespace Rk
open PySem PySem.Spec PyProof.Rows L2
structure Tb where
 fnm:List (Str × Nat)
 gnm:List (Str × Nat)
 bnm:List Str
 kbs:List (Nat × Nat × List Str × List Nat)
 c:Bool
 xnm:List (Str × Nat)
 ann:List Str
 wx:Str
 wsx:Str
 lamB:Nat→Zd6→Bool
 clm:List (Str × Nat)
 mnm:List Str
 kbm:List (Nat × Nat × List Str × List Nat)
 kbc:List (Nat × Nat × List Str × List Nat)
 kst:List (Nat × Nat × Nat × List Str × List Nat)
 kva:List (Nat × Nat)
 cva:List Nat
 kca:List (Nat × List Str × List Nat)
 fls:List Nat
 cns:List (Nat × Nat)
 khm:List Nat
 npr:List Nat
 kmv:List (Nat × Nat)
 psl:List Nat
 kgn:List (Str × Nat)
 wt:Bool
 knm:List Nat
structure Nm where
 ns:List (Str × NameKind)
 lam:Bool
 gen:Bool
 kl:Bool
def glb' (nm:Nm) (x:Str):Bool:=decide (nm.ns.lookup x=some .globalImplicit)&& !(x == ("__debug__":Str))
def visb (nm:Nm) (x:Str):Bool:=(decide (nm.ns.lookup x=some .local)||decide (nm.ns.lookup x=some .cell)||decide (nm.ns.lookup x=some .free))&& !(x == ("__debug__":Str))&& !(x == ("__classdict__":Str))
def Zm4 (nm:Nm) (x:Str):Bool:=decide (nm.ns.lookup x=some .local)||decide (nm.ns.lookup x=some .cell)
def blt (tb:Tb) (nm:Nm) (x:Str):Bool:=glb' nm x&&tb.bnm.contains x
def Zk9 (N:List Str) (i:Nat) (x:Str):Bool:=decide (N[i]? =some x)
def tnC (N:List Str) (nm:Nm):List Nat→List Expr→Bool
 |[],[]=>true
 |i::is,.Name x _::es=>Zk9 N i x&&Zm4 nm x&&tnC N nm is es
 |_,_=>false
def tgC (N:List Str) (nm:Nm) (tg:List Nat) (e:Expr):Bool:=match e with
 | .Name x _=>(match tg with
  |[i]=>Zk9 N i x&&Zm4 nm x
  |_=>false)
 | .Tuple es _ _=>decide (2≤tg.length)&&tnC N nm tg es
 |_=>false
def ownOf (N:List Str) (tg:List Nat):List (Str × Nat):=tg.filterMap fun i=>N[i]?.map (·,i)
def relN (nm:Nm) (names:List (Str × NameKind)):Nm:=⟨names.map fun (n,k)=>if (k == .free&&ScopeKind.function == .function&&nm.ns.lookup n == some .cell) then (n,.cell) else (n,k),false,false,false⟩
section
variable (tb:Tb) (N:List Str)
mutual
def chE:E→Nm→Expr→Bool
 | .var i,nm,e=>match e with
  | .Name x _=>Zk9 N i x&&visb nm x
  |_=>false
 | .cst d,_,e=>match e with
  | .Constant cc _ _=>(match cstOf cc with
   |some d'=>Zbb d' d
   |none=>false)
  |_=>false
 | .glb ..,_,_=>false
 | .bin o a b,nm,e=>match e with
  | .BinOp a' o' b' _=>decide (o'=o)&&chE a nm a'&&chE b nm b'
  |_=>false
 | .neg ..,_,_=>false
 | .not a,nm,e=>match e with
  | .UnaryOp .Not a' _=>chE a nm a'||(match a with
   | .dun .bool o .nil=>tb.c&&isCl a'&&chE o nm a'
   |_=>false)
  |_=>false
 | .and es,nm,e=>match e with
  | .BoolOp .And l _=> !l.isEmpty&&chEs es nm l
  |_=>false
 | .or es,nm,e=>match e with
  | .BoolOp .Or l _=> !l.isEmpty&&chEs es nm l
  |_=>false
 | .ife t a b,nm,e=>match e with
  | .IfExp t' a' b' _=>chE t nm t'&&chE a nm a'&&chE b nm b'
  |_=>false
 | .cmp o a b,nm,e=>match e with
  | .Compare a' [o'] [b'] _=>decide (o'=o)&&chE a nm a'&&chE b nm b'&&ZjT b'
  |_=>false
 | .cmp2 ..,_,_=>false
 | .isn ..,_,_=>false
 | .isnn ..,_,_=>false
 | .tup es,nm,e=>match e with
  | .Tuple l _ _=>ZdK l&&chEs es nm l
  |_=>false
 | .lst es,nm,e=>match e with
  | .List l _=>ZdK l&&chEs es nm l
  |_=>false
 | .hls es,nm,e=>match e with
  | .List l _=>ZdK l&&chEs es nm l
  |_=>false
 | .tupf ..,_,_=>false
 | .lstf ..,_,_=>false
 | .idx a i,nm,e=>match e with
  | .Subscript a' i' _=>nsl i'&&chE a nm a'&&chE i nm i'
  |_=>false
 | .slc a lo hi,nm,e=>match e with
  | .Subscript a' (.Slice l' h' none _) _=>chE a nm a'&&chOp lo nm l'&&chOp hi nm h'
  |_=>false
 | .cal f args kws sel,nm,e=>match e with
  | .Call (.Name x _) l ks _=>tb.c&&decide (tb.fnm.lookup x=some f)&&glb' nm x&&ZdK l&&chEs args nm l&&(match kwn ks with
   |some kn=>tb.kbs.contains (f,l.length,kn,sel)&&chKs kws nm ks
   |none=>false)
  |_=>false
 | .cald ..,_,_=>false
 | .bi b a,nm,e=>match e with
  | .Call (.Name x _) [a'] [] _=>tb.c&&decide (x=Zhp b)&&blt tb nm x&&nst a'&&chE a nm a'
  |_=>false
 | .isi ..,_,_=>false
 | .mt m o a,nm,e=>match e with
  | .Call (.Attribute o' at' p3) [a'] [] pos=>decide (at'=mname m)&&nst a'&&Zdh o'&&decide (p3.endLine=pos.line)&&chE o nm o'&&chE a nm a'
  |_=>false
 | .mm m o args,nm,e=>match e with
  | .Call (.Attribute o' at' p3) (a'::l) [] pos=>decide (at'=mmN m)&&ZdK (a'::l)&&decide ((a'::l).length < 30)&&Zdh o'&&decide (p3.endLine=pos.line)&&chE o nm o'&&chEs args nm (a'::l)
  |_=>false
 | .same i j,nm,e=>match e with
  | .BoolOp .And [.Compare (.Name x1 _) [.Eq] [.Name y1 _] _,.Compare (.Call (.Name r1 _) [.Name x2 _] [] _) [.Eq] [.Call (.Name r2 _) [.Name y2 _] [] _] _] _=>
   Zk9 N i x1&&Zk9 N j y1&&visb nm x1&&visb nm y1&&decide (x2=x1)&&decide (y2=y1)&&decide (r1=("repr":Str))&&decide (r2=("repr":Str))&&blt tb nm r1
  |_=>false
 | .cmpr elt tg it ifs,nm,e=>match e with
  | .ListComp elt' [⟨tg',it',ifs',0⟩] sc _=>tb.c&&blkC N ⟨.function,nm.ns,false,false,[]⟩ sc (ownOf N tg)&&tgC N ⟨sc.names,false,false,false⟩ tg tg'&&ZjT it'&&chIt it nm tg' it'&&decide (ifs'.length≤1)&&chEs ifs (relN nm sc.names) ifs'&&chE elt (relN nm sc.names) elt'
  |_=>false
 | .cmprg ..,_,_=>false
 | .cmpr2 ..,_,_=>false
 | .xfld ..,_,_=>false
 | .xcal _ _,_,_=>false
 | .why ..,_,_=>false
 | .whysl ..,_,_=>false
 | .whysv ..,_,_=>false
 | .cav ..,_,_=>false
 | .fld ..,_,_=>false
 | .con ..,_,_=>false
 | .mk ..,_,_=>false
 | .mkv ..,_,_=>false
 | .mth ..,_,_=>false
 | .stt ..,_,_=>false
 | .isc ..,_,_=>false
 | .dun ..,_,_=>false
 | .fst ..,_,_=>false
 | .cao ..,_,_=>false
 | .isb ..,_,_=>false
 | .isr ..,_,_=>false
 | .hcm ..,_,_=>false
 | .cgi ..,_,_=>false
 | .rfl ..,_,_=>false
 | .rmt ..,_,_=>false
 | .rmv ..,_,_=>false
 | .rdu ..,_,_=>false
 | .rin ..,_,_=>false
 | .ric ..,_,_=>false
 | .hsr ..,_,_=>false
 | .hdl ..,_,_=>false
 | .mn2 ..,_,_=>false
 | .fri ..,_,_=>false
 | .mkt ..,_,_=>false
 | .cgm ..,_,_=>false
 | .lzg ..,_,_=>false
 | .rca ..,_,_=>false
 | .hnw ..,_,_=>false
 | .kgt ..,_,_=>false
 | .pad ..,_,_=>false
 | .hlst ..,_,_=>false
 | .frz a,nm,e=>frzE e&&chE a nm e
 | .clr ..,_,_=>false
 | .dsp ..,_,_=>false
 | .dst ..,_,_=>false
 | .dsk ..,_,_=>false
 | .dcm ..,_,_=>false
 | .dcp ..,_,_=>false
 | .dpr ..,_,_=>false
 | .dls ..,_,_=>false
 | .dln ..,_,_=>false
 | .dix ..,_,_=>false
 | .dget ..,_,_=>false
 | .ind ..,_,_=>false
 | .tds ..,_,_=>false
 | .tix ..,_,_=>false
 | .tgt ..,_,_=>false
 | .lsg ..,_,_=>false
 | .tin ..,_,_=>false
 | .srd ..,_,_=>false
 | .srk ..,_,_=>false
 | .lrg ..,_,_=>false
 | .inr ..,_,_=>false
 | .had ..,_,_=>false
 | .mx2 ..,_,_=>false
 | .lix ..,_,_=>false
 | .hmk ..,_,_=>false
 | .srt s,nm,e=>match e with
  | .Call (.Name x _) [e'] [] _=>tb.c&&decide (x=("sorted":Str))&&blt tb nm x&&nst e'&&chSE s nm e'
  |_=>false
 | .hst s,nm,e=>match e with
  | .Call (.Name x _) [e'] [] _=>tb.c&&decide (x=("sorted":Str))&&blt tb nm x&&nst e'&&chSE s nm e'
  |_=>false
 | .lse ..,_,_=>false
def chSE:SE→Nm→Expr→Bool
 | .of a,nm,e=>match e with
  | .Call (.Name x _) [a'] [] _=>tb.c&&decide (x=("set":Str))&&blt tb nm x&&nst a'&&chE a nm a'
  |_=>false
 | .cmp _ elt tg it ifs,nm,e=>match e with
  | .SetComp elt' [⟨tg',it',ifs',0⟩] sc _=>tb.c&&blkC N ⟨.function,nm.ns,false,false,[]⟩ sc (ownOf N tg)&&tgC N ⟨sc.names,false,false,false⟩ tg tg'&&ZjT it'&&chIt it nm tg' it'&&decide (ifs'.length≤1)&&chEs ifs (relN nm sc.names) ifs'&&chE elt (relN nm sc.names) elt'
  |_=>false
 | .or a b,nm,e=>match e with
  | .BinOp a' .BitOr b' _=>seT a&&seT b&&chSE a nm a'&&chSE b nm b'
  |_=>false
def chPs:Es→Nm→List (Option Expr)→List Expr→Bool
 | .nil,_,ks,vs=>ks.isEmpty&&vs.isEmpty
 | .cons kx r,nm,ks,vs=>match r with
  | .cons vx r=>match ks,vs with
   |some k'::ks,v'::vs=>chE kx nm k'&&chE vx nm v'&&chPs r nm ks vs
   |_,_=>false
  | .nil=>false
def ZpC:Es→Nm→List Expr→Bool
 | .nil,_,l=>match l with
  |[]=>true
  |_=>false
 | .cons t r,nm,l=>match l with
  | .Constant (.str s) _ _::l=>(match t with
   | .cst (.str z)=>okS z&&decide (s=stt z)
   |_=>false)&&ZpC r nm l
  | .FormattedValue e' j none _::l=>decide (j= -1)&&chE t nm e'&&ZpC r nm l
  |_=>false
def chEs:Es→Nm→List Expr→Bool
 | .nil,_,l=>match l with
  |[]=>true
  |_=>false
 | .cons e r,nm,l=>match l with
  |e'::r'=>chE e nm e'&&chEs r nm r'
  |_=>false
def chDs:Es→List Bool→Nm→List Expr→Bool
 | .nil,fl,_,l=>match fl,l with
  |[],[]=>true
  |_,_=>false
 | .cons e r,fl,nm,l=>match fl,l with
  |false::fl,e'::r'=>nst e'&&chE e nm e'&&chDs r fl nm r'
  |true::fl,.Starred e' _::r'=>chE e nm e'&&chDs r fl nm r'
  |_,_=>false
def chKs:Es→Nm→List Keyword→Bool
 | .nil,_,l=>match l with
  |[]=>true
  |_=>false
 | .cons e r,nm,l=>match l with
  |⟨_,e',_⟩::r'=>chE e nm e'&&chKs r nm r'
  |_=>false
def chOp:Op→Nm→Option Expr→Bool
 | .no,_,l=>match l with
  |none=>true
  |_=>false
 | .so e,nm,l=>match l with
  |some e'=>chE e nm e'
  |_=>false
def chIt:It→Nm→Expr→Expr→Bool
 | .seq e,nm,_,e'=>chE e nm e'
 | .rng a,nm,_,e'=>match e' with
  | .Call (.Name x _) [a'] [] _=>decide (x=("range":Str))&&blt tb nm x&&nst a'&&chE a nm a'
  |_=>false
 | .rng2 ..,_,_,_=>false
 | .enum ..,_,_,_=>false
 | .zip ..,_,_,_=>false
 | .zipg ..,_,_,_=>false
 | .itm ..,_,_,_=>false
 | .vls ..,_,_,_=>false
 | .dky ..,_,_,_=>false
end
mutual
def chS:S→Nm→Stmt→Bool
 | .expr t,nm,st=>match st with
  | .Expr e _=>ncp e&&chE tb N t nm e
  |_=>false
 | .asg i t,nm,st=>match st with
  | .Assign [.Name x _] e _=>Zk9 N i x&&Zm4 nm x&&chE tb N t nm e&&(ncp e||(match t with
   | .cmpr .. =>true
   | .cmpr2 .. =>true
   | .cmprg .. =>true
   | .cgi .. =>true
   | .dcm .. =>true
   |_=>false))
  |_=>false
 | .asgt is t,nm,st=>match st with
  | .Assign [.Tuple es _ _] e _=>tb.c&&decide (2≤is.length)&&tnC N nm is es&&chE tb N t nm e&&ncp e&&(match e with
   | .Tuple vs _ _=>swOk vs&&(match swE nm.ns es vs with
    |none=>true
    |some l=>decide (is.Nodup)&&(match t with
     | .tup _=>true
     |_=>false)&&decide (l=es.filterMap fun | .Name x _=>some x |_=>none)&&es.all (fun | .Name x _=>decide (nm.ns.lookup x=some .local) |_=>true)&&decide (es.length=vs.length)&&(decide (es.length=2)||decide (es.length=3)))
   |_=>true)
  |_=>false
 | .aug ..,_,_=>false
 | .ret t,nm,st=>match st with
  | .Return (some e) _=>chE tb N t nm e
  |_=>false
 | .retn,_,_=>false
 | .ifs t a b,nm,st=>match st with
  | .If e p q _=>chE tb N t nm e&&chSs a nm p&&chSs b nm q
  |_=>false
 | .for tg it b,nm,st=>match st with
  | .For tg' it' body [] _=>tb.c&&tgC N nm tg tg'&&ZjT it'&&chIt tb N it nm tg' it'&&chSs b nm body
  |_=>false
 | .forg ..,_,_=>false
 | .whl ..,_,_=>false
 | .brk,_,_=>false
 | .cnt,_,_=>false
 | .pass,_,_=>false
 | .never,_,_=>true
 | .seti o i t,nm,st=>match st with
  | .Assign [.Subscript o' i' _] e _=>nsl i'&&ncp e&&chE tb N t nm e&&chE tb N o nm o'&&chE tb N i nm i'
  |_=>false
 | .rse kc es,nm,st=>match st with
  | .Raise (some (.Call (.Name x _) l [] _)) none _=>tb.c&&decide (tb.xnm.lookup x=some kc)&&glb' nm x&&ZdK l&&chEs tb N es nm l
  |_=>false
 | .try1 ..,_,_=>false
 | .trm ..,_,_=>false
 | .lasg ..,_,_=>false
 | .setd ..,_,_=>false
 | .sett ..,_,_=>false
 | .sta ..,_,_=>false
 | .still _,_,_=>false
 | .sli ..,_,_=>false
 | .fgm ..,_,_=>false
 | .asx ..,_,_=>false
 | .rsf ..,_,_=>false
 | .aua ..,_,_=>false
 | .stp ..,_,_=>false
 | .sat ..,_,_=>false
 | .wth ..,_,_=>false
 | .mch ..,_,_=>false
 | .ladd ..,_,_=>false
def chMs:Ms→Nm→List MatchCase→Bool
 | .nil,_,l=>match l with
  |[]=>true
  |_=>false
 | .cons t b r,nm,l=>match l with
  |⟨.MatchValue (.Constant (.str x) _ _) _,none,bd⟩::l'=>decide (x=stt t)&&chSs b nm bd&&chMs r nm l'
  |_=>false
def chSs:Ss→Nm→List Stmt→Bool
 | .nil,_,l=>match l with
  |[]=>true
  |_=>false
 | .cons s r,nm,l=>match s with
  | .still _=>chSs r nm l
  | .sli _=>chSs r nm l
  |s=>match l with
   |s'::r'=>chS s nm s'&&chSs r nm r'
   |_=>false
end
mutual
def nfG:Gn→Bool
 | .for _ _ b=>nfGs b
 | .forg .. =>false
 |_=>true
def nfGs:Gns→Bool
 | .nil=>true
 | .cons s r=>nfG s&&nfGs r
end
mutual
def chG:Gn→Nm→Stmt→Bool
 | .pl s,nm,st=>chS tb N s nm st
 | .yld t,nm,st=>match st with
  | .Expr (.Yield (some e) _) _=>chE tb N t nm e
  |_=>false
 | .yfr t,nm,st=>match st with
  | .Expr (.YieldFrom e _) _=>chE tb N t nm e
  |_=>false
 | .for tg it b,nm,st=>match st with
  | .For tg' it' body [] _=>tb.c&&tgC N nm tg tg'&&ZjT it'&&chIt tb N it nm tg' it'&&chGs b nm body
  |_=>false
 | .forg tg f args kws sel b,nm,st=>match st with
  | .For tg' (.Call (.Name x _) l ks _) body [] _=>tb.c&&nm.gen&&tgC N nm tg tg'&&decide (tb.fnm.lookup x=some f)&&glb' nm x&&ZdK l&&chEs tb N args nm l&&(match kwn ks with
   |some kn=>tb.kbs.contains (f,l.length,kn,sel)&&chKs tb N kws nm ks
   |none=>false)&&nfGs b&&chGs b nm body
  |_=>false
def chGs:Gns→Nm→List Stmt→Bool
 | .nil,_,l=>match l with
  |[]=>true
  |_=>false
 | .cons s r,nm,l=>match l with
  |s'::r'=>chG s nm s'&&chGs r nm r'
  |_=>false
end
def chB:List BI→Nm→List Stmt→Bool
 |[],_,l=>l.isEmpty
 | .reg s::r,nm,l=>match l with
  |s'::l=>chS tb N s nm s'&&chB r nm l
  |_=>false
 | .sto f t::r,nm,l=>match l with
  | .Assign [.Attribute (.Name x _) at' _] e _::l=>Zk9 N 0 x&&visb nm x&&decide (tb.ann[f]? =some at')&&tb.fls.contains f&&ncp e&&chE tb N t nm e&&chB r nm l
  |_=>false
 | .sup _ _::_,_,_=>false
end
end Rk
/-! Rk.M:what the check means. -/
namespace Rk
open PySem PySem.Spec PyProof.Rows L2
structure Zi3 (X:Cx) (g:Gi) (gG:G) (tb:Tb) (call:Cl) (k:Nat):Prop where
 mg:∀x kk,tb.clm.lookup x=some kk→X.mg x=some (.ref (g.cb kk))
 fl:tb.c=true→∀i,tb.fls.contains i=true→AtOk X g gG call k i
 mt:∀m n ks sel,tb.kbm.contains (m,n,ks,sel)=true→∀mn,tb.mnm[m]? =some mn→tb.c=true→MtOk X g gG call tb.c k m n mn ks sel
 mkk:∀x kk,tb.clm.lookup x=some kk→∀n ks sel,tb.kbc.contains (kk,n,ks,sel)=true→tb.c=true→MkOk X g gG call k kk n ks sel x
 mv:∀x kk,tb.clm.lookup x=some kk→tb.cva.contains kk=true→tb.c=true→MvOk X g call k kk x
 va:∀f kf,tb.kva.contains (f,kf)=true→VarB (g.fd f) (g.fps f) kf∧(g.fps f).length=kf+1
 cn:∀kk f,tb.cns.contains (kk,f)=true→∃mc,ClX.CRead X.K (g.cb kk) mc∧∃v u,ClX.CVal X.K (g.cb kk) mc (g.an f) v u∧∀w n,RV g w n (gG.clc kk f) v
 st:∀kk m n ks sel,tb.kst.contains (kk,m,n,ks,sel)=true→∀mn,tb.mnm[m]? =some mn→tb.c=true→∀f,gG.sta kk m=some f→ClX.CRead X.K (g.cb kk) (.type "type")∧(∃p,SMet X.K (g.cb kk) mn p (g.fa f))∧FnG false X.prog X.w X.K X.mg X.base k tb.c (g.fa f) (g.fd f) (g.fps f) (spF g call tb.c f)∧
  PySem.W.keepIn X.K (.ref (g.fa f))=true∧KB g f n ks sel∧(g.fps f).length=sel.length∧DfV g (gG.dfl f) (g.fdv f)
 ic:∀x kk,tb.clm.lookup x=some kk→(∀j,j < g.nc→IsC X.K (g.cb j)∧PySem.W.kitOne X.K (.ref (g.cb j)) (.ref (g.cb kk))=some (gG.isa j kk))∧∀t∈(["NoneType","bool","int","str","tuple","list"]:List String),PySem.W.kitOne X.K (.type t) (.ref (g.cb kk))=some false
 ca:∀n ks sel,tb.kca.contains (n,ks,sel)=true→tb.c=true→CaOk X g gG call tb.c k n ks sel
 du:tb.c=true→ZnO X g gG call k .len "__len__" 1∧ZnO X g gG call k .repr "__repr__" 1∧EqOk X g gG call k false∧EqOk X g gG call k true∧ZnO X g gG call k .bool "__bool__" 1∧ZnO X g gG call k .has "__contains__" 2
 mkh:∀x kk,tb.clm.lookup x=some kk→tb.khm.contains kk=true→∀n ks sel,tb.kbc.contains (kk,n,ks,sel)=true→tb.c=true→MkOkH X g gG call k kk n ks sel x
 nf:∀i,tb.npr.contains i=true→AtOk X g gG call k i∧∀kk q,gG.atr kk i≠ .prp q
 ms:tb.c=true→∀m kf,tb.kmv.contains (m,kf)=true→∀mn,tb.mnm[m]? =some mn→MsOk X g gG call k m kf mn
 sp:tb.c=true→∀i,tb.psl.contains i=true→ZpP X g gG call k i
 kg:∀x n,tb.kgn.lookup x=some n→∃l,gG.glb n=.kdt l∧KgOk X x l
 wt:tb.c=true→tb.wt=true→WthOk X g gG call k
 mkn:∀x kk,tb.clm.lookup x=some kk→tb.knm.contains kk=true→∀n ks sel,tb.kbc.contains (kk,n,ks,sel)=true→tb.c=true→MkOkN X g gG call k kk n ks sel x
theorem Zi3.to {X Y:Cx} {g:Gi} {gG:G} {tb:Tb} {call:Cl} {k:Nat} (C:Zi3 X g gG tb call k) (hK:Y.K=X.K) (hp:Y.prog=X.prog) (hw:Y.w=X.w) (hm:Y.mg=X.mg) (hb:Y.base=X.base):Zi3 Y g gG tb call k:=by
 have lo:∀f,ZmI X g call k f→ZmI Y g call k f:=fun f h=>by unfold ZmI at h⊢; rw[hp,hw,hK,hm,hb]; exact h
 refine⟨fun x kk e=>by rw[hm]; exact C.mg x kk e,fun hc i e=>?_,fun m n ks sel e mn e2 hc=>?_,fun x kk e n ks sel e2 hc=>?_,fun x kk e e2 hc=>?_,C.va,fun kk f e=>by rw[hK]; exact C.cn kk f e,fun kk m n ks sel e mn e2 hc f e3=>?_,fun x kk e=>by rw[hK]; exact C.ic x kk e,fun n ks sel e hc=>?_,fun hc=>?_,fun x kk e e0 n ks sel e2 hc=>?_,fun i e=>?_,fun hc m kf e mn e2=>?_,fun hc i e=>?_,fun x n e=>?_,fun hc e=>?_,fun x kk e e0 n ks sel e2 hc=>?_⟩
 ·have A:=C.fl hc i e
  exact⟨A.lt,fun kk h=>by rw[hK]; exact A.cls kk h,fun kk h=>by rw[hK]; exact A.fld kk h,fun kk d h=>by rw[hK]; exact A.con kk d h,fun kk p h=>by
   obtain⟨a,b,c,d⟩:=A.prp kk p h
   rw[hK]
   exact⟨a,b,c,lo _ d⟩⟩
 ·have A:=C.mt m n ks sel e mn e2 hc
  exact⟨A.no,fun kk f h=>by rw[hp,hw,hK,hm,hb]; exact A.ok kk f h⟩
 ·have A:=C.mkk x kk e n ks sel e2 hc
  exact⟨by rw[hm]; exact A.mg,by rw[hK]; exact A.kp,A.df,by rw[hp,hw,hK,hm,hb]; exact A.ok⟩
 ·have A:=C.mv x kk e e2 hc
  exact⟨by rw[hm]; exact A.mg,by rw[hK]; exact A.kp,by rw[hp,hw,hK,hm,hb]; exact A.ok⟩
 ·rw[hp,hw,hK,hm,hb]; exact C.st kk m n ks sel e mn e2 hc f e3
 ·have A:=C.ca n ks sel e hc
  exact⟨fun kk f h=>by rw[hp,hw,hK,hm,hb]; exact A.ok kk f h⟩
 ·obtain⟨a,b,c,d,e,e6⟩:=C.du hc
  refine⟨⟨fun kk f h=>?_⟩,⟨fun kk f h=>?_⟩,⟨fun kk f h=>?_⟩,⟨fun kk f h=>?_⟩,⟨fun kk f h=>?_⟩,⟨fun kk f h=>?_⟩⟩
  ·obtain⟨q1,q2,q3,q4⟩:=a.ok kk f h; rw[hK]; exact⟨q1,q2,lo _ q3,q4⟩
  ·obtain⟨q1,q2,q3,q4⟩:=b.ok kk f h; rw[hK]; exact⟨q1,q2,lo _ q3,q4⟩
  ·obtain⟨q1,q2,q3,q4⟩:=c.ok kk f h; rw[hK]; exact⟨q1,q2,lo _ q3,q4⟩
  ·obtain⟨q1,q2,q3,q4⟩:=d.ok kk f h; rw[hK]; exact⟨q1,q2,lo _ q3,q4⟩
  ·obtain⟨q1,q2,q3,q4⟩:=e.ok kk f h; rw[hK]; exact⟨q1,q2,lo _ q3,q4⟩
  ·obtain⟨q1,q2,q3,q4⟩:=e6.ok kk f h; rw[hK]; exact⟨q1,q2,lo _ q3,q4⟩
 ·have A:=C.mkh x kk e e0 n ks sel e2 hc
  exact⟨by rw[hm]; exact A.mg,by rw[hK]; exact A.kp,A.kc,A.df,by rw[hp,hw,hK,hm,hb]; exact A.ok⟩
 ·obtain⟨A,q⟩:=C.nf i e
  exact⟨⟨A.lt,fun kk h=>by rw[hK]; exact A.cls kk h,fun kk h=>by rw[hK]; exact A.fld kk h,fun kk d h=>by rw[hK]; exact A.con kk d h,fun kk p h=>absurd h (q kk p)⟩,q⟩
 ·have A:=C.ms hc m kf e mn e2
  exact⟨A.no,fun kk f h=>by rw[hp,hw,hK,hm,hb]; exact A.ok kk f h⟩
 ·have A:=C.sp hc i e
  exact⟨fun kk p h=>by
   obtain⟨q1,q2,q3,q4⟩:=A.ok kk p h
   rw[hK]
   exact⟨q1,q2,lo _ q3,q4⟩⟩
 ·obtain⟨l,e1,A⟩:=C.kg x n e
  exact⟨l,e1,⟨by rw[hm,hK,hw]; exact A.ex⟩⟩
 ·have A:=C.wt hc e
  refine⟨⟨fun kk f h=>?_⟩,⟨fun kk f h=>?_⟩,fun kk f h=>?_⟩
  ·obtain⟨q1,q2,q3,q4⟩:=A.en.ok kk f h; rw[hK]; exact⟨q1,q2,lo _ q3,q4⟩
  ·obtain⟨q1,q2,q3,q4⟩:=A.exo.ok kk f h; rw[hK]; exact⟨q1,q2,lo _ q3,q4⟩
  ·rw[hp,hw,hK,hm,hb]; exact A.exh kk f h
 ·have A:=C.mkn x kk e e0 n ks sel e2 hc
  exact⟨by rw[hm]; exact A.mg,by rw[hK]; exact A.kp,A.kc,A.df,by rw[hp,hw,hK,hm,hb]; exact A.ok⟩
theorem Zcf.out {k:Nat} {A:Around} (r:Zcf k A.in1.in1.in1):Zcf k A.in1:=⟨r.dp,by have q:A.units+1+1+1+16 * k+200 < cLine:=r.un; show A.units+1+16 * k+200 < cLine; omega,by first |exact r.gd |(have:=r.gd; simpa [Around.in1] using this)⟩
def Zp0 (X:Cx) (g:Gi) (call:Cl) (k:Nat):Prop:=True
structure CK (X:Cx) (g:Gi) (gG:G) (tb:Tb) (N:List Str) (call:Cl) (k:Nat) (nm:Nm):Prop where
 gx:GX g tb.c k X
 hN:X.N=N
 nms:X.env.scope.names=nm.ns
 kind:X.env.scope.kind=.function
 calm:tb.c=true→X.calm=true
 pn:∀p∈g.pn,p∈X.pn
 pn0:tb.c=true→g.pn=[]
 fm:∀x f,tb.fnm.lookup x=some f→X.mg x=some (.ref (g.fa f))∧PySem.W.keepIn X.K (.ref (g.fa f))=true
 gm:∀x n,tb.gnm.lookup x=some n→∃v u,X.mg x=some u∧RelV v u∧∀w m,RV g w m (gG.glb n) v
 bm:∀x,tb.bnm.contains x=true→X.mg x=none
 kb:∀f n ks sel,tb.kbs.contains (f,n,ks,sel)=true→KB g f n ks sel∧(g.fps f).length=sel.length
 df:∀f,DfV g (gG.dfl f) (g.fdv f)
 ds:∀f,DfV g (gG.dfs f) (g.fdv f)
 calls:tb.c=true→∀x f,tb.fnm.lookup x=some f→FnG false X.prog X.w X.K X.mg X.base k tb.c (g.fa f) (g.fd f) (g.fps f) (spF g call tb.c f)
 an:∀i x,tb.ann[i]? =some x→g.an i=x∧i < g.nn
 xo:XkOk g X.K
 nmk:NmOk g
 xc:∀x kc,tb.xnm.lookup x=some kc→XcAt X g gG kc x
 lm:nm.lam=true→tb.c=true→ZpY X g tb.lamB∧ZpN X g gG call k tb.wx tb.wsx
 cl:Zi3 X g gG tb call k
 gn:nm.gen=true→tb.c=true→Zp0 X g call k
 kk:nm.kl=true→tb.c=true→LamK X g
section
variable {X:Cx} {g:Gi} {gG:G} {tb:Tb} {N:List Str} {call:Cl} {k:Nat} {nm:Nm}
theorem CK.blk (C:CK X g gG tb N call k nm) (hc:tb.c=true) (s:Shared) (H:Hp) (scope:Scope) (hk:scope.kind=.function) (L:Addr) (cl:List (Str × Addr)) (fp:List Addr):CK (X.blk s H scope (compEnvC scope cl L X.env) fp) g gG tb N call k (relN nm scope.names) where
 gx:=⟨C.gx.K,C.gx.calm,C.gx.dp,C.gx.un,C.gx.gd,C.gx.nd⟩
 hN:=C.hN
 nms:=by
  show (relS scope X.env.scope).names=_
  unfold relS relN
  rw[C.kind,C.nms]
 kind:=by show (relS scope X.env.scope).kind=_; exact hk
 calm:=C.calm
 pn:=fun p hp=>by rw[C.pn0 hc] at hp; cases hp
 pn0:=C.pn0
 fm:=C.fm
 gm:=C.gm
 bm:=C.bm
 kb:=C.kb
 df:=C.df
 ds:=C.ds
 calls:=C.calls
 an:=C.an
 xo:=C.xo
 nmk:=C.nmk
 xc:=fun x kc e=>have q:=C.xc x kc e; ⟨q.ex,q.ic,q.ec⟩
 lm:=fun z=>nomatch z
 cl:=C.cl.to rfl rfl rfl rfl rfl
 gn:=fun z=>nomatch z
 kk:=fun z=>nomatch z
theorem CK.gl (C:CK X g gG tb N call k nm) {x:Str} (h:glb' nm x=true):Gl X x∧(x == ("__debug__":Str))=false:=by
 unfold glb' at h
 rw[Zaa,Zab] at h
 refine⟨?_,by simpa using h.2⟩
 show X.env.scope.names.lookup x=_
 rw[C.nms]; exact h.1
theorem CK.bl (C:CK X g gG tb N call k nm) {x:Str} (h:blt tb nm x=true):Gl X x∧X.mg x=none:=by
 unfold blt at h
 rw[Zaa] at h
 exact⟨(C.gl h.1).1,C.bm x h.2⟩
theorem CK.vis (C:CK X g gG tb N call k nm) {x:Str} (h:visb nm x=true):Vis X.env.scope x∧(x == ("__debug__":Str))=false∧(x == ("__classdict__":Str))=false:=by
 unfold visb at h
 simp only[Zaa,ZaP,Zab] at h
 refine⟨?_,by simpa using h.1.2,by simpa using h.2⟩
 unfold Vis
 rw[C.nms]
 rcases h.1.1 with (z |z) |z
 ·exact .inl z
 ·exact .inr (.inl z)
 ·exact .inr (.inr z)
def LocF (X:Cx) (nm:Nm):Prop:=∀x,Zm4 nm x=true→L2.Loc X.env.scope x∧(X.fn x=true∨X.env.scope.names.lookup x=some .local)
theorem CK.locD (C:CK X g gG tb N call k nm) (hf:∀x,X.fn x=true):LocF X nm:=by
 intro x h
 unfold Zm4 at h
 rw[ZaP,Zab,Zab] at h
 unfold L2.Loc
 rw[C.nms]
 exact⟨h,.inl (hf x)⟩
theorem CK.locB (C:CK X g gG tb N call k nm) (s:Shared) (H:Hp) (scope:Scope) (L:Addr) (cl:List (Str × Addr)) (fp:List Addr):LocF (X.blk s H scope (compEnvC scope cl L X.env) fp) ⟨scope.names,false,false,false⟩:=by
 intro x h
 unfold Zm4 at h
 rw[ZaP,Zab,Zab] at h
 have hs:(X.blk s H scope (compEnvC scope cl L X.env) fp).env.scope=relS scope X.env.scope:=rfl
 unfold L2.Loc
 rw[hs]
 rcases h with z |z
 ·have q:=lookup_relS_keep (sc:=X.env.scope) (by decide) z
  exact⟨.inl q,.inr q⟩
 ·have q:=lookup_relS_keep (sc:=X.env.scope) (by decide) z
  exact⟨.inr q,.inl (by show (scope.names.lookup x == some .cell)=true; rw[z]; rfl)⟩
theorem CK.sl (C:CK X g gG tb N call k nm) {i:Nat} {x:Str} (h:Zk9 N i x=true):X.N[i]? =some x:=by
 rw[C.hN]
 unfold Zk9 at h
 exact ZaC h
theorem CK.tn (C:CK X g gG tb N call k nm) {nm':Nm} (hl:LocF X nm'):∀{is:List Nat} {es:List Expr},tnC N nm' is es=true→TN X es is
 |[],[],_=>.nil
 |[],_::_,h=>by unfold tnC at h; cases h
 |_::_,[],h=>by unfold tnC at h; cases h
 |i::is,e::es,h=>by
  unfold tnC at h
  split at h
  ·rename_i e0; cases e0
  ·rename_i e1 e2
   cases e1; cases e2
   simp only[Zaa] at h
   obtain⟨l1,l2⟩:=hl _ h.1.2
   exact .cons (C.sl h.1.1) l1 l2 (C.tn hl h.2)
  ·cases h
theorem CK.tg (C:CK X g gG tb N call k nm) (hc:tb.c=true) {nm':Nm} (hl:LocF X nm') {tg:List Nat} {e:Expr} (h:tgC N nm' tg e=true):PG X e (tG g tg):=by
 unfold tgC at h
 split at h
 ·split at h
  ·rw[Zaa] at h
   obtain⟨l1,l2⟩:=hl _ h.2
   exact gv_one C.gx.nd (C.sl h.1) l1 l2
  ·cases h
 ·rw[Zaa,Zab] at h
  exact Zkl C.gx (C.calm hc) (C.tn hl h.2) h.1
 ·cases h
theorem ZhB:∀{is:List Nat} {es:List Expr},tnC N nm is es=true→∀i∈is,∃x,N[i]? =some x
 |[],_,_,i,hi=>by cases hi
 |_::_,[],h,_,_=>by unfold tnC at h; cases h
 |i::is,e::es,h,j,hj=>by
  unfold tnC at h
  split at h
  ·rename_i e0; cases e0
  ·rename_i e1 e2
   cases e1; cases e2
   simp only[Zaa] at h
   rcases Zak.mp hj with rfl |hj
   ·exact⟨_,ZaC h.1.1⟩
   ·exact ZhB h.2 j hj
  ·cases h
theorem Zfg {tg:List Nat} {e:Expr} (h:tgC N nm tg e=true):∀i∈tg,∃x,N[i]? =some x:=by
 unfold tgC at h
 split at h
 ·split at h
  ·rw[Zaa] at h
   intro i hi
   rcases Zak.mp hi with rfl |hi
   ·exact⟨_,ZaC h.1⟩
   ·cases hi
  ·cases h
 ·rw[Zaa] at h
  exact ZhB h.2
 ·cases h
theorem Zg4 {tg:List Nat}:∀i∈(ownOf N tg).map (·.2),i∈tg:=by
 intro i hi
 obtain⟨p,hp,rfl⟩:=Zah.mp hi
 obtain⟨j,hj,e⟩:=Zi0.mp hp
 obtain⟨x,_,rfl⟩:=Zan.mp e
 exact hj
theorem Zg3 {tg:List Nat} (h:∀i∈tg,∃x,N[i]? =some x):∀i∈tg,i∈(ownOf N tg).map (·.2):=by
 intro i hi
 obtain⟨x,hx⟩:=h i hi
 exact Zah.mpr ⟨(x,i),Zi0.mpr ⟨i,hi,by rw[hx]; rfl⟩,rfl⟩
def ZiO:Es→Nat
 | .nil=>0
 | .cons _ r=>ZiO r+1
theorem Zee (call:Cl) (c:Bool):∀(t:Es) (env:Env) (h:AH) (l:List D) (h':AH),evEs gG call c t env h=.ok l h'→l.length=ZiO t
 | .nil,env,h,l,h',e=>by unfold evEs at e; cases e; rfl
 | .cons a r,env,h,l,h',e=>by
  unfold evEs at e
  cases ha:evE gG call c a env h with
  |ok x h1=>
   rw[ha,bind_ok] at e
   cases hr:evEs gG call c r env h1 with
   |ok m h2=>
    rw[hr,bind_ok] at e
    cases e
    rw[Zae,Zee call c r _ _ _ _ hr]
    rfl
   |_=>rw[hr] at e; cases e
  |_=>rw[ha] at e; cases e
theorem ZfY:∀{t:Es} {l:List Expr},chEs tb N t nm l=true→ZiO t=l.length
 | .nil,[],_=>rfl
 | .nil,_::_,h=>by unfold chEs at h; cases h
 | .cons _ _,[],h=>by unfold chEs at h; cases h
 | .cons a r,e::l,h=>by
  unfold chEs at h
  rw[Zaa] at h
  show ZiO r+1=l.length+1
  rw[ZfY h.2]
theorem Ziq:∀{t:Es} {l:List Keyword} {ks:List Str},chKs tb N t nm l=true→kwn l=some ks→ZiO t=ks.length
 | .nil,[],ks,_,e=>by cases e; rfl
 | .nil,_::_,_,h,_=>by unfold chKs at h; cases h
 | .cons _ _,[],_,h,_=>by unfold chKs at h; cases h
 | .cons a r,⟨some n,e,p⟩::l,ks,h,hk=>by
  unfold chKs at h
  rw[Zaa] at h
  obtain⟨js,h1,rfl⟩:=Zan.mp (show (kwn l).map (n:: ·)=some ks from hk)
  show ZiO r+1=js.length+1
  rw[Ziq h.2 h1]
 | .cons a r,⟨none,e,p⟩::l,ks,h,hk=>by cases hk
theorem mk_ok {o:CmpOp} {e:Expr} (h:ZjT e=true):behindInMarks o e=false:=by
 cases e<;>first
  |rfl
  |cases h
theorem ZdM {X:Cx}:Takes X (fun cls d σ H=>E0 σ cls d H):=takes0
mutual
theorem ZaS:∀(t:E) {X:Cx} {nm:Nm} (C:CK X g gG tb N call k nm) {E:SX'} (tk:Takes X (fun cls d σ H=>E σ cls d H)) (e:Expr),chE tb N t nm e=true→EV X g E e (evE gG call tb.c t)
 | .var i,X,nm,C,E,tk,e,h=>by
  unfold chE at h
  split at h
  ·rw[Zaa] at h
   obtain⟨v1,v2,v3⟩:=C.vis h.2
   exact ev_var C.gx (C.sl h.1) v1 v2 v3
  ·cases h
 | .cst d,X,nm,C,E,tk,e,h=>by
  unfold chE at h
  split at h
  ·split at h
   ·rename_i d' hd
    have:=Zef _ _ h
    subst this
    exact Znh C.gx hd
   ·cases h
  ·cases h
 | .glb n,X,nm,C,E,tk,e,h=>by
  unfold chE at h
  cases h
 | .bin o a b,X,nm,C,E,tk,e,h=>by
  unfold chE at h
  split at h
  ·simp only[Zaa,Zab] at h
   obtain⟨⟨rfl,h1⟩,h2⟩:=h
   exact ev_bin C.gx (ZaS a C tk _ h1) (ZaS b C tk _ h2)
  ·cases h
 | .neg a,X,nm,C,E,tk,e,h=>by
  unfold chE at h
  cases h
 | .not a,X,nm,C,E,tk,e,h=>by
  unfold chE at h
  split at h
  ·rw[ZaP] at h
   rcases h with h |h
   ·exact ev_not C.gx (ZaS a C tk _ h)
   ·split at h
    ·rename_i o
     simp only[Zaa] at h
     obtain⟨⟨hc,h1⟩,h2⟩:=h
     obtain⟨_,_,_,_,d5,_⟩:=C.cl.du hc
     have ho:=ZaS o C tk _ h2
     have G:=C.gx
     rw[hc] at ho G⊢
     have er:evE gG call true (.not (.dun .bool o .nil))=fun env h=>((evE gG call true o env h).bind fun x h=>Zlo gG call x h).bind fun x h=>Zbv ((ZbM x).map fun b=>.bl !b) h:=by
      funext env h
      conv=>lhs; unfold evE
      refine congrArg (fun r=>Res.bind r _) ?_
      conv=>lhs; unfold evE
      refine ZbW fun x h=>?_
      unfold Zlo
      cases x with
      |ins kk fs=>
       dsimp only
       cases gG.dmt kk .bool with
       |none=>rfl
       |some f=>show (evEs gG call true .nil env h).bind _=_; unfold evEs; rfl
      |non=>show (evEs gG call true .nil env h).bind _=_; unfold evEs; rfl
      |_=>rfl
     rw[er]
     exact Zpg G d5 (ZoZ h1) ho
    ·cases h
  ·cases h
 | .and es,X,nm,C,E,tk,e,h=>by
  unfold chE at h
  split at h
  ·rw[Zaa] at h
   exact (chAnd_ok es C tk _ (by intro z; rw[z] at h; exact absurd h.1 (by decide)) h.2).ev
  ·cases h
 | .or es,X,nm,C,E,tk,e,h=>by
  unfold chE at h
  split at h
  ·rw[Zaa] at h
   exact (chOr_ok es C tk _ (by intro z; rw[z] at h; exact absurd h.1 (by decide)) h.2).ev
  ·cases h
 | .ife t a b,X,nm,C,E,tk,e,h=>by
  unfold chE at h
  split at h
  ·simp only[Zaa] at h
   exact ev_ife C.gx (ZaS t C tk _ h.1.1) (ZaS a C tk _ h.1.2) (ZaS b C tk _ h.2)
  ·cases h
 | .cmp o a b,X,nm,C,E,tk,e,h=>by
  unfold chE at h
  split at h
  ·simp only[Zaa,Zab] at h
   obtain⟨⟨⟨rfl,h1⟩,h2⟩,h3⟩:=h
   exact ev_cmp C.gx (ZaS a C tk _ h1) (ZaS b C tk _ h2) (mk_ok h3)
  ·cases h
 | .cmp2 o1 o2 a b d,X,nm,C,E,tk,e,h=>by
  unfold chE at h
  cases h
 | .isn a,X,nm,C,E,tk,e,h=>by
  unfold chE at h
  cases h
 | .isnn a,X,nm,C,E,tk,e,h=>by
  unfold chE at h
  cases h
 | .tup es,X,nm,C,E,tk,e,h=>by
  unfold chE at h
  split at h
  ·rw[Zaa] at h
   exact ev_tup C.gx (chEs_ok es C tk _ h.1 h.2)
  ·cases h
 | .lst es,X,nm,C,E,tk,e,h=>by
  unfold chE at h
  split at h
  ·rw[Zaa] at h
   exact ev_lst C.gx (chEs_ok es C tk _ h.1 h.2)
  ·cases h
 | .hls es,X,nm,C,E,tk,e,h=>by
  unfold chE at h
  split at h
  ·rw[Zaa] at h
   exact ev_hls C.gx (chEs_ok es C tk _ h.1 h.2)
  ·cases h
 | .tupf es fl,X,nm,C,E,tk,e,h=>by
  unfold chE at h
  cases h
 | .lstf es fl,X,nm,C,E,tk,e,h=>by
  unfold chE at h
  cases h
 | .idx a i,X,nm,C,E,tk,e,h=>by
  unfold chE at h
  split at h
  ·simp only[Zaa] at h
   exact ev_idx C.gx (ZaS a C tk _ h.1.2) (ZaS i C tk _ h.2) h.1.1
  ·cases h
 | .slc a lo hi,X,nm,C,E,tk,e,h=>by
  unfold chE at h
  split at h
  ·simp only[Zaa] at h
   exact ev_slc C.gx (ZaS a C tk _ h.1.1) (chOp_ok lo C tk _ h.1.2) (chOp_ok hi C tk _ h.2)
  ·cases h
 | .cal f args kws sel,X,nm,C,E,tk,e,h=>by
  unfold chE at h
  split at h
  ·simp only[Zaa,Zab] at h
   obtain⟨⟨⟨⟨⟨hc,h1⟩,h2⟩,h3⟩,h4⟩,h5⟩:=h
   split at h5
   ·rename_i kn hkn
    rw[Zaa] at h5
    obtain⟨m1,m2⟩:=C.fm _ _ h1
    obtain⟨g1,g2⟩:=C.gl h2
    obtain⟨b1,b2⟩:=C.kb _ _ _ _ h5.1
    refine ev_cal (z:=false) C.gx (C.calls hc _ _ h1) g1 m1 m2 g2 b1 b2 (C.df f) tk h3 hkn (chEs_ok args C tk _ h3 h4) (chKs_ok kws C tk _ h5.2) (fun z env h=>?_) (fun env h l h' z=>?_) (fun env h l h' z=>?_)
    ·subst z
     cases args with
     |nil=>unfold evEs; rfl
     |cons a r=>unfold chEs at h4; cases h4
    ·rw[Zee _ _ _ _ _ _ _ z,ZfY h4]
    ·rw[Zee _ _ _ _ _ _ _ z,Ziq h5.2 hkn]
   ·cases h5
  ·cases h
 | .cald f args kws sel,X,nm,C,E,tk,e,h=>by
  unfold chE at h
  cases h
 | .bi b a,X,nm,C,E,tk,e,h=>by
  unfold chE at h
  split at h
  ·simp only[Zaa,Zab] at h
   obtain⟨⟨⟨⟨hc,rfl⟩,h1⟩,h2⟩,h3⟩:=h
   obtain⟨g1,g2⟩:=C.bl h1
   exact ev_bi C.gx hc b g1 g2 h2 (ZaS a C tk _ h3)
  ·cases h
 | .isi a kk,X,nm,C,E,tk,e,h=>by
  unfold chE at h
  cases h
 | .mt m o a,X,nm,C,E,tk,e,h=>by
  unfold chE at h
  split at h
  ·simp only[Zaa,Zab] at h
   obtain⟨⟨⟨⟨⟨rfl,h1⟩,h2⟩,h3⟩,h4⟩,h5⟩:=h
   cases m with
   |join=>exact Zph C.gx (ZaS o C tk _ h4) (ZaS a C tk _ h5) h1 h2 (by rw[h3]; exact ZaB _)
   |starts=>exact Zkx C.gx (ZaS o C tk _ h4) (ZaS a C tk _ h5) h1 h2 (by rw[h3]; exact ZaB _)
   |rstrip=>exact Zky C.gx (ZaS o C tk _ h4) (ZaS a C tk _ h5) h1 h2 (by rw[h3]; exact ZaB _)
   |index=>exact Zmn C.gx (ZaS o C tk _ h4) (ZaS a C tk _ h5) h1 h2 (by rw[h3]; exact ZaB _)
   |split=>exact Zmm C.gx (ZaS o C tk _ h4) (ZaS a C tk _ h5) h1 h2 (by rw[h3]; exact ZaB _)
  ·cases h
 | .mm m o args,X,nm,C,E,tk,e,h=>by
  unfold chE at h
  split at h
  ·simp only[Zaa,Zab] at h
   obtain⟨⟨⟨⟨⟨⟨rfl,h1⟩,h2⟩,h3⟩,h4⟩,h5⟩,h6⟩:=h
   exact ev_mm C.gx m (ZaS o C tk _ h5) (chEs_ok args C tk _ h1 h6) h1 h2 h3 (by rw[h4]; exact ZaB _)
  ·cases h
 | .same i j,X,nm,C,E,tk,e,h=>by
  unfold chE at h
  split at h
  ·simp only[Zaa,Zab] at h
   obtain⟨⟨⟨⟨⟨⟨⟨⟨h1,h2⟩,h3⟩,h4⟩,rfl⟩,rfl⟩,rfl⟩,rfl⟩,h5⟩:=h
   obtain⟨g1,g2⟩:=C.bl h5
   obtain⟨a1,a2,a3⟩:=C.vis h3
   obtain⟨b1,b2,b3⟩:=C.vis h4
   exact Zpf C.gx (C.sl h1) (C.sl h2) a1 b1 a2 a3 b2 b3 g1 g2
  ·cases h
 | .cmpr elt tg it ifs,X,nm,C,E,tk,e,h=>by
  unfold chE at h
  split at h
  ·rename_i elt' tg' it' ifs' sc pos
   simp only[Zaa,Zab] at h
   obtain⟨⟨⟨⟨⟨⟨⟨hc,h1⟩,h2⟩,h3⟩,h4⟩,h5⟩,h6⟩,h7⟩:=h
   have ok:BlkOk X.N X.env.scope sc (ownOf N tg):=by
    refine blkOk_by ?_
    rw[C.hN]
    unfold blkC at h1⊢
    rw[C.nms]
    exact h1
   have hif:∀(s:Shared) (H:Hp) (L:Addr) (cl:List (Str × Addr)) (fp:List Addr),PTs (X.blk s H sc (compEnvC sc cl L X.env) fp) ifs' (tB' g E0 (evIfs gG call tb.c ifs)):=fun s H L cl fp=>by
    cases ifs with
    |nil=>
     cases ifs' with
     |nil=>exact⟨fun pins s σ H Q I ⟨w,env,h,rr,re,q⟩=>pts_nil.run pins s σ H Q I (by unfold evIfs at q; exact q.now rr)⟩
     |cons _ _=>unfold chEs at h6; cases h6
    |cons a r=>
     cases ifs' with
     |nil=>unfold chEs at h6; cases h6
     |cons a' r'=>
      have e2:r'=[]:=ZaL (by simp at h5; exact congrArg List.length h5)
      subst e2
      unfold chEs at h6
      rw[Zaa] at h6
      have z:=(ZaS a (C.blk hc s H sc ok.kind L cl fp) ZdM _ h6.1).pt
      refine⟨fun pins s σ H Q I q=>(pts_one z).run pins s σ H Q I ?_⟩
      obtain⟨w,env,h,rr,re,q⟩:=q
      exact⟨w,env,h,rr,re,by unfold evIfs at q; exact q⟩
   exact Zpi C.gx (C.calm hc) (chIt_ok it C tk tg' it' h4) ok Zg4 (Zg3 (Zfg h2)) (fun s H L cl fp=>(C.blk hc s H sc ok.kind L cl fp).tg hc (C.locB s H sc L cl fp) h2) hif (fun s H L cl fp=>(ZaS elt (C.blk hc s H sc ok.kind L cl fp) ZdM _ h7).pe) h3
  ·cases h
 | .cmprg elt tg f args kws sel,X,nm,C,E,tk,e,h=>by
  unfold chE at h
  cases h
 | .cmpr2 elt tg it ifs tg1 it1 ifs1,X,nm,C,E,tk,e,h=>by
  unfold chE at h
  cases h
 | .xfld i f,X,nm,C,E,tk,e,h=>by
  unfold chE at h
  cases h
 | .xcal _ _,X,nm,C,E,tk,e,h=>by unfold chE at h; cases h
 | .why kl,X,nm,C,E,tk,e,h=>by
  unfold chE at h
  cases h
 | .whysl ks,X,nm,C,E,tk,e,h=>by
  unfold chE at h
  cases h
 | .whysv i,X,nm,C,E,tk,e,h=>by
  unfold chE at h
  cases h
 | .cav f kf args fl,X,nm,C,E,tk,e,h=>by
  unfold chE at h
  cases h
 | .fld a f,X,nm,C,E,tk,e,h=>by
  unfold chE at h
  cases h
 | .con kk f,X,nm,C,E,tk,e,h=>by
  unfold chE at h
  cases h
 | .mk kk args kws sel,X,nm,C,E,tk,e,h=>by
  unfold chE at h
  cases h
 | .mkv kk args fl,X,nm,C,E,tk,e,h=>by
  unfold chE at h
  cases h
 | .mth o m args kws sel,X,nm,C,E,tk,e,h=>by
  unfold chE at h
  cases h
 | .stt kk m args kws sel,X,nm,C,E,tk,e,h=>by
  unfold chE at h
  cases h
 | .isc a kk,X,nm,C,E,tk,e,h=>by
  unfold chE at h
  cases h
 | .dun d o args,X,nm,C,E,tk,e,h=>by
  unfold chE at h
  cases h
 | .fst es,X,nm,C,E,tk,e,h=>by
  unfold chE at h
  cases h
 | .cao o args kws sel,X,nm,C,E,tk,e,h=>by
  unfold chE at h
  cases h
 | .isb neg t a,X,nm,C,E,tk,e,h=>by
  unfold chE at h
  cases h
 | .isr a kk,X,nm,C,E,tk,e,h=>by
  unfold chE at h
  cases h
 | .hcm elt tg it ifs,X,nm,C,E,tk,e,h=>by
  unfold chE at h
  cases h
 | .cgi cl0 elt tg f args kws sel ifs,X,nm,C,E,tk,e,h=>by
  unfold chE at h
  cases h
 | .rfl a f,X,nm,C,E,tk,e,h=>by
  unfold chE at h
  cases h
 | .rmt o m args kws sel,X,nm,C,E,tk,e,h=>by
  unfold chE at h
  cases h
 | .rdu d o args,X,nm,C,E,tk,e,h=>by
  unfold chE at h
  cases h
 | .rin neg kx o,X,nm,C,E,tk,e,h=>by
  unfold chE at h
  cases h
 | .ric a kk,X,nm,C,E,tk,e,h=>by
  unfold chE at h
  cases h
 | .rmv o m kf args fl,X,nm,C,E,tk,e,h=>by
  unfold chE at h
  cases h
 | .rca ..,X,nm,C,E,tk,e,h=>by
  unfold chE at h
  cases h
 | .hnw kk args kws sel,X,nm,C,E,tk,e,h=>by
  unfold chE at h
  cases h
 | .kgt n kx d,X,nm,C,E,tk,e,h=>by
  unfold chE at h
  cases h
 | .pad ..,X,nm,C,E,tk,e,h=>by
  unfold chE at h
  cases h
 | .hlst a,X,nm,C,E,tk,e,h=>by
  unfold chE at h
  cases h
 | .hsr a,X,nm,C,E,tk,e,h=>by
  unfold chE at h
  cases h
 | .hdl a,X,nm,C,E,tk,e,h=>by
  unfold chE at h
  cases h
 | .mn2 a b,X,nm,C,E,tk,e,h=>by
  unfold chE at h
  cases h
 | .fri a,X,nm,C,E,tk,e,h=>by
  unfold chE at h
  cases h
 | .mkt ..,X,nm,C,E,tk,e,h=>by
  unfold chE at h
  cases h
 | .cgm ..,X,nm,C,E,tk,e,h=>by
  unfold chE at h
  cases h
 | .lzg ..,X,nm,C,E,tk,e,h=>by
  unfold chE at h
  cases h
 | .frz a,X,nm,C,E,tk,e,h=>by
  unfold chE at h
  rw[Zaa] at h
  exact ev_frz C.gx (ZaS a C tk _ h.2) h.1
 | .clr a,X,nm,C,E,tk,e,h=>by
  unfold chE at h
  cases h
 | .dsp es,X,nm,C,E,tk,e,h=>by
  unfold chE at h
  cases h
 | .dst a b,X,nm,C,E,tk,e,h=>by
  unfold chE at h
  cases h
 | .dsk a kx vx,X,nm,C,E,tk,e,h=>by
  unfold chE at h
  cases h
 | .dcm kx vx tg it ifs,X,nm,C,E,tk,e,h=>by
  unfold chE at h
  cases h
 | .dcp a,X,nm,C,E,tk,e,h=>by
  unfold chE at h
  cases h
 | .dpr a,X,nm,C,E,tk,e,h=>by
  unfold chE at h
  cases h
 | .dls a,X,nm,C,E,tk,e,h=>by
  unfold chE at h
  cases h
 | .dln a,X,nm,C,E,tk,e,h=>by
  unfold chE at h
  cases h
 | .dix o kx,X,nm,C,E,tk,e,h=>by
  unfold chE at h
  cases h
 | .dget o kx d,X,nm,C,E,tk,e,h=>by
  unfold chE at h
  cases h
 | .ind neg kx o,X,nm,C,E,tk,e,h=>by
  unfold chE at h
  cases h
 | .tds es,X,nm,C,E,tk,e,h=>by
  unfold chE at h
  cases h
 | .tix o kx,X,nm,C,E,tk,e,h=>by
  unfold chE at h
  cases h
 | .tgt o kx d,X,nm,C,E,tk,e,h=>by
  unfold chE at h
  cases h
 | .lsg f args kws sel,X,nm,C,E,tk,e,h=>by
  unfold chE at h
  cases h
 | .tin neg kx o,X,nm,C,E,tk,e,h=>by
  unfold chE at h
  cases h
 | .srd a,X,nm,C,E,tk,e,h=>by
  unfold chE at h
  cases h
 | .srk r a,X,nm,C,E,tk,e,h=>by
  unfold chE at h
  cases h
 | .lrg a,X,nm,C,E,tk,e,h=>by
  unfold chE at h
  cases h
 | .inr neg a b,X,nm,C,E,tk,e,h=>by
  unfold chE at h
  cases h
 | .had a b,X,nm,C,E,tk,e,h=>by
  unfold chE at h
  cases h
 | .mx2 a b,X,nm,C,E,tk,e,h=>by
  unfold chE at h
  cases h
 | .lix o a,X,nm,C,E,tk,e,h=>by
  unfold chE at h
  cases h
 | .hmk kk args kws sel,X,nm,C,E,tk,e,h=>by
  unfold chE at h
  cases h
 | .srt s,X,nm,C,E,tk,e,h=>by
  unfold chE at h
  split at h
  ·simp only[Zaa,Zab] at h
   obtain⟨⟨⟨⟨hc,rfl⟩,h1⟩,h2⟩,h3⟩:=h
   obtain⟨g1,g2⟩:=C.bl h1
   exact ev_srt C.gx hc g1 g2 h2 (chSE_ok s C tk _ h3)
  ·cases h
 | .hst s,X,nm,C,E,tk,e,h=>by
  unfold chE at h
  split at h
  ·simp only[Zaa,Zab] at h
   obtain⟨⟨⟨⟨hc,rfl⟩,h1⟩,h2⟩,h3⟩:=h
   obtain⟨g1,g2⟩:=C.bl h1
   exact ev_hst C.gx hc g1 g2 h2 (chSE_ok s C tk _ h3)
  ·cases h
 | .lse s,X,nm,C,E,tk,e,h=>by
  unfold chE at h
  cases h
theorem chSE_ok:∀(t:SE) {X:Cx} {nm:Nm} (C:CK X g gG tb N call k nm) {E:SX'} (tk:Takes X (fun cls d σ H=>E σ cls d H)) (e:Expr),chSE tb N t nm e=true→EVS X g E e (seT t) (evSE gG call tb.c t)
 | .of a,X,nm,C,E,tk,e,h=>by
  unfold chSE at h
  split at h
  ·simp only[Zaa,Zab] at h
   obtain⟨⟨⟨⟨hc,rfl⟩,h1⟩,h2⟩,h3⟩:=h
   obtain⟨g1,g2⟩:=C.bl h1
   exact es_of C.gx hc g1 g2 h2 (ZaS a C tk _ h3)
  ·cases h
 | .cmp c0 elt tg it ifs,X,nm,C,E,tk,e,h=>by
  unfold chSE at h
  split at h
  ·rename_i elt' tg' it' ifs' sc pos
   simp only[Zaa,Zab] at h
   obtain⟨⟨⟨⟨⟨⟨⟨hc,h1⟩,h2⟩,h3⟩,h4⟩,h5⟩,h6⟩,h7⟩:=h
   have ok:BlkOk X.N X.env.scope sc (ownOf N tg):=by
    refine blkOk_by ?_
    rw[C.hN]
    unfold blkC at h1⊢
    rw[C.nms]
    exact h1
   have hif:∀(s:Shared) (H:Hp) (L:Addr) (cl:List (Str × Addr)) (fp:List Addr),PTs (X.blk s H sc (compEnvC sc cl L X.env) fp) ifs' (tB' g E0 (evIfs gG call tb.c ifs)):=fun s H L cl fp=>by
    cases ifs with
    |nil=>
     cases ifs' with
     |nil=>exact⟨fun pins s σ H Q I ⟨w,env,h,rr,re,q⟩=>pts_nil.run pins s σ H Q I (by unfold evIfs at q; exact q.now rr)⟩
     |cons _ _=>unfold chEs at h6; cases h6
    |cons a r=>
     cases ifs' with
     |nil=>unfold chEs at h6; cases h6
     |cons a' r'=>
      have e2:r'=[]:=ZaL (by simp at h5; exact congrArg List.length h5)
      subst e2
      unfold chEs at h6
      rw[Zaa] at h6
      have z:=(ZaS a (C.blk hc s H sc ok.kind L cl fp) ZdM _ h6.1).pt
      refine⟨fun pins s σ H Q I q=>(pts_one z).run pins s σ H Q I ?_⟩
      obtain⟨w,env,h,rr,re,q⟩:=q
      exact⟨w,env,h,rr,re,by unfold evIfs at q; exact q⟩
   exact es_cmp (sc:=c0) C.gx (C.calm hc) (chIt_ok it C tk tg' it' h4) ok Zg4 (Zg3 (Zfg h2)) (fun s H L cl fp=>(C.blk hc s H sc ok.kind L cl fp).tg hc (C.locB s H sc L cl fp) h2) hif (fun s H L cl fp=>(ZaS elt (C.blk hc s H sc ok.kind L cl fp) ZdM _ h7).pe) h3
  ·cases h
 | .or a b,X,nm,C,E,tk,e,h=>by
  unfold chSE at h
  split at h
  ·simp only[Zaa] at h
   obtain⟨⟨⟨h1,h2⟩,h3⟩,h4⟩:=h
   have ha:=chSE_ok a C tk _ h3
   have hb:=chSE_ok b C tk _ h4
   rw[h1] at ha
   rw[h2] at hb
   have er:evSE gG call tb.c (.or a b)=fun env h=>(evSE gG call tb.c a env h).bind fun l h=>(evSE gG call tb.c b env h).bind fun m h=>seOr l m h:=by
    funext env h
    conv=>lhs; unfold evSE
    rw[h1,h2]
    rfl
   rw[er]
   exact es_or C.gx ha hb
  ·cases h
theorem ZpA:∀(t:Es) {X:Cx} {nm:Nm} (C:CK X g gG tb N call k nm) {E:SX'} (tk:Takes X (fun cls d σ H=>E σ cls d H)) (pos:Pos) (ks:List (Option Expr)) (vs:List Expr),chPs tb N t nm ks vs=true→PrOk X g E pos ks vs (evPs gG call tb.c t)
 | .nil,X,nm,C,E,tk,pos,ks,vs,h=>by
  unfold chPs at h
  rw[Zaa] at h
  cases ks with
  |cons _ _=>cases h.1
  |nil=>
   cases vs with
   |cons _ _=>cases h.2
   |nil=>exact pr_nil
 | .cons kx .nil,X,nm,C,E,tk,pos,ks,vs,h=>by unfold chPs at h; cases h
 | .cons kx (.cons vx r),X,nm,C,E,tk,pos,ks,vs,h=>by
  unfold chPs at h
  dsimp only at h
  split at h
  ·simp only[Zaa] at h
   exact Zoy (ZaS kx C tk _ h.1.1) (ZaS vx C tk _ h.1.2) (ZpA r C tk pos _ _ h.2)
  ·cases h
theorem Zhn:∀(t:Es) {X:Cx} {nm:Nm} (C:CK X g gG tb N call k nm) {E:SX'} (tk:Takes X (fun cls d σ H=>E σ cls d H)) (l:List Expr),ZpC tb N t nm l=true→FJ X g E l (fun acc=>evFs gG call tb.c t acc)
 | .nil,X,nm,C,E,tk,l,h=>by
  unfold ZpC at h
  split at h
  ·have er:(fun acc=>evFs gG call tb.c .nil acc)=fun acc _ h=>.ok (.str acc) h:=by
    funext acc env h
    unfold evFs
    rfl
   rw[er]
   exact fj_nil
  ·cases h
 | .cons t r,X,nm,C,E,tk,l,h=>by
  have er:(fun acc=>evFs gG call tb.c (.cons t r) acc)=Zle (evE gG call tb.c t) (fun acc=>evFs gG call tb.c r acc):=by
   funext acc env h
   conv=>lhs; unfold evFs
   rfl
  rw[er]
  unfold ZpC at h
  split at h
  ·rename_i s _ _ l
   rw[Zaa] at h
   split at h
   ·rename_i z
    simp only[Zaa,Zab] at h
    obtain⟨⟨h1,rfl⟩,h2⟩:=h
    have e0:evE gG call tb.c (.cst (.str z))=fun _ h=>.ok (.str (stt z).cps.toList) h:=by
     funext env h
     unfold evE
     rfl
    rw[e0]
    exact fj_cst (s0:=stt z) h1 C.gx (Zhn r C tk _ h2)
   ·cases h.1
  ·simp only[Zaa,Zab] at h
   obtain⟨⟨rfl,h1⟩,h2⟩:=h
   exact fj_fmt (ZaS t C tk _ h1) (Zhn r C tk _ h2)
  ·cases h
theorem chEs_ok:∀(t:Es) {X:Cx} {nm:Nm} (C:CK X g gG tb N call k nm) {E:SX'} (tk:Takes X (fun cls d σ H=>E σ cls d H)) (l:List Expr),ZdK l=true→chEs tb N t nm l=true→PA X l (tEs g E (evEs gG call tb.c t))
 | .nil,X,nm,C,E,tk,l,hn,h=>by
  cases l with
  |nil=>exact ZnI
  |cons _ _=>unfold chEs at h; cases h
 | .cons a r,X,nm,C,E,tk,l,hn,h=>by
  cases l with
  |nil=>unfold chEs at h; cases h
  |cons a' l=>
   unfold chEs at h
   rw[Zaa] at h
   unfold ZdK at hn
   rw[ZbA,Zaa] at hn
   exact Zk1 hn.1 (ZaS a C tk _ h.1).pe (chEs_ok r C tk _ hn.2 h.2)
theorem ZkP:∀(t:Es) (fl:List Bool) {X:Cx} {nm:Nm} (C:CK X g gG tb N call k nm) {E:SX'} (tk:Takes X (fun cls d σ H=>E σ cls d H)) (l:List Expr),chDs tb N t fl nm l=true→PA X l (tEs g E (evDs gG call tb.c t fl))
 | .nil,fl,X,nm,C,E,tk,l,h=>by
  unfold chDs at h
  split at h
  ·exact ZnI
  ·cases h
 | .cons a r,fl,X,nm,C,E,tk,l,h=>by
  unfold chDs at h
  split at h
  ·rw[Zaa,Zaa] at h
   exact Zk1 h.1.1 (ZaS a C tk _ h.1.2).pe (ZkP r _ C tk _ h.2)
  ·rw[Zaa] at h
   exact ZpJ C.gx (ZaS a C tk _ h.1).pe (ZkP r _ C tk _ h.2)
  ·cases h
theorem chKs_ok:∀(t:Es) {X:Cx} {nm:Nm} (C:CK X g gG tb N call k nm) {E:SX'} (tk:Takes X (fun cls d σ H=>E σ cls d H)) (l:List Keyword),chKs tb N t nm l=true→PK X l (tEs g E (evEs gG call tb.c t))
 | .nil,X,nm,C,E,tk,l,h=>by
  cases l with
  |nil=>exact kv_nil
  |cons _ _=>unfold chKs at h; cases h
 | .cons a r,X,nm,C,E,tk,l,h=>by
  cases l with
  |nil=>unfold chKs at h; cases h
  |cons a' l=>
   obtain⟨n0,e0,p0⟩:=a'
   unfold chKs at h
   rw[Zaa] at h
   exact ZoS (ZaS a C tk _ h.1).pe (chKs_ok r C tk _ h.2)
theorem chAnd_ok:∀(t:Es) {X:Cx} {nm:Nm} (C:CK X g gG tb N call k nm) {E:SX'} (tk:Takes X (fun cls d σ H=>E σ cls d H)) (l:List Expr),l≠[]→chEs tb N t nm l=true→BV X g E .And l (evAnd gG call tb.c t)
 | .nil,X,nm,C,E,tk,l,hn,h=>by
  cases l with
  |nil=>exact absurd rfl hn
  |cons _ _=>unfold chEs at h; cases h
 | .cons a r,X,nm,C,E,tk,l,hn,h=>by
  cases l with
  |nil=>exact absurd rfl hn
  |cons a' l=>
   unfold chEs at h
   rw[Zaa] at h
   have ha:=ZaS a C tk _ h.1
   have hr:=chAnd_ok r C tk l
   cases l with
   |nil=>
    cases r with
    |nil=>exact ZnD ha .And
    |cons _ _=>have z:=h.2; unfold chEs at z; cases z
   |cons b' l=>
    cases r with
    |nil=>have z:=h.2; unfold chEs at z; cases z
    |cons b r=>exact bv_and C.gx ha (hr (fun z=>nomatch z) h.2)
theorem chOr_ok:∀(t:Es) {X:Cx} {nm:Nm} (C:CK X g gG tb N call k nm) {E:SX'} (tk:Takes X (fun cls d σ H=>E σ cls d H)) (l:List Expr),l≠[]→chEs tb N t nm l=true→BV X g E .Or l (evOr gG call tb.c t)
 | .nil,X,nm,C,E,tk,l,hn,h=>by
  cases l with
  |nil=>exact absurd rfl hn
  |cons _ _=>unfold chEs at h; cases h
 | .cons a r,X,nm,C,E,tk,l,hn,h=>by
  cases l with
  |nil=>exact absurd rfl hn
  |cons a' l=>
   unfold chEs at h
   rw[Zaa] at h
   have ha:=ZaS a C tk _ h.1
   have hr:=chOr_ok r C tk l
   cases l with
   |nil=>
    cases r with
    |nil=>exact ZnD ha .Or
    |cons _ _=>have z:=h.2; unfold chEs at z; cases z
   |cons b' l=>
    cases r with
    |nil=>have z:=h.2; unfold chEs at z; cases z
    |cons b r=>exact bv_or C.gx ha (hr (fun z=>nomatch z) h.2)
theorem chOp_ok:∀(t:Op) {X:Cx} {nm:Nm} (C:CK X g gG tb N call k nm) {E:SX'} (tk:Takes X (fun cls d σ H=>E σ cls d H)) (l:Option Expr),chOp tb N t nm l=true→PO X l (tO' g E (evOp gG call tb.c t))
 | .no,X,nm,C,E,tk,l,h=>by
  unfold chOp at h
  split at h
  ·exact ov_no
  ·cases h
 | .so a,X,nm,C,E,tk,l,h=>by
  unfold chOp at h
  split at h
  ·exact ov_so (ZaS a C tk _ h)
  ·cases h
theorem chIt_ok:∀(t:It) {X:Cx} {nm:Nm} (C:CK X g gG tb N call k nm) {E:SX'} (tk:Takes X (fun cls d σ H=>E σ cls d H)) (tg e:Expr),chIt tb N t nm tg e=true→PI X tg e (tI g E (evIt gG call tb.c t))
 | .seq a,X,nm,C,E,tk,tg,e,h=>by
  unfold chIt at h
  exact iv_seq C.gx (ZaS a C tk _ h)
 | .rng a,X,nm,C,E,tk,tg,e,h=>by
  unfold chIt at h
  split at h
  ·simp only[Zaa,Zab] at h
   obtain⟨⟨⟨rfl,h1⟩,h2⟩,h3⟩:=h
   obtain⟨g1,g2⟩:=C.bl h1
   exact iv_rng C.gx g1 g2 (ZaS a C tk _ h3) h2
  ·cases h
 | .rng2 a b,X,nm,C,E,tk,tg,e,h=>by
  unfold chIt at h
  cases h
 | .enum a,X,nm,C,E,tk,tg,e,h=>by
  unfold chIt at h
  cases h
 | .zip a b,X,nm,C,E,tk,tg,e,h=>by
  unfold chIt at h
  cases h
 | .zipg f args kws sel,X,nm,C,E,tk,tg,e,h=>by
  unfold chIt at h
  cases h
 | .itm a,X,nm,C,E,tk,tg,e,h=>by
  unfold chIt at h
  cases h
 | .vls a,X,nm,C,E,tk,tg,e,h=>by
  unfold chIt at h
  cases h
 | .dky a,X,nm,C,E,tk,tg,e,h=>by
  unfold chIt at h
  cases h
end
end
end Rk
/-! Rk.Tr:try:return C(..),except X:raise Y() from None. -/
namespace Rk
open PySem PySem.Spec PyProof.Rows L2
section
variable {X:Cx} {g:Gi} {gG:G} {k:Nat} {E E2:SX'} {W:L2.WX} {e:Expr} {es:List Expr} {ks:List Keyword} {run:Run D} {rs:Run (List D)}
theorem ZoF {α β:Type} {w:Wd} {n:Nat} {r:Res α} {f:α→AH→Res β} {X1 X2:XK} {P:Wd→AH→Hp→β→Prop} (hf:∀a h x h',f a h≠ .exc x h') (q:Za4 g w n ((Za6 r).bind f) X1 P):Za4 g w n (r.bind f) X2 P:=by
 cases r with
 |ok a h=>
  have q:Za4 g w n (f a h) X1 P:=q
  show Za4 g w n (f a h) X2 P
  exact Za4.nx q (hf a h)
 |exc x h=>exact q.elim
 |stuck=>exact q
theorem EV.nx (ha:EV X g E e run):EV X g E2 e (fun env h=>Za6 (run env h)):=by
 refine⟨ha.pe.imp fun σ H Q ⟨w,env,h,rr,re,q⟩=>⟨w,env,h,rr,re,Za4.noexc q⟩,ha.pt.imp fun σ H Q ⟨w,env,h,rr,re,q⟩=>⟨w,env,h,rr,re,?_⟩⟩
 exact ZoF (fun a h x h' z=>by unfold Zbv at z; cases ht:ZbM a<;>rw[ht] at z<;>cases z) q
theorem pa_nx (ha:PA X es (tEs g E rs)):PA X es (tEs g E2 (fun env h=>Za6 (rs env h))):=ha.imp fun σ H Q ⟨w,env,h,rr,re,q⟩=>⟨w,env,h,rr,re,Za4.noexc q⟩
theorem ZhQ {α:Type} {r:Res α} {x:D} {h:AH}:Za6 r≠ .exc x h:=by cases r<;>(intro z; cases z)
theorem Zfh:Takes X (fun cls d σ H=>(fun _:L2.St=>fun _ _ _=>False:SX') σ cls d H):=fun u s' ⟨_,_,_,_,_,_,_,_,_,_,_,_,_,_,_,_,w⟩=>w.elim
theorem xc_mk {kc:Nat} {x:Str} (XC:XcAt X g gG kc x):∃(fI:Addr) (code:Str) (fld:Option Str),ZnN X.prog X.K (g.ca kc) fI code fld∧(∀f,fld=some f→f≠("code":Str))∧PySem.W.subIn X.K (.ref (g.ca kc)) (.type "BaseException")=some true∧PySem.W.typeIn X.K (.ref (g.ca kc))=some (.type "type")∧PySem.W.keepIn X.K (.ref (g.ca kc))=true∧X.mg x=some (.ref (g.ca kc))∧
  ∀(W:L2.WX) (rs:Run (List D)) (DD:Ends) (σ:L2.St) (H:Hp),tS g W (fun env h=>(rs env h).bindX env fun l h=>Zbv ((mkX gG kc l).map fun x=>.xc x env) h) DD σ H→tMkX (g.ca kc) code fld (tEs g (xw W) rs) σ H fun cls d H'=>W cls d σ H':=by
 obtain⟨fI,code,fld,XI,hn,hsub,hty,hk,hm,xk,cd,fo,hcl,rfl,okc,hfo,hff⟩:=XC.ex
 refine⟨fI,_,fld,XI,hn,hsub,hty,hk,hm,fun W rs DD σ H ⟨w,env,h,rr,re,q⟩=>?_⟩
 refine bXA.step q rr re fun w1 h1 H1 l vs ext rr1 re1 rvs q1=>?_
 obtain⟨xx,hx,q1⟩:=ZcZ q1
 obtain⟨xd,hxd,rfl⟩:=Zan.mp hx
 have sc:∀w n,RV g w n (.str cd) (.str (stt cd)):=fun w n=>Za1.mpr ⟨rfl,okc⟩
 have fin:∀(fs:List (Nat × D)),xd=.exc kc fs→(∀w n,Ext w1 h1.nx w n→RVf g w n fs (xFs (stt cd) fld vs))→∀d,H1 d=none→W (.ref (g.ca kc)) (some d) σ (upd H1 d (.xd (xFs (stt cd) fld vs))):=fun fs e1 e2 d hd=>by
  subst e1
  obtain⟨rr2,ext2⟩:=rr1.freeze (o:=.xd (xFs (stt cd) fld vs)) hd
  exact q1 _ _ ext2 rr2 σ _ _ (re1.ext ext2) ⟨kc,fs,d,_,rfl,rfl,rfl,upd_same,e2 _ _ ext2,xk⟩
 unfold mkX at hxd
 rw[hcl] at hxd
 cases fo with
 |none=>
  have hfo:fld=none:=hfo
  subst hfo
  cases l with
  |nil=>
   cases hxd
   rw[Zbo.mp rvs]
   refine⟨rfl,fun d hd=>?_⟩
   rw[Zbo.mp rvs] at fin
   exact fin _ rfl (fun w n e=>ZbV.mpr ⟨_,_,by rw[XC.ec]; rfl,XC.ic,sc _ _,Zch.mpr rfl⟩) d hd
  |cons _ _=>cases hxd
 |some f=>
  have hfo:fld=some (g.an f):=hfo
  subst hfo
  cases l with
  |nil=>cases hxd
  |cons v r=>
   cases r with
   |cons _ _=>cases hxd
   |nil=>
    cases hxd
    obtain⟨u,r2,rfl,rv,r3⟩:=ZaQ.mp rvs
    have r3:=Zbo.mp r3
    subst r3
    refine⟨⟨u,rfl⟩,fun d hd=>?_⟩
    exact fin _ rfl (fun w n e=>ZbV.mpr ⟨_,_,by rw[XC.ec]; rfl,XC.ic,sc _ _,ZbV.mpr ⟨u,[],rfl,hff f rfl,rv.ext e,Zch.mpr rfl⟩⟩) d hd
theorem Zn0 {c:Bool} (G:GX g c k X) (hc:X.calm=true) (tk:L2N.Takes X W) {kc:Nat} {x:Str} {p pos pos':Pos} (XC:XcAt X g gG kc x) (hg:Gl X x) (hdb:(x == ("__debug__":Str))=false) (ha:PA X es (tEs g (xw W) rs)) (hns:ZdK es=true) (h0:es=[]→∀env h,rs env h=.ok [] h):
  SV X g W (.Raise (some (.Call (.Name x p) es [] pos)) none pos') (fun env h=>(rs env h).bindX env fun l h=>Zbv ((mkX gG kc l).map fun x=>.xc x env) h):=by
 obtain⟨fI,code,fld,XI,hn,hsub,hty,hk,hm,mk⟩:=xc_mk XC
 exact (L2N.ps_raise hc tk (ZmZ (p:=p) (pos:=pos) XI (by have:=G.dp; omega) hn hsub hty hk hg hm hdb ha hns fun z σ H Q ⟨w,env,h,rr,re,q⟩=>by rw[h0 z] at q; exact q.now rr [] RVs.nil).pmk).imp fun DD σ H q=>mk W rs DD σ H q
def clnC (call:Cl):Cl:={call with make:=call.mkc}
structure TrCx (X:Cx) (g:Gi) (gG:G) (tb:Tb) (call:Cl) (k:Nat):Prop where
 pa:∀hd:Option Value,PassesOwnAt (model X.prog X.w) (X.A.mark hd) X.A X.env X.xe
 mc:∀x kk,tb.clm.lookup x=some kk→∀n ks sel,tb.kbc.contains (kk,n,ks,sel)=true→MkOkZ true X g gG (clnC call) k kk n ks sel x
 ex:∀y xc,tb.xnm.lookup y=some xc→PySem.W.exmOne X.K (.ref (g.ca xc)) (.ref (g.ca xc))=some true
end
end Rk
/-! Rk.N:statements,defs,the law's end. -/
namespace Rk
open PySem PySem.Spec PyProof.Rows L2
structure SKx (X:Cx) (g:Gi) (gG:G) (tb:Tb) (N:List Str) (call:Cl) (k:Nat) (nm:Nm) (W:L2.WX):Prop extends CK X g gG tb N call k nm where
 fn:(∀x,X.fn x=true)∨∀x,X.env.scope.names.lookup x≠some .cell
 po:PassesOwn (model X.prog X.w) X.A X.env X.xe
 tk:Takes X W
 xg:nm.gen=true→XeG X
 tr:nm.gen=true→tb.c=true→TrCx X g gG tb call k
section
variable {X:Cx} {g:Gi} {gG:G} {tb:Tb} {N:List Str} {call:Cl} {k:Nat} {nm:Nm} {W:L2.WX}
theorem SKx.tk' (C:SKx X g gG tb N call k nm W):Takes X (fun cls d σ H=>xw W σ cls d H):=C.tk
theorem SKx.lf (C:SKx X g gG tb N call k nm W):LocF X nm:=by
 rcases C.fn with hf |hf
 ·exact C.toCK.locD hf
 ·intro x h
  unfold Zm4 at h
  rw[ZaP,Zab,Zab,← C.nms] at h
  have l:X.env.scope.names.lookup x=some .local:=h.resolve_right (hf x)
  exact⟨.inl l,.inr l⟩
theorem chAsgc (C:SKx X g gG tb N call k nm W) {i:Nat} {x:Str} {px pos:Pos} {elt:E} {tg:List Nat} {it:It} {ifs:Es} {e:Expr} (hi:Zk9 N i x=true) (hx:Zm4 nm x=true) (h:chE tb N (.cmpr elt tg it ifs) nm e=true):
  SV X g W (.Assign [.Name x px] e pos) (evS gG call tb.c (.asg i (.cmpr elt tg it ifs))):=by
 obtain⟨l1,l2⟩:=C.lf _ hx
 unfold chE at h
 split at h
 ·rename_i elt' tg' it' ifs' sc pos'
  simp only[Zaa,Zab] at h
  obtain⟨⟨⟨⟨⟨⟨⟨hc,h1⟩,h2⟩,h3⟩,h4⟩,h5⟩,h6⟩,h7⟩:=h
  have ok:BlkOk X.N X.env.scope sc (ownOf N tg):=by
   refine blkOk_by ?_
   rw[C.hN]
   unfold blkC at h1⊢
   rw[C.nms]
   exact h1
  have hif:∀(s:Shared) (H:Hp) (L:Addr) (cl:List (Str × Addr)) (fp:List Addr),PTs (X.blk s H sc (compEnvC sc cl L X.env) fp) ifs' (tB' g E0 (evIfs gG call tb.c ifs)):=fun s H L cl fp=>by
   cases ifs with
   |nil=>
    cases ifs' with
    |nil=>exact⟨fun pins s σ H Q I ⟨w,env,h,rr,re,q⟩=>pts_nil.run pins s σ H Q I (by unfold evIfs at q; exact q.now rr)⟩
    |cons _ _=>unfold chEs at h6; cases h6
   |cons a r=>
    cases ifs' with
    |nil=>unfold chEs at h6; cases h6
    |cons a' r'=>
     have e2:r'=[]:=ZaL (by simp at h5; exact congrArg List.length h5)
     subst e2
     unfold chEs at h6
     rw[Zaa] at h6
     have z:=(ZaS a (C.toCK.blk hc s H sc ok.kind L cl fp) ZdM _ h6.1).pt
     refine⟨fun pins s σ H Q I q=>(pts_one z).run pins s σ H Q I ?_⟩
     obtain⟨w,env,h,rr,re,q⟩:=q
     exact⟨w,env,h,rr,re,by unfold evIfs at q; exact q⟩
  exact Zn3 C.gx (C.calm hc) C.kind (C.sl hi) l1 l2 (chIt_ok it C.toCK C.tk' tg' it' h4) ok Zg4 (Zg3 (Zfg h2)) (fun s H L cl fp=>(C.toCK.blk hc s H sc ok.kind L cl fp).tg hc (C.toCK.locB s H sc L cl fp) h2) hif (fun s H L cl fp=>(ZaS elt (C.toCK.blk hc s H sc ok.kind L cl fp) ZdM _ h7).pe) h3
 ·cases h
theorem ZkO {a:S} {r:Ss} {st:List Stmt} (h:chSs tb N (.cons a r) nm st=true):(∃i,(a=.still i∨a=.sli i)∧chSs tb N r nm st=true)∨∃s st',st=s::st'∧chS tb N a nm s=true∧chSs tb N r nm st'=true:=by
 unfold chSs at h
 cases st with
 |nil=>
  cases a with
  |still i=>exact .inl ⟨i,.inl rfl,h⟩
  |sli i=>exact .inl ⟨i,.inr rfl,h⟩
  |_=>exact absurd h Zi4
 |cons s st=>
  cases a with
  |still i=>exact .inl ⟨i,.inl rfl,h⟩
  |sli i=>exact .inl ⟨i,.inr rfl,h⟩
  |_=>
   have h:=ZaY.mp h
   exact .inr ⟨s,st,rfl,h.1,h.2⟩
mutual
theorem ZnB:∀(t:S) {X:Cx} {nm:Nm} {W:L2.WX} (C:SKx X g gG tb N call k nm W) (st:Stmt),chS tb N t nm st=true→SV X g W st (evS gG call tb.c t)
 | .expr t,X,nm,W,C,st,h=>by
  unfold chS at h
  split at h
  ·rw[Zaa] at h
   exact Zn1 (ZaS t C.toCK C.tk' _ h.2) h.1
  ·cases h
 | .asg i t,X,nm,W,C,st,h=>by
  unfold chS at h
  split at h
  ·simp only[Zaa] at h
   obtain⟨⟨⟨h1,h2⟩,h3⟩,h4⟩:=h
   rw[ZaP] at h4
   rcases h4 with h4 |h4
   ·obtain⟨l1,l2⟩:=C.lf _ h2
    exact sv_asg C.gx (C.sl h1) l1 l2 (ZaS t C.toCK C.tk' _ h3) h4
   ·split at h4
    ·exact chAsgc C h1 h2 h3
    ·unfold chE at h3
     cases h3
    ·unfold chE at h3
     cases h3
    ·unfold chE at h3
     cases h3
    ·unfold chE at h3
     cases h3
    ·cases h4
  ·cases h
 | .asgt is t,X,nm,W,C,st,h=>by
  unfold chS at h
  split at h
  ·simp only[Zaa,Zab] at h
   obtain⟨⟨⟨⟨⟨hc,h1⟩,h2⟩,h3⟩,h4⟩,h5⟩:=h
   have tn:=C.toCK.tn C.lf h2
   have he:=ZaS t C.toCK C.tk' _ h3
   split at h5
   ·rename_i es k1 p1 e pos vs k2 p2
    simp only[Zaa] at h5
    obtain⟨h6,h7⟩:=h5
    split at h7
    ·rename_i hw
     exact Zlq C.gx (C.calm hc) C.kind tn h1 he h6 (by rw[C.nms]; exact hw)
    ·rename_i l hw
     simp only[Zaa,Zab,ZaP] at h7
     obtain⟨⟨⟨⟨⟨h8,h9⟩,h10⟩,h11⟩,h12⟩,h13⟩:=h7
     split at h9
     ·rename_i es'
      unfold chE at h3
      rw[Zaa] at h3
      refine sv_par C.gx (C.calm hc) C.kind tn h8 (chEs_ok es' C.toCK C.tk' _ h3.1 h3.2) h6 (by rw[C.nms]; exact hw) (fun e0 he0 x p e1=>?_) (fun _ _=>h10) h12 h13
      rw[Zaj] at h11
      have:=h11 _ he0
      rw[e1] at this
      rw[C.nms]
      exact ZaC this
     ·cases h9
   ·rename_i hne
    refine Zn2 C.gx (C.calm hc) tn h1 he h4 ?_
    unfold isT
    split
    ·rename_i a1 a2 a3
     exact absurd rfl (hne a1 a2 a3)
    ·rfl
  ·cases h
 | .aug i o t,X,nm,W,C,st,h=>by
  unfold chS at h
  cases h
 | .ret t,X,nm,W,C,st,h=>by
  unfold chS at h
  split at h
  ·exact sv_ret (ZaS t C.toCK C.tk' _ h)
  ·cases h
 | .retn,X,nm,W,C,st,h=>by
  unfold chS at h
  cases h
 | .ifs t a b,X,nm,W,C,st,h=>by
  unfold chS at h
  split at h
  ·simp only[Zaa] at h
   exact sv_if (ZaS t C.toCK C.tk' _ h.1.1) (chSs_ok a C _ h.1.2) (chSs_ok b C _ h.2)
  ·cases h
 | .for tg it b,X,nm,W,C,st,h=>by
  unfold chS at h
  split at h
  ·simp only[Zaa] at h
   exact sv_for (C.calm h.1.1.1.1) C.po (chIt_ok it C.toCK C.tk' _ _ h.1.2) (C.toCK.tg h.1.1.1.1 C.lf h.1.1.1.2) (chSs_ok b C _ h.2) h.1.1.2
  ·cases h
 | .forg tg f args kws sel b,X,nm,W,C,st,h=>by
  unfold chS at h
  cases h
 | .whl t b,X,nm,W,C,st,h=>by
  unfold chS at h
  cases h
 | .brk,X,nm,W,C,st,h=>by
  unfold chS at h
  cases h
 | .cnt,X,nm,W,C,st,h=>by
  unfold chS at h
  cases h
 | .pass,X,nm,W,C,st,h=>by
  unfold chS at h
  cases h
 | .never,X,nm,W,C,st,h=>Zlp
 | .seti o i t,X,nm,W,C,st,h=>by
  unfold chS at h
  split at h
  ·simp only[Zaa] at h
   obtain⟨⟨⟨⟨h1,h2⟩,h3⟩,h4⟩,h5⟩:=h
   exact ZnZ (ZaS t C.toCK C.tk' _ h3) (ZaS o C.toCK C.tk' _ h4) (ZaS i C.toCK C.tk' _ h5) h2 h1
  ·cases h
 | .rse kc es,X,nm,W,C,st,h=>by
  unfold chS at h
  split at h
  ·simp only[Zaa,Zab] at h
   obtain⟨⟨⟨⟨hc,h1⟩,h2⟩,h3⟩,h4⟩:=h
   obtain⟨g1,g2⟩:=C.gl h2
   refine sv_rse C.gx (C.calm hc) C.tk (C.xc _ _ h1) g1 g2 (chEs_ok es C.toCK C.tk' _ h3 h4) h3 fun z env h=>?_
   subst z
   cases es with
   |nil=>unfold evEs; rfl
   |cons a r=>unfold chEs at h4; cases h4
  ·cases h
 | .try1 b cs i hd,X,nm,W,C,st,h=>by
  unfold chS at h
  cases h
 | .trm kk args kws sel xc yc,X,nm,W,C,st,h=>by
  unfold chS at h
  cases h
 | .setd o kx t,X,nm,W,C,st,h=>by
  unfold chS at h
  cases h
 | .sett o kx t,X,nm,W,C,st,h=>by
  unfold chS at h
  cases h
 | .sta o f t,X,nm,W,C,st,h=>by
  unfold chS at h
  cases h
 | .still _,X,nm,W,C,st,h=>by unfold chS at h; cases h
 | .rsf ..,X,nm,W,C,st,h=>by
  unfold chS at h
  cases h
 | .sli _,X,nm,W,C,st,h=>by
  unfold chS at h
  cases h
 | .fgm ..,X,nm,W,C,st,h=>by
  unfold chS at h
  cases h
 | .asx ..,X,nm,W,C,st,h=>by
  unfold chS at h
  cases h
 | .aua i f o t,X,nm,W,C,st,h=>by
  unfold chS at h
  cases h
 | .stp o f t,X,nm,W,C,st,h=>by
  unfold chS at h
  cases h
 | .sat ..,X,nm,W,C,st,h=>by
  unfold chS at h
  cases h
 | .wth t b,X,nm,W,C,st,h=>by
  unfold chS at h
  cases h
 | .mch e cs,X,nm,W,C,st,h=>by
  unfold chS at h
  cases h
 | .lasg i ks,X,nm,W,C,st,h=>by
  unfold chS at h
  cases h
 | .ladd i ks,X,nm,W,C,st,h=>by
  unfold chS at h
  cases h
theorem ZpB:∀(t:Ms) {X:Cx} {nm:Nm} {W:L2.WX} (C:SKx X g gG tb N call k nm W) (l:List MatchCase),chMs tb N t nm l=true→MV X g W l (fun s env h=>evMs gG call tb.c s t env h)
 | .nil,X,nm,W,C,l,h=>by
  cases l with
  |nil=>exact mv_nil
  |cons _ _=>unfold chMs at h; cases h
 | .cons t b r,X,nm,W,C,l,h=>by
  unfold chMs at h
  split at h
  ·simp only[Zaa,Zab] at h
   obtain⟨⟨rfl,h1⟩,h2⟩:=h
   exact ZoI (chSs_ok b C _ h1) (ZpB r C _ h2)
  ·cases h
theorem chSs_ok:∀(t:Ss) {X:Cx} {nm:Nm} {W:L2.WX} (C:SKx X g gG tb N call k nm W) (st:List Stmt),chSs tb N t nm st=true→SVs X g W st (evSs gG call tb.c t)
 | .nil,X,nm,W,C,st,h=>by
  cases st with
  |nil=>exact ZgQ
  |cons _ _=>unfold chSs at h; cases h
 | .cons a r,X,nm,W,C,st,h=>by
  rcases ZkO h with⟨i,e,h⟩ |⟨s,st',e,h1,h2⟩
  ·have z:=chSs_ok r C st h
   rcases e with rfl |rfl
   ·exact Zjh z
   ·exact ZnY z
  ·have z1:=ZnB a C s h1
   have z2:=chSs_ok r C st' h2
   rw[e]
   exact ZhD z1 z2
end
end
/-! ### a def by its body -/
section
end
def stos:List BI→List Nat
 |[]=>[]
 | .reg _::r=>stos r
 | .sto f _::r=>f::stos r
 | .sup _ _::r=>stos r
section
variable {X:Cx} {g:Gi} {gG:G} {tb:Tb} {N:List Str} {call:Cl} {k kk:Nat} {nm:Nm} {EE:XK} {x dx:Addr}
theorem ZeA {FN:Ends→Wd→AH→Hp→List (Nat × D)→Prop} (hnil:PSs X [] (ZhC FN g EE kk x dx fun _ fs h=>.ok fs h)) (hc:tb.c=true) (hme:g.me=some x) (cl:Cls X.K (g.cb kk)):∀(t:List BI) (C:SKx X g gG tb N call k nm (fun cls d _ H=>EE cls d H)) (l:List Stmt),(∀i∈stos t,gG.atr kk i=.fld)→chB tb N t nm l=true→PSs X l (ZhC FN g EE kk x dx fun env fs h=>evB gG call tb.c t env fs h)
 |[],C,l,hf,h=>by
  unfold chB at h
  cases l with
  |nil=>
   have er:(fun env fs h=>evB gG call tb.c [] env fs h)=fun _ fs h=>.ok fs h:=by
    funext env fs h
    unfold evB
    rfl
   rw[er]
   exact hnil
  |cons _ _=>cases h
 | .reg s::r,C,l,hf,h=>by
  unfold chB at h
  cases l with
  |nil=>cases h
  |cons st l=>
   dsimp only at h
   rw[Zaa] at h
   have er:(fun env fs h=>evB gG call tb.c (.reg s::r) env fs h)=fun env fs h=>(Za6 (evS gG call tb.c s env h)).bind fun f h=>match f with
     | .nx e=>if Zld e then evB gG call tb.c r e fs h else .stuck
     | .xc x _=>.exc x h
     |_=>.stuck:=by
    funext env fs h
    conv=>lhs; unfold evB
    all_goals rfl
   rw[er]
   exact ZnF (ZnB s C st h.1) (ZeA hnil hc hme cl r C l (fun i hi=>hf i (by unfold stos; exact hi)) h.2)
 | .sto f t::r,C,l,hf,h=>by
  unfold chB at h
  split at h
  ·simp only[Zaa,Zab] at h
   obtain⟨⟨⟨⟨⟨⟨h1,h2⟩,h3⟩,h4⟩,h5⟩,h6⟩,h7⟩:=h
   obtain⟨v1,v2,v3⟩:=C.toCK.vis h2
   obtain⟨rfl,hlt⟩:=C.an _ _ h3
   have A:=C.cl.fl hc f h4
   have er:(fun env fs h=>evB gG call tb.c (.sto f t::r) env fs h)=fun env fs h=>(evE gG call tb.c t env h).bind fun d h=>if fs.length < 900 then evB gG call tb.c r env (Zd1 f d fs) h else .stuck:=by
    funext env fs h
    conv=>lhs; unfold evB
    skip
   rw[er]
   exact ZkV C.gx C.nmk hlt (C.toCK.sl h1) v1 v2 v3 hme cl (A.fld kk (hf f (by unfold stos; exact Zag))) (ZaS t C.toCK C.tk' _ h6) h5 (ZeA hnil hc hme cl r C _ (fun i hi=>hf i (by unfold stos; exact Zaf _ hi)) h7)
  ·cases h
 | .sup _ _::_,C,l,hf,h=>by unfold chB at h; cases h
def Zlu:List BI→Bool
 |[]=>true
 | .sto _ _::r=>Zlu r
 |_=>false
theorem ZkR {FN:Ends→Wd→AH→Hp→List (Nat × D)→Prop} {rr0:Env→List (Nat × D)→AH→Res (List (Nat × D))} {rest:List Stmt} (hrest:PSs X rest (ZhC FN g EE kk x dx rr0)) (hc:tb.c=true) (hme:g.me=some x) (cl:Cls X.K (g.cb kk)):∀(t:List BI) (C:SKx X g gG tb N call k nm (fun cls d _ H=>EE cls d H)) (l:List Stmt),Zlu t=true→(∀i∈stos t,gG.atr kk i=.fld)→chB tb N t nm l=true→PSs X (l++rest) (ZhC FN g EE kk x dx fun env fs h=>(evB gG call tb.c t env fs h).bind fun fs h=>rr0 env fs h)
 |[],C,l,hs,hf,h=>by
  unfold chB at h
  cases l with
  |nil=>
   have er:(fun env fs h=>(evB gG call tb.c [] env fs h).bind fun fs h=>rr0 env fs h)=rr0:=by
    funext env fs h
    unfold evB
    rfl
   rw[er]
   exact hrest
  |cons _ _=>cases h
 | .reg _::_,C,l,hs,hf,h=>by cases hs
 | .sup _ _::_,C,l,hs,hf,h=>by cases hs
 | .sto f t::r,C,l,hs,hf,h=>by
  unfold chB at h
  split at h
  ·simp only[Zaa,Zab] at h
   obtain⟨⟨⟨⟨⟨⟨h1,h2⟩,h3⟩,h4⟩,h5⟩,h6⟩,h7⟩:=h
   obtain⟨v1,v2,v3⟩:=C.toCK.vis h2
   obtain⟨rfl,hlt⟩:=C.an _ _ h3
   have A:=C.cl.fl hc f h4
   have er:(fun env fs h=>(evB gG call tb.c (.sto f t::r) env fs h).bind fun fs h=>rr0 env fs h)=fun env fs h=>(evE gG call tb.c t env h).bind fun d h=>if fs.length < 900 then ((evB gG call tb.c r env (Zd1 f d fs) h).bind fun fs h=>rr0 env fs h) else .stuck:=by
    funext env fs h
    conv=>lhs; unfold evB
    cases evE gG call tb.c t env h with
    |ok d h1=>
     simp only[bind_ok]
     split<;>rfl
    |exc _ _=>rfl
    |stuck=>rfl
   rw[er]
   exact ZkV C.gx C.nmk hlt (C.toCK.sl h1) v1 v2 v3 hme cl (A.fld kk (hf f (by unfold stos; exact Zag))) (ZaS t C.toCK C.tk' _ h6) h5 (ZkR hrest hc hme cl r C _ hs (fun i hi=>hf i (by unfold stos; exact Zaf _ hi)) h7)
  ·cases h
def FNn (g:Gi) (x:Addr):Ends→Wd→AH→Hp→List (Nat × D)→Prop:=fun D w' h' H' fs'=>∀d,fs'=[(0,d)]→RV g w' h'.nx d (.ref x)→∀σ',D.nx σ' H'
theorem ZpH {c:Bool} {e o:Expr} {p1 pos:Pos} {i j q:Nat} (G:GX g true k X) (tk:Takes X (fun cls d _ H=>EE cls d H)) (hme:g.me=some x) (A:ZpP X g gG call k i) (hq:gG.pst kk i=some q) (he:EV X g (xw fun cls d _ H=>EE cls d H) e (fun env h=>ldV env j h)) (ho:EV X g (xw fun cls d _ H=>EE cls d H) o (fun env h=>ldV env 0 h)) (hn:ncp e=true) (hj:1≤j):
  PSs X [.Assign [.Attribute o (g.an i) p1] e pos] (ZhC (FNn g x) g EE kk x dx fun env fs h=>(ldV env j h).bind fun v h=>(call.pr q [.ref h.nx,v] (h.new (.ins kk fs))).bind fun _ h'=>.ok [(0,.ref h.nx)] h'):=by
 refine (pss_one (sv_stp G tk A he ho hn)).imp fun D σ H ⟨w,env,h,fs,gs,N0,ren,hm,rf,q0⟩=>?_
 obtain⟨rr2,x2⟩:=N0.cell rf
 obtain⟨x',hx',hσ⟩:=ren.me hm
 obtain rfl:x=x':=by rw[hme] at hx'; exact Option.some.inj hx'
 have rvx:RV g ⟨fun k=>if k=h.nx then x else w.m k,w.F,w.Z⟩ (h.nx+1) (.ref h.nx) (.ref x):=Zb0.mpr ⟨by show V.ref x=V.ref (if h.nx=h.nx then x else w.m h.nx); rw[if_pos rfl],Zbc _⟩
 have ren2:=(ren.ext x2).reset hσ rvx
 refine⟨_,env.set 0 (.v (.ref h.nx)),h.new (.ins kk fs),rr2,ren2,?_⟩
 unfold stpR
 dsimp only at q0
 cases env with
 |nil=>cases hm
 |cons s0 env=>
  obtain⟨j,rfl⟩:∃j',j=j'+1:=⟨j - 1,by omega⟩
  rw[Zas]
  dsimp only
  unfold ldV at q0⊢
  rw[Zaq] at q0
  rw[Zaq]
  cases ej:env[j]? with
  |none=>rw[ej] at q0; exact q0.elim
  |some sl=>
   rw[ej] at q0
   cases sl with
   |v v=>
    dsimp only[bind_ok] at q0⊢
    rw[bindX_ok,ZaA]
    dsimp only
    rw[bindX_ok]
    have hi:Zc1 (.ref h.nx) (h.new (.ins kk fs))=some (kk,fs):=by
     show (match (h.new (.ins kk fs)).cell h.nx with
      | .ins c fs=>some (c,fs)
      |_=>none)=_
     rw[show (h.new (.ins kk fs)).cell h.nx=.ins kk fs from if_pos rfl]
    rw[hi]
    dsimp only
    rw[hq]
    dsimp only
    have q0:Za4 g w h.nx ((call.pr q [.ref h.nx,v] (h.new (.ins kk fs))).bind fun _ h'=>.ok [(0,.ref h.nx)] h') EE (FNn g x D):=q0
    cases hr:call.pr q [.ref h.nx,v] (h.new (.ins kk fs)) with
    |ok u h4=>
     rw[hr] at q0
     intro w' H' ext rr4 σ' _
     refine q0 w' H' (x2.trans ext) rr4 (.ref h.nx) rfl ?_ σ'
     refine Zb0.mpr ⟨?_,ZaT (Zbc _) ext.le⟩
     rw[ext.m h.nx (Zbc _)]
     show V.ref x=V.ref (if h.nx=h.nx then x else w.m h.nx)
     rw[if_pos rfl]
    |exc y h4=>
     rw[hr] at q0
     intro w' H' ext rr4 σ' cls d _ rx
     exact q0 w' H' cls d (x2.trans ext) rr4 rx
    |stuck=>rw[hr] at q0; exact q0.elim
   |_=>exact q0.elim
theorem ZnC (hc:tb.c=true) (hme:g.me=some x) (cl:Cls X.K (g.cb kk)) (t:List BI) (C:SKx X g gG tb N call k nm (fun cls d _ H=>EE cls d H)) (l:List Stmt) (h1:∀i∈stos t,gG.atr kk i=.fld) (h2:chB tb N t nm l=true):PSs X l (tBI g EE kk x dx fun env fs h=>evB gG call tb.c t env fs h):=
 ZeA ZnG hc hme cl t C l h1 h2
end
section
variable {X:Cx} {g:Gi} {gG:G} {tb:Tb} {N:List Str} {call:Cl} {k kk:Nat} {nm:Nm} {EE:XK} {x dx:Addr} {W:L2.WX}
theorem Zmo {t:E} {kc:Nat} {es:Es} {env:Rk.Env} {h:AH}:Zpj gG call (.ifs t (.cons (.rse kc es) .nil) .nil) env h=(Za6 (evE gG call true t env h)).bind fun x h=>match ZbM x with
  |some true=>(Za6 (evEs gG call true es env h)).bind fun l h=>Zbv ((mkX gG kc l).map fun x=>.xc x env) h
  |some false=>.ok (.nx env) h
  |none=>.stuck:=rfl
theorem sv_ifx (hc:tb.c=true) (C:CK X g gG tb N call k nm) (tk:L2N.Takes X W) {t:E} {kc:Nat} {es:Es} {st:Stmt} (h:chS tb N (.ifs t (.cons (.rse kc es) .nil) .nil) nm st=true):SV X g W st (Zpj gG call (.ifs t (.cons (.rse kc es) .nil) .nil)):=by
 unfold chS at h
 split at h
 ·rename_i e p q pos
  simp only[Zaa] at h
  obtain⟨⟨h1,h2⟩,h3⟩:=h
  unfold chSs at h2 h3
  dsimp only at h2
  cases p with
  |nil=>cases h2
  |cons st' p'=>
   cases q with
   |cons _ _=>cases h3
   |nil=>
    rw[Zaa] at h2
    obtain⟨h2,h4⟩:=h2
    unfold chSs at h4
    cases p' with
    |cons _ _=>cases h4
    |nil=>
     unfold chS at h2
     split at h2
     ·simp only[Zaa,Zab] at h2
      obtain⟨⟨⟨⟨_,k1⟩,k2⟩,k3⟩,k4⟩:=h2
      obtain⟨g1,g2⟩:=C.gl k2
      have ht:=ZaS t C (Zfh (X:=X)) _ h1
      have ha:=chEs_ok es C (Zfh (X:=X)) _ k3 k4
      rw[hc] at ht ha
      have r:=fun p0 p1 p2=>Zn0 (p:=p0) (pos:=p1) (pos':=p2) (W:=W) (rs:=fun env h=>Za6 (evEs gG call true es env h)) C.gx (C.calm hc) tk (C.xc _ _ k1) g1 g2 (pa_nx ha) k3 fun z env h=>by
       subst z
       cases es with
       |nil=>unfold evEs; rfl
       |cons a r=>unfold chEs at k4; cases k4
      refine (sv_if (W:=W) (EV.nx ht) (ZhD (r _ _ _) ZgQ) ZgQ).imp fun D σ H ⟨w,env,h,rr,re,q⟩=>⟨w,env,h,rr,re,?_⟩
      rw[Zmo] at q
      show Za4 g w h.nx (((Za6 (evE gG call true t env h)).bind fun x h=>Zbv (ZbM x) h).bindX env _) _ _
      cases hr:Za6 (evE gG call true t env h) with
      |stuck=>rw[hr] at q; exact q.elim
      |exc x' h'=>exact absurd hr ZhQ
      |ok d h1=>
       rw[hr] at q
       rw[bind_ok] at q⊢
       cases hd:ZbM d with
       |none=>rw[hd] at q; exact q.elim
       |some b=>
        rw[hd] at q
        cases b with
        |false=>exact q
        |true=>
         dsimp only at q
         show Za4 g w h.nx (((Za6 (evEs gG call true es env h1)).bindX env fun l h=>Zbv ((mkX gG kc l).map fun x=>Fl.xc x env) h).bind _) _ _
         cases hl:Za6 (evEs gG call true es env h1) with
         |stuck=>rw[hl] at q; exact q.elim
         |exc x' h'=>exact absurd hl ZhQ
         |ok l2 h2'=>
          rw[hl] at q
          rw[bind_ok] at q
          rw[bindX_ok]
          cases hm:mkX gG kc l2 with
          |none=>rw[hm] at q; exact q.elim
          |some y=>rw[hm] at q; exact q
     ·cases h2
 ·cases h
theorem ZkQ (hc:tb.c=true) (hme:g.me=some x) (cl:Cls X.K (g.cb kk)) (tk:L2N.Takes X fun cls d _ H=>EE cls d H):∀(t:List BI) (C:CK X g gG tb N call k nm) (l:List Stmt),(∀i∈stos t,gG.atr kk i=.fld)→chB tb N t nm l=true→PSs X l (tBI g EE kk x dx fun env fs h=>evC gG call t env fs h)
 |[],C,l,hf,h=>by
  unfold chB at h
  cases l with
  |nil=>
   have er:(fun env fs h=>evC gG call [] env fs h)=fun _ fs h=>.ok fs h:=by
    funext env fs h
    unfold evC
    rfl
   rw[er]
   exact ZnG
  |cons _ _=>cases h
 | .reg s::r,C,l,hf,h=>by
  unfold chB at h
  cases l with
  |nil=>cases h
  |cons st l=>
   dsimp only at h
   rw[Zaa] at h
   have er:(fun env fs h=>evC gG call (.reg s::r) env fs h)=fun env fs h=>(Za6 (Zpj gG call s env h)).bind fun f h=>match f with
     | .nx e=>if Zld e then evC gG call r e fs h else .stuck
     | .xc x _=>.exc x h
     |_=>.stuck:=by
    funext env fs h
    conv=>lhs; unfold evC
    all_goals rfl
   rw[er]
   have rest:=ZkQ hc hme cl tk r C l (fun i hi=>hf i (by unfold stos; exact hi)) h.2
   have no:(∀env h,Zpj gG call s env h=.stuck)→PSs X (st::l) (tBI g EE kk x dx fun env fs h=>(Za6 (Zpj gG call s env h)).bind fun f h=>match f with
     | .nx e=>if Zld e then evC gG call r e fs h else .stuck
     | .xc x _=>.exc x h
     |_=>.stuck):=fun hst=>⟨fun pins s' σ H D I ⟨w,env,h,fs,gs,N,re,hm,rf,q⟩=>by
    dsimp only at q
    rw[hst env h] at q
    exact q.elim⟩
   by_cases hsh:∃t kc es,s=.ifs t (.cons (.rse kc es) .nil) .nil
   ·obtain⟨t,kc,es,rfl⟩:=hsh
    exact ZnF (sv_ifx hc C tk h.1) rest
   ·refine no fun env h=>?_
    unfold Zpj
    split
    ·exact absurd ⟨_,_,_,rfl⟩ hsh
    ·rfl
 | .sto f t::r,C,l,hf,h=>by
  unfold chB at h
  split at h
  ·simp only[Zaa,Zab] at h
   obtain⟨⟨⟨⟨⟨⟨h1,h2⟩,h3⟩,h4⟩,h5⟩,h6⟩,h7⟩:=h
   obtain⟨v1,v2,v3⟩:=C.vis h2
   obtain⟨rfl,hlt⟩:=C.an _ _ h3
   have A:=C.cl.fl hc f h4
   have er:(fun env fs h=>evC gG call (.sto f t::r) env fs h)=fun env fs h=>(Za6 (evE gG call true t env h)).bind fun d h=>if fs.length < 900 then evC gG call r env (Zd1 f d fs) h else .stuck:=by
    funext env fs h
    conv=>lhs; unfold evC
    skip
   rw[er]
   have he:=ZaS t C (Zfh (X:=X)) _ h6
   rw[hc] at he
   exact ZkV C.gx C.nmk hlt (C.sl h1) v1 v2 v3 hme cl (A.fld kk (hf f (by unfold stos; exact Zag))) (EV.nx he) h5 (ZkQ hc hme cl tk r C _ (fun i hi=>hf i (by unfold stos; exact Zaf _ hi)) h7)
  ·cases h
 | .sup _ _::_,C,l,hf,h=>by unfold chB at h; cases h
end
section
variable {P:Program} {w:World} {K:PySem.W.Frag} {mg:Str→Option Value} {base:Heap}
theorem Zks {z:Bool} {k:Nat} {x qual:Str} {params:Arguments} {body:List Stmt} {scope:Scope} {dvs:List V} {kws:List (Str × V)} {f:Addr} {fd:FuncData} {N ps:List Str} {sp:Sp} (F:FunD K x qual params body scope dvs kws f fd) (S:FnScope N ps scope)
  (hbody:∀(cdv:Value) (A:Around) (outer:List PySem.Env) (s:Shared) (H:Hp) (vs:List V) (Q:VK) (E:XK),fd.code=cdv→Zcf k (A.deeper (envOfC qual scope s.heap.objs.size f cdv))→A.handled=none→vs.length=ps.length→sp vs H Q E→
   ∃t,PSs (cxOf (CXZ z P w) P w K mg base N qual scope f cdv A outer s H E) body t∧t {nx:=fun _ H'=>Q .non H',rt:=Q} (start N vs) H):FnG z P w K mg base (k+1) true f fd ps sp:=by
 obtain⟨oc,od,dV,kV,doc,pm,an,cdv,ct,osl,rfl,lk,hcd,_,_⟩:=F.ex
 constructor
 intro A outer s H args Q E G room calm e0 hb hsp
 have hcalm:=calm rfl
 have inK:K.In s.heap:=e0.mod.kin.keeps fun b o e=>(e0.bs b o e).1
 have hdep:A.depth < recursionLimit:=by have:=room.dp; omega
 refine codeAny_call_function hdep (inK _ _ lk) rfl S.co S.gen rfl (PySem.W.codeRec_of inK hcd) (hb _ _ _ ?_)
 intro s2 H2 vs us e2 un ho hx rel hlen hg
 have noLim:s2.heap.NoLimit:=e0.mod.nolimit.keeps fun b o e=>(e2.bs b o e).1
 have kinds:∀y∈ps.zip us,scope.names.lookup y.1=some .local∨(scope.names.lookup y.1=some .cell∧((cellsFrom (s2.heap.objs.size+1) scope.names []).lookup y.1).isSome=true):=by
  intro y hy
  have hm:y.1∈ps:=(ZpV (a:=y.1) (b:=y.2) hy).1
  rcases S.par y.1 hm with z |z
  ·left; exact z
  ·right; exact⟨z,PySem.W.cellsFrom_some _ _ _ (.inl z)⟩
 refine wpAny_newFunctionEnv_cells S.kind kinds ?_
 intro env henv s1 entered
 subst henv
 refine⟨noLim.keeps entered.toInCall.keep,codeAny_func ?_⟩
 obtain⟨t,ht,hq⟩:=hbody cdv A outer s2 H2 vs Q E rfl (room.deeper _) hcalm hlen (hsp _ _ hg)
 have inv:=inv_start (CX:=CXZ z P w) (E:=E) S hcalm e2 hlen rel entered
 refine wpAny_mono (ht.run [] s1 (start N vs) H2 _ inv hq) ?_ fun e s' z=>wpAny_mono z (fun _ s'' z=>hx e s'' z) fun e' s'' z=>hx e' s'' z
 intro fl s' hfl
 cases fl with
 |ret u=>
  obtain⟨v,σ',H',J,rv,q⟩:=hfl
  exact⟨v,H',J.os.trans ho,J.bare,un.trans J.base,J.hok,rv,q⟩
 |next=>
  obtain⟨σ',H',J,q⟩:=hfl
  exact⟨.non,H',J.os.trans ho,J.bare,un.trans J.base,J.hok,rfl,q⟩
 |brk=>
  obtain⟨_,_,_,q⟩:=hfl
  exact q.elim
 |cont=>
  obtain⟨_,_,_,q⟩:=hfl
  exact q.elim
theorem Zgw {k:Nat} {x qual:Str} {params:Arguments} {body:List Stmt} {scope:Scope} {dvs:List V} {kws:List (Str × V)} {f:Addr} {fd:FuncData} {N ps:List Str} {sp:Sp} (F:FunD K x qual params body scope dvs kws f fd) (S:FnScope N ps scope)
  (hbody:∀(cdv:Value) (A:Around) (outer:List PySem.Env) (s:Shared) (H:Hp) (vs:List V) (Q:VK) (E:XK),fd.code=cdv→Zcf k (A.deeper (envOfC qual scope s.heap.objs.size f cdv))→A.handled=none→vs.length=ps.length→sp vs H Q E→
   ∃t,PSs (cxOf (L2.CX P w) P w K mg base N qual scope f cdv A outer s H E) body t∧t {nx:=fun _ H'=>Q .non H',rt:=Q} (start N vs) H):FnG false P w K mg base (k+1) true f fd ps sp:=Zks (z:=false) F S hbody
end
theorem ZfP {g:Gi} {w:Wd} {n:Nat} {r:Res Fl} {E:XK} {Q:VK} (q:Za4 g w n (fin r) E (PV g Q)):Za4 g w n r NoX (PF g (fun cls d _ H=>E cls d H) {nx:=fun _ H'=>Q .non H',rt:=Q}):=by
 cases r with
 |stuck=>exact q
 |exc x h=>exact q.elim
 |ok f h=>
  cases f with
  |nx e=>exact fun w' H' ext rr σ re=>q w' H' ext rr _ (ZdY.mpr rfl)
  |rt d=>exact fun w' H' ext rr=>q w' H' ext rr
  |bk e=>exact q.elim
  |ct e=>exact q.elim
  |xc x e=>exact fun w' H' ext rr σ cls d re rx=>q w' H' cls d ext rr rx
end Rk
/-! Rk.O:the law's call. -/
namespace Rk
open PySem PySem.Spec PyProof.Rows L2
section
variable {P:Program} {w:World} {K:PySem.W.Frag} {mg mb:Str→Option Value} {k:Nat} {fa a:Addr} {fd:FuncData} {x:Str} {sp:Sp} {s:Shared} {us:List Value} {ns:List Int}
def ZgW (K:PySem.W.Frag) (a:Addr) (us:List Value) (ns:List Int) (cs:List (Addr × Addr)):Hp:=fun b=>
 if b∈cs.map (·.2) then some (.tbl #[]) else if b=a∧K.lookup a=none then some (.frz {cls:=.type "list",data:=.seq us.toArray} (.lst (ns.map V.int))) else none
variable {cs:List (Addr × Addr)}
theorem Zem {b:Addr} {u:HO} (h:ZgW K a us ns cs b=some u):(b∈cs.map (·.2)∧u=.tbl #[])∨b=a∧K.lookup a=none∧u=.frz {cls:=.type "list",data:=.seq us.toArray} (.lst (ns.map V.int)):=by
 unfold ZgW at h
 by_cases hb:b∈cs.map (·.2)
 ·rw[if_pos hb] at h
  cases h
  exact .inl ⟨hb,rfl⟩
 ·rw[if_neg hb] at h
  obtain⟨⟨h1,h2⟩,h3⟩:=Zcr h
  exact .inr ⟨h1,h2,h3.symm⟩
structure ZgG (K:PySem.W.Frag) (h:Heap) (cs:List (Addr × Addr)):Prop where
 at_:∀p∈cs,h.get? p.2=some {cls:=.none,data:=.fields #[]}
 nk:∀p∈cs,K.lookup p.2=none
 hd:∀p∈cs,PySem.W.CodeHd h p.1 p.2
theorem ZgG.noa (T:ZgG K s.heap cs) (ha:s.heap.get? a=some {cls:=.type "list",data:=.seq us.toArray}):a∉cs.map (·.2):=fun z=>by
 obtain⟨p,hp,e⟩:=Zah.mp z
 have q:=T.at_ p hp
 rw[e,ha] at q
 have z':Data.seq us.toArray _=Data.fields #[]:=congrArg Obj.data (Option.some.inj q)
 cases z'
theorem Zok (T:ZgG K s.heap cs) (KX:K.In s.heap) (ha:s.heap.get? a=some {cls:=.type "list",data:=.seq us.toArray}) (hi:IntsAre us ns) (hl:ns.length≤sizeLine):SqL K (ZgW K a us ns cs) a (ns.map V.int):=by
 have rel:=vals_ints hi
 have len:=hi.length
 cases hk:K.lookup a with
 |none=>
  refine .inl (.inr ⟨{cls:=.type "list",data:=.seq us.toArray},?_⟩)
  unfold ZgW
  rw[if_neg (T.noa ha)]
  exact if_pos ⟨rfl,hk⟩
 |some o=>
  have e:=KX a o hk
  rw[ha] at e
  have e:=Option.some.inj e
  subst e
  refine .inr ⟨_,us.toArray,_,hk,rfl,rfl,rfl,?_,?_⟩
  ·rw[List.size_toArray,len]; exact hl
  ·simpa using rel
theorem Zol (T:ZgG K s.heap cs) (ha:s.heap.get? a=some {cls:=.type "list",data:=.seq us.toArray}) (hi:IntsAre us ns) (hl:ns.length≤sizeLine):HOk P w (ZgW K a us ns cs) s.heap:=by
 intro b u hb
 rcases Zem hb with⟨hm,rfl⟩ |⟨rfl,_,rfl⟩
 ·obtain⟨p,hp,e⟩:=Zah.mp hm
  rw[← e]
  exact T.at_ p hp
 ·refine⟨ha,?_,us,_,vals_ints hi,ha⟩
  rw[Zac]
  exact hl
theorem Zoj (T:ZgG K s.heap cs) (KX:K.In s.heap) (hns:s.heap.Ns mainGlobals mg) (hb:s.heap.Ns builtinsNs mb) (hbb:∀x:Str,x≠"__name__"→mb x=bootBuiltins x) (hlim:s.heap.NoLimit) (hg:s.gens= #[])
  (hbm:∃(bm:Addr) (ob:Obj),mg "__builtins__"=some (.ref bm)∧bm≠builtinsNs∧s.heap.get? bm=some ob∧ob.cls=.type "module"∧ob.dict=some builtinsNs∧ob.data=.plain)
  (ha:s.heap.get? a=some {cls:=.type "list",data:=.seq us.toArray}) (hi:IntsAre us ns) (hl:ns.length≤sizeLine):
  Env0 P w K mg (hidT s.heap (ZgW K a us ns cs)) callerA [] s (ZgW K a us ns cs)∧∀p∈cs,LamX.TabB (hidT s.heap (ZgW K a us ns cs)) mg p.1 p.2:=by
 have seen:∀{b:Addr} {o:Obj},s.heap.get? b=some o→(b=a→K.lookup a≠none)→b∉cs.map (·.2)→(hidT s.heap (ZgW K a us ns cs)).get? b=some o:=by
  intro b o hb hne hnt
  refine hidT_get hb ?_
  cases q:ZgW K a us ns cs b with
  |none=>rfl
  |some u=>
   rcases Zem q with⟨hm,_⟩ |⟨h1,h2,_⟩
   ·exact absurd hm hnt
   ·exact absurd h2 (hne h1)
 -- an object of another form is no table and no script
 have other:∀{b:Addr} {o:Obj},s.heap.get? b=some o→(∀vs n,o.data≠ .seq vs n)→o.data≠ .fields #[]→(hidT s.heap (ZgW K a us ns cs)).get? b=some o:=fun {b o} e h1 h2=>by
  refine seen e (fun z=>?_) fun z=>?_
  ·rw[z,ha] at e
   cases e
   exact (h1 _ _ rfl).elim
  ·obtain⟨p,hp,e'⟩:=Zah.mp z
   have q:=T.at_ p hp
   rw[e',e] at q
   cases q
   exact (h2 rfl).elim
 have names:∀{b:Addr} {m:Str→Option Value},s.heap.Ns b m→(hidT s.heap (ZgW K a us ns cs)).Ns b m:=by
  rintro b m ⟨o,es,ep,h1,h2,h3⟩
  exact⟨o,es,ep,other h1 (fun vs n z=>by rw[h2] at z; cases z) (fun z=>by rw[h2] at z; cases z),h2,h3⟩
 have kin:K.In (hidT s.heap (ZgW K a us ns cs)):=fun b o hb=>seen (KX b o hb) (fun hba hn=>by
  rw[hba,hn] at hb
  cases hb) fun z=>by
  obtain⟨p,hp,e⟩:=Zah.mp z
  rw[← e,T.nk p hp] at hb
  cases hb
 obtain⟨mc,c1,c2⟩:=hlim
 refine⟨{frames:=rfl,mod:={kin:=kin,glob:=names hns,blt:=⟨mb,names hb,hbb⟩,nolimit:=⟨mc,names c1,c2⟩},bs:=fun b o hb=>of_hidT hb,bsz:=Nat.le_of_eq (hidT_size _ _),funs:=trivial,frf:=fun b hb=>absurd (show b∈([]:List Addr) from hb) (by simp),hok:=Zol T ha hi hl,bare:=.of_eq hg},fun p hp=>⟨?_,?_,fun z=>?_⟩⟩
 ·obtain⟨o,us',file,tf,flags,tg,inF,text,tt,e1,r1,r2,r3,r4⟩:=T.hd p hp
  refine⟨o,us',file,tf,flags,tg,inF,text,tt,other e1 (fun vs n z=>?_) (fun z=>?_),r1,r2,r3,r4⟩
  ·rw[r2] at z; cases z
  ·rw[r2] at z
   cases z
   simp at r3
 ·obtain⟨bm,ob,b1,b2,b3,b4,b5,b6⟩:=hbm
  refine⟨bm,ob,b1,b2,fun q=>?_,fun q=>?_,other b3 (fun vs n z=>by rw[b6] at z; cases z) (fun z=>by rw[b6] at z; cases z),b4,b5,b6⟩
  ·obtain⟨o,es,ep,e,hd,_⟩:=hns
   rw[q,e] at b3
   cases b3
   rw[hd] at b6
   cases b6
  ·rw[q,T.at_ p hp] at b3
   cases b3
   cases b6
 ·obtain⟨o,es,ep,e,hd,_⟩:=hns
  rw[z,T.at_ p hp] at e
  cases e
  cases hd
theorem lawG (T:ZgG K s.heap cs) (KX:K.In s.heap) (hns:s.heap.Ns mainGlobals mg) (hb:s.heap.Ns builtinsNs mb) (hbb:∀x:Str,x≠"__name__"→mb x=bootBuiltins x) (hlim:s.heap.NoLimit) (hg:s.gens= #[])
  (hbm:∃(bm:Addr) (ob:Obj),mg "__builtins__"=some (.ref bm)∧bm≠builtinsNs∧s.heap.get? bm=some ob∧ob.cls=.type "module"∧ob.dict=some builtinsNs∧ob.data=.plain)
  (ha:s.heap.get? a=some {cls:=.type "list",data:=.seq us.toArray}) (hi:IntsAre us ns) (hl:ns.length≤sizeLine) (room:Zcf k callerA)
  (F:∀base:Heap,K.In base→base.Ns mainGlobals mg→(∀p∈cs,LamX.TabB base mg p.1 p.2)→FnG false P w K mg base k true fa fd [x] sp) (bind:∀(s:Shared) (u:Value),BindsTo s fd ⟨[u],[]⟩ [(x,u)])
  (hsp:∀H:Hp,(∀p∈cs,H p.2=some (.tbl #[]))→SqL K H a (ns.map V.int)→sp [.ref a] H (fun v _=>v=.bl true) fun _ _ _=>False):
  codeAny (model P w) callerA (.call (.ref fa) ⟨[.ref a],[]⟩) (fun r s'=>r=.ok (.ret (.bool true))∧OldK s.heap s'.heap∧s'.os=s.os∧AllBare s'.gens) s:=by
 obtain⟨e0,tb⟩:=Zoj (P:=P) (w:=w) T KX hns hb hbb hlim hg hbm ha hi hl
 have fn:=F _ e0.mod.kin e0.mod.glob tb
 have tabH:∀p∈cs,ZgW K a us ns cs p.2=some (.tbl #[]):=fun p hp=>if_pos (Zah.mpr ⟨p,hp,rfl⟩)
 refine codeAny_mono (fn.run callerA [] s _ ⟨[.ref a],[]⟩ [.ref a] [.ref a] _ _ room (fun _=>rfl) e0 rfl (bind s (.ref a)) (.cons rfl .nil) (hsp _ tabH (Zok T KX ha hi hl))) ?_
 intro r s' h
 cases r with
 |error e=>
  obtain⟨_,_,_,_,_,_,_,_,_,_,_,_,z⟩:=h
  exact z.elim
 |ok fl=>
  cases fl with
  |next=>exact h.elim
  |brk=>exact h.elim
  |cont=>exact h.elim
  |ret u=>
   obtain⟨v,H',os,bare,un,ok',rel,q⟩:=h
   have q:v=.bl true:=q
   rw[q] at rel
   have rel:u=Value.bool true:=rel
   have key:∀b o,b∉cs.map (·.2)→s.heap.get? b=some o→s'.heap.get? b=some o:=fun b o nb hbo=>by
    cases q:ZgW K a us ns cs b with
    |none=>exact un.keep b o hbo q (fun z=>absurd (show b∈([]:List Addr) from z) (by simp)) (by simp)
    |some u=>
     rcases Zem q with⟨hm,_⟩ |⟨e1,e2,e3⟩
     ·exact absurd hm nb
     ·rw[e3] at q
      obtain⟨k1,_⟩:=ok' b _ (un.frzs b _ _ q)
      rw[e1,ha] at hbo
      have e:=Option.some.inj hbo
      rw[← e]
      exact k1
   have grown:∀p∈cs,∃more:Array Value,s'.heap.get? p.2=some {cls:=.none,data:=.fields more}:=fun p hp=>by
    obtain⟨more,z⟩:=un.tbls p.2 #[] (tabH p hp)
    exact⟨_,ok' p.2 _ z⟩
   refine⟨by rw[rel],⟨fun b o e=>?_,fun b o e=>?_⟩,os,bare⟩
   ·by_cases hb:b∈cs.map (·.2)
    ·obtain⟨p,hp,ep⟩:=Zah.mp hb
     obtain⟨more,hm⟩:=grown p hp
     rw[← ep] at e⊢
     rw[T.at_ p hp] at e
     cases e
     exact .inr (.inl ⟨((T.hd p hp).tab (T.at_ p hp)).isCodeTable,rfl,#[],more,rfl,by rw[Array.empty_append]; exact hm⟩)
    ·exact .inl (key b o hb e)
   ·by_cases hb:b∈cs.map (·.2)
    ·obtain⟨p,hp,ep⟩:=Zah.mp hb
     obtain⟨more,hm⟩:=grown p hp
     rw[← ep]
     exact⟨_,hm⟩
    ·exact⟨o,key b o hb e⟩
end
theorem walkG {l:PySem.W.OpenLaw} {n k:Nat} {q:Program} {loose:List Str} {XP:(Str→Option Value)→Heap→Prop} {YP:World→Heap→Prop} {d:DefRec} {x:Str}
  (most:l.most=some n) (small:n≤sizeLine) (nodef:d.params.defaults=[]) (room:Zcf k callerA)
  (F:∀(w:World) (mg:Str→Option Value) (fa:Addr) (h:Heap),YP w h→h.Ns mainGlobals mg→mg d.name=some (.ref fa)→
   ∃(K:PySem.W.Frag) (cs:List (Addr × Addr)) (fd:FuncData) (sp:Sp),K.In h∧ZgG K h cs∧(∀(s:Shared) (u:Value),BindsTo s fd ⟨[u],[]⟩ [(x,u)])∧
    (∀(H:Hp) (a:Addr) (ns:List Int),ns.length≤n→(∀p∈cs,H p.2=some (.tbl #[]))→SqL K H a (ns.map V.int)→sp [.ref a] H (fun v _=>v=.bl true) fun _ _ _=>False)∧
    ∀base:Heap,K.In base→base.Ns mainGlobals mg→(∀p∈cs,LamX.TabB base mg p.1 p.2)→FnG false l.prog w K mg base k true fa fd [x] sp):
  PySem.W.WalkO q loose XP YP l.row.toRowW d [] (fun f vs=>PySem.call f vs):=by
 refine Att.attach_call most nodef ?_
 intro w s₀ s₁ mg mb fa o pm cd doc a us ns ground told ho hd hcd hmg hobj hints hlen hg
 obtain⟨K,cs,fd,sp,kin,T,bind,hsp,fn⟩:=F w mg fa _ told ground.T.g hmg
 exact lawG T kin ground.T.g ground.T.b ground.T.builtins ground.T.nolimit hg ground.T.bmain hobj hints (ZaI hlen small) room fn bind fun H hH hS=>hsp H a ns hlen hH hS
end Rk
/-! Rk.Pa:error classes as the head leaves them. -/
namespace Rk
open PySem PySem.Spec PyProof.Rows L2
inductive EBk where
 |val |look |idx
 deriving DecidableEq
def EBk.B:EBk→String
 | .val=>"ValueError"
 | .look=>"LookupError"
 | .idx=>"IndexError"
def EBk.new:EBk→String
 | .val=>"ValueError.__new__"
 | .look=>"LookupError.__new__"
 | .idx=>"IndexError.__new__"
def EBk.init:EBk→String
 | .val=>"ValueError.__init__"
 | .look=>"LookupError.__init__"
 | .idx=>"IndexError.__init__"
def EBk.bm:EBk→List Value
 | .val=>[.type "ValueError",.type "Exception",.type "BaseException",.type "object"]
 | .look=>[.type "LookupError",.type "Exception",.type "BaseException",.type "object"]
 | .idx=>[.type "IndexError",.type "LookupError",.type "Exception",.type "BaseException",.type "object"]
theorem exb_ok:∀b:EBk,ExB b.B b.new b.init b.bm
 | .val=>⟨PySem.F.excBase_ValueError,PySem.F.store_ValueError,PySem.W.kxs_ValueError⟩
 | .look=>⟨PySem.F.excBase_LookupError,PySem.F.store_LookupError,PySem.W.kxs_LookupError⟩
 | .idx=>⟨PySem.F.excBase_IndexError,PySem.F.store_IndexError,PySem.W.kxs_IndexError⟩
structure XE where
 name:Str
 base:EBk
 qual:Str
 params:Arguments
 body:List Stmt
 scope:Scope
 code:List Nat
 fld:Option Nat
abbrev Ziw:Type:=Option (Str × Str × Arguments × FuncBody × Scope × Addr × List Str × Addr)
def fnX (K:PySem.W.Frag) (f:Addr):Ziw:=match K.lookup f with
 |some ⟨_,_,.func fd,_⟩=>some (fd.name,fd.qualname,fd.params,fd.body,fd.scope,fd.globals,fd.closure.map (·.1),fd.builtins)
 |_=>none
def XE.val (x:XE):Ziw:=some ("__init__",x.qual,x.params,.stmts x.body,x.scope,mainGlobals,["__class__"],builtinsNs)
def XE.txt (an:List Str) (prog:Program) (x:XE):Bool:=
 decide ((prog.main.scope.names.lookup ("super":Str)).isSome=false)&&decide (x.scope.names.lookup ("super":Str)=some .globalImplicit)&&decide (x.scope.names.lookup ("__class__":Str)=some .free)&&decide (x.scope.names.lookup ("self":Str)=some .local)&&decide (x.scope.kind=.function)&&
  decide (x.scope.isCoroutine=false)&&decide (x.scope.isGenerator=false)&&(x.scope.names.all fun y=>decide (y.2≠ .cell))&&decide (Zli x.body=some (stt x.code,x.fld.bind fun i=>an[i]?))&&okS x.code&&
  (match (x.params.posonlyargs++x.params.args).head? with
   |some ar=>decide (ar.arg=("self":Str))
   |none=>false)&&
  (match x.fld with
   |none=>true
   |some i=>(match an[i]? with
    |some f=>decide (x.scope.names.lookup f=some .local)&&decide (f≠("code":Str))
    |none=>false))
def XE.binds (an:List Str) (x:XE):Prop:=∀(kV doc pm:Value) (a0:Option Addr) (cda:Addr) (ct:Value) (cc:Addr),
 (∀i f,x.fld=some i→an[i]? =some f→∀u v:Value,bindArgs (PySem.W.ksFn "__init__" x.qual x.params x.body x.scope .none kV doc pm a0 (.ref cda) ct cc) ⟨[u,v],[]⟩=pure [(("self":Str),u),(f,v)])∧
  (x.fld=none→∀u:Value,bindArgs (PySem.W.ksFn "__init__" x.qual x.params x.body x.scope .none kV doc pm a0 (.ref cda) ct cc) ⟨[u],[]⟩=pure [(("self":Str),u)])
def ZoY:Value→Bool
 | .none=>true
 |_=>false
def xeB (prog:Program) (K:PySem.W.Frag) (C fI:Addr) (b:EBk) (fld:Option Str):Bool:=
 PySem.W.excInitIn K C b.bm b.new&&PySem.W.excOver K C b.bm&&decide (PySem.W.ks_superIn K C C "__init__"=some (some (.builtin b.init)))&&decide (PySem.W.subIn K (.ref C) (.type b.B)=some true)&&
  decide (PySem.W.findIn K (.ref C) "__init__"=some (some (.ref fI)))&&decide (PySem.W.typeIn K (.ref fI)=some (.type "function"))&&
  (match K.lookup fI with
   |some ⟨_,_,.func fd,_⟩=>ZoY fd.defaults&&(match fd.code with
     | .ref cda=>PySem.W.codeIn K (.ref cda) fd.qualname&&(match K.lookup cda with
      |some ⟨_,_,.fields vs,_⟩=>(match (vs[2]? :Option Value) with
       |some (.str file _)=>(prog.main.file:Str) == file
       |_=>false)
      |_=>false)
     |_=>false)&&(match fd.closure with
     |[(_,cc)]=>(match K.lookup cc with
      |some ⟨_,_,.cell (some (.ref C')),_⟩=>decide (C'=C)
      |_=>false)
     |_=>false)
   |_=>false)&&
  decide (PySem.W.nsIn K mainGlobals "super"=some none)&&decide (PySem.W.nsIn K cStatics "thirdparty.any"=some none)&&decide (PySem.W.takerIn K C "code"=some none)&&(match fld with
   |some f=>decide (PySem.W.takerIn K C f=some none)
   |none=>true)&&
  (match PySem.W.clsIn K C with
   |some cd=>cd.hasDict
   |none=>false)&&decide (PySem.W.mroIn K C (.ref C)=some true)&&decide (PySem.W.findIn K (.ref C) "__setattr__"=some (some (.builtin "object.__setattr__")))&&
  decide (PySem.W.subIn K (.ref C) (.type "BaseException")=some true)&&decide (PySem.W.typeIn K (.ref C)=some (.type "type"))&&PySem.W.keepIn K (.ref C)&&xfB K C
theorem xe_ok {prog:Program} {K:PySem.W.Frag} {C fI:Addr} {x:XE} {an:List Str} (ht:x.txt an prog=true) (hb:x.binds an) (hv:fnX K fI=x.val) (h:xeB prog K C fI x.base (x.fld.bind fun i=>an[i]?)=true):
  ZnN prog K C fI (stt x.code) (x.fld.bind fun i=>an[i]?)∧PySem.W.subIn K (.ref C) (.type "BaseException")=some true∧PySem.W.typeIn K (.ref C)=some (.type "type")∧PySem.W.keepIn K (.ref C)=true∧XfC K C:=by
 unfold XE.txt at ht
 simp only[Zaa,Zab,Zaj] at ht
 obtain⟨⟨⟨⟨⟨⟨⟨⟨⟨⟨⟨t1,t2⟩,t3⟩,t4⟩,t5⟩,t6⟩,t7⟩,t8⟩,t9⟩,t10⟩,t11⟩,t12⟩:=ht
 unfold xeB at h
 simp only[Zaa,Zab] at h
 obtain⟨⟨⟨⟨⟨⟨⟨⟨⟨⟨⟨⟨⟨⟨⟨⟨⟨h1,h2⟩,h3⟩,h4⟩,h5⟩,h6⟩,h7⟩,h8⟩,h9⟩,h10⟩,h11⟩,h12⟩,h13⟩,h14⟩,h15⟩,h16⟩,h17⟩,h18⟩:=h
 refine⟨?_,h15,h16,h17,xfB_ok h18⟩
 unfold fnX at hv
 cases hk:K.lookup fI with
 |none=>rw[hk] at h7; cases h7
 |some o=>
  obtain⟨oc,od,dt,osl⟩:=o
  rw[hk] at h7 hv
  cases dt with
  |func fd=>
   obtain⟨n1,n2,n3,n4,n5,n6,n7,n8,n9,n10,n11,n12,n13,n14,n15⟩:=fd
   have e2:(some (n1,n2,n3,n4,n5,n6,n7.map (·.1),n15):Ziw)=(some ("__init__",x.qual,x.params,FuncBody.stmts x.body,x.scope,mainGlobals,["__class__"],builtinsNs):Ziw):=hv
   simp only[Option.some.injEq,Prod.mk.injEq] at e2
   obtain⟨rfl,rfl,rfl,rfl,rfl,rfl,e7,rfl⟩:=e2
   dsimp only at h7
   simp only[Zaa] at h7
   obtain⟨⟨k1,k2⟩,k3⟩:=h7
   obtain rfl:n8=.none:=by cases n8<;>first |rfl |cases k1
   split at k2
   rotate_left
   ·cases k2
   rename_i cda
   rw[Zaa] at k2
   obtain⟨k4,k5⟩:=k2
   split at k5
   rotate_left
   ·cases k5
   rename_i c1 c2 vs c4 hcda
   split at k5
   rotate_left
   ·cases k5
   rename_i file tf hvs
   split at k3
   rotate_left
   ·cases k3
   rename_i cn cc
   obtain rfl:cn=("__class__":Str):=by injection e7
   split at k3
   rotate_left
   ·cases k3
   rename_i cl cld C' csl hcc
   have eC:C'=C:=ZaC k3
   subst eC
   exact {
    base:=⟨_,_,_,_,exb_ok x.base,h1,h2,h3,h4⟩
    iC:=h5
    tI:=h6
    fn:=⟨oc,od,osl,_,_,_,_,n9,n10,n11,n12,cda,cc,n14,_,_,vs,_,file,tf,_,_,_,hk,k4,hcda,hvs,k5,hcc,t1,t2,t3,t4,t5,t6,t7,t8,t9,by
     cases hh:(x.params.posonlyargs++x.params.args).head? with
     |none=>rw[hh] at t11; cases t11
     |some ar=>rw[hh] at t11; exact⟨ar,rfl,ZaC t11⟩,fun f e=>by
     cases hf:x.fld with
     |none=>rw[hf] at e; cases e
     |some i=>
      rw[hf] at e t12
      have e:an[i]? =some f:=e
      dsimp only at t12
      rw[e] at t12
      simp only[Zaa,Zab] at t12
      exact⟨t12.1,(hb _ _ _ _ _ _ _).1 i f hf e⟩,fun e=>by
     cases hf:x.fld with
     |none=>exact (hb _ _ _ _ _ _ _).2 hf
     |some i=>
      rw[hf] at e t12
      have e:an[i]? =none:=e
      dsimp only at t12
      rw[e] at t12
      cases t12⟩
    nsS:=h8
    opq:=h9
    tkC:=h10
    tkF:=fun f e=>by rw[e] at h11; exact ZaC h11
    cls:=by
     cases hc:PySem.W.clsIn K C' with
     |none=>rw[hc] at h12; cases h12
     |some cd=>rw[hc] at h12; exact⟨cd,rfl,h12⟩
    mro:=h13
    sa:=h14}
  |_=>cases h7
end Rk
/-! Rk.Su:an __init__ that begins with super().__init__(..). -/
namespace Rk
open PySem PySem.Spec PyProof.Rows L2 PySem.W
structure Zcw (N P:List Str) (sc:Scope):Prop where
 kind:sc.kind=.function
 co:sc.isCoroutine=false
 gen:sc.isGenerator=false
 nd:N.Nodup
 pre:N.take P.length=P
 par:∀x∈P,sc.names.lookup x=some .local
 noc:∀y∈sc.names,y.2≠ .cell
 fre:∀y∈sc.names,y.2=.free→y.1="__class__"
 cls:sc.names.lookup ("__class__":Str)=some .free
 sup:sc.names.lookup ("super":Str)=some .globalImplicit
structure Zk8 (P:Program) (K:PySem.W.Frag) (C:Addr) (x qual:Str) (params:Arguments) (body:List Stmt) (scope:Scope) (dvs:List V) (kws:List (Str × V)) (f:Addr) (fd:FuncData) (cc:Addr):Prop where
 ex:∃(oc:Value) (od:Option Addr) (dV kV doc pm:Value) (an:Option Addr) (cda:Addr) (ct:Value) (osl:Array (Option Value)),
  fd=ksFn x qual params body scope dV kV doc pm an (.ref cda) ct cc∧K.lookup f=some ⟨oc,od,.func fd,osl⟩∧codeIn K (.ref cda) qual=true∧DflV K dV dvs∧KwdV K kV kws∧
  ∃(ocd:Value) (odd:Option Addr) (vs:Array Value) (osd:Array (Option Value)) (file:Str) (tf:Tok),K.lookup cda=some ⟨ocd,odd,.fields vs,osd⟩∧vs[2]? =some (.str file tf)∧((P.main.file:Str) == file)=true
 cell:∃(cl:Value) (cld:Option Addr) (csl:Array (Option Value)),K.lookup cc=some ⟨cl,cld,.cell (some (.ref C)),csl⟩
 top:(P.main.scope.names.lookup ("super":Str)).isSome=false
def cxS (CX:CXT) (P:Program) (w:World) (K:PySem.W.Frag) (mg:Str→Option Value) (base:Heap) (N:List Str) (qual:Str) (scope:Scope) (f:Addr) (cd:Value) (cc:Addr) (A:Around) (outer:List PySem.Env) (s:Shared) (H:Hp) (E:XK):Cx where
 prog:=P
 w:=w
 K:=K
 mg:=mg
 base:=base
 A:=A.deeper (ksEnv qual scope s.heap.objs.size f cd cc)
 N:=N
 s_0:=s
 H_0:=H
 env:=ksEnv qual scope s.heap.objs.size f cd cc
 outer:=outer
 stack:=ksEnv qual scope s.heap.objs.size f cd cc::outer
 ex:=[]
 calm:=true
 fn:=fun _=>false
 pn:=[]
 xe:=fun e s'=>wpAny (model P w) (A.deeper (ksEnv qual scope s.heap.objs.size f cd cc)) (leaving (ksEnv qual scope s.heap.objs.size f cd cc) e) (fun _ s''=>CX outer H s E e s'') (fun e' s''=>CX outer H s E e' s'') s'
theorem Zj2 {κ α:Type} [BEq κ] [LawfulBEq κ]:∀{l:List (κ × α)} {k:κ} {v:α},(l.map (·.1)).Nodup→(k,v)∈l→l.lookup k=some v
 |(j,u)::l,k,v,nd,h=>by
  rw[Zap,ZpW] at nd
  rw[ZaZ]
  rcases Zak.mp h with e |h2
  ·cases e
   rw[ZaB]
  ·have:(k == j)=false:=by
    rw[ZaU]
    rintro rfl
    exact nd.1 (Zah.mpr ⟨(k,v),h2,rfl⟩)
   rw[this]
   exact Zj2 nd.2 h2
theorem ZiQ {CX:CXT} {P:Program} {w:World} {K:PySem.W.Frag} {mg:Str→Option Value} {base:Heap} {N ps:List Str} {qual:Str} {scope:Scope} {f C cc:Addr} {cd:Value} {A:Around} {outer:List PySem.Env} {s:Shared} {H:Hp} {E:XK} {us:List Value} {vs:List V} {h1:Heap} {tk:Nat} {cl:Value} {cld:Option Addr} {csl:Array (Option Value)}
  (S:Zcw N ps scope) (hd:A.handled=none) (e0:Env0 P w K mg base A outer s H) (hl:vs.length=ps.length) (r:Vals vs us) (hc:K.lookup cc=some ⟨cl,cld,.cell (some (.ref C)),csl⟩)
  (ns:h1.Ns s.heap.objs.size (fun x=>(ps.zip us).reverse.lookup x)) (hk:∀b o,s.heap.get? b=some o→h1.get? b=some o):
  Inv (cxS CX P w K mg base N qual scope f cd cc A outer s H E) [] (start N vs) H {s with heap:=h1,toks:=tk}:=by
 have hpl:ps.length≤N.length:=by have:=congrArg List.length S.pre; rw[Za0] at this; omega
 have bcc:=e0.mod.kin _ _ hc
 have noA:∀b:Addr,b∉(cxS CX P w K mg base N qual scope f cd cc A outer s H E).ex:=fun b z=>absurd (show b∈([]:List Addr) from z) (by simp)
 have one:∀(y:Str) (c:Addr),([(("__class__":Str),cc)]:List (Str × Addr)).lookup y=some c→y="__class__"∧c=cc:=fun y c z=>by
  rw[ZaZ] at z
  by_cases e:(y == ("__class__":Str))=true
  ·rw[e] at z
   cases z
   exact⟨ZfS e,rfl⟩
  ·rw[Bool.not_eq_true] at e
   rw[e] at z
   cases z
 refine⟨⟨e0.mod,S.kind,rfl,rfl,Zai _,fun y z c h1 h2=>?_,fun y hy=>?_,fun y c h _=>(nomatch (show false=true from h)),fun _=>hd,Around.frames_deeper e0.frames,.inr ⟨rfl,rfl⟩,fun b z=>absurd z (noA b),e0.bs,e0.bsz,fun b _ _=>noA b,fun b z=>absurd z (noA b),e0.funs,e0.frf⟩,
  rfl,e0.bare,Un.kept hk,⟨_,ns,fun i y v h1 h2 h3=>?_⟩,fun y c h=>?_,e0.hok.fresh (Zai _),fun y c h=>?_,fun p hp=>absurd (show p∈([]:List (Addr × Obj)) from hp) (by simp),e0.hok.kept hk,?_⟩
 ·exact (one y c h1).1.trans (one z c h2).1.symm
 ·have hy:scope.names.lookup y=some .cell∨scope.names.lookup y=some .free:=hy
  rcases hy with hy |hy
  ·exact absurd rfl (S.noc _ (PySem.mem_of_lookup hy))
  ·have e:=S.fre _ (PySem.mem_of_lookup hy) rfl
   have e:y="__class__":=e
   exact⟨cc,by rw[e]; rfl⟩
 ·have hi:i < vs.length:=by
   unfold L2.start at h2
   by_cases hi:i < vs.length
   ·exact hi
   ·rw[ZdJ (by simpa using hi),Zb8] at h2
    split at h2<;>cases h2
  have ha:vs[i]? =some v:=by
   unfold L2.start at h2
   rw[Zbe (by simpa using hi),ZaK] at h2
   cases e:vs[i]? with
   |none=>rw[e] at h2; cases h2
   |some a=>rw[e] at h2; cases h2; rfl
  obtain⟨u,hu,rv⟩:=r.get ha
  have hp:ps[i]? =some y:=by
   rw[← S.pre,List.getElem?_take_of_lt (by omega)]
   exact h1
  have ndP:ps.Nodup:=by rw[← S.pre]; exact S.nd.sublist (List.take_sublist _ _)
  have hlen:us.length=ps.length:=by rw[← r.length]; exact hl
  refine⟨u,rv,.inl ⟨S.par y (Zao hp),?_⟩⟩
  show (ps.zip us).reverse.lookup y=some u
  refine Zj2 ?_ ?_
  ·rw[List.map_reverse,List.map_fst_zip (by omega)]
   exact List.pairwise_reverse.mpr (ndP.imp fun h=>Ne.symm h)
  ·rw[List.mem_reverse]
   refine Zao (i:=i) ?_
   rw[List.getElem?_zip_eq_some]
   exact⟨hp,hu⟩
 ·obtain⟨_,e⟩:=one y c h
  exact⟨_,_,hk _ _ (e0.bs _ _ (by rw[e]; exact bcc)).1,rfl⟩
 ·obtain⟨_,e⟩:=one y c h
  rw[e]
  exact (e0.bs _ _ bcc).2
 ·unfold L2.start
  show _=N.length
  rw[Zal,Zac,ZbQ]
  omega
def PSat (X:Cx) (body:List Stmt) (st:Stmt) (t:TS):Prop:=∀(pins:List (Addr × Obj)) (s:Shared) (σ:L2.St) (H:Hp) (D:Ends),Inv X pins σ H s→t D σ H→PySem.wpAt (model X.prog X.w) X.A (.func body X.env) (exec st X.env) (SP X pins D) X.xe s
theorem Znd {P:Program} {w:World} {K:PySem.W.Frag} {mg:Str→Option Value} {base:Heap} {k:Nat} {x qual:Str} {params:Arguments} {st:Stmt} {rest:List Stmt} {scope:Scope} {f C cc:Addr} {fd:FuncData} {N ps:List Str} {sp:Sp} {dvs:List V} {kws:List (Str × V)} (F:Zk8 P K C x qual params (st::rest) scope dvs kws f fd cc) (S:Zcw N ps scope)
  (hbody:∀(cdv:Value) (A:Around) (outer:List PySem.Env) (s:Shared) (H:Hp) (vs:List V) (Q:VK) (E:XK),fd.code=cdv→Zcf k (A.deeper (ksEnv qual scope s.heap.objs.size f cdv cc))→A.handled=none→vs.length=ps.length→sp vs H Q E→
   ∃t0 t,PSat (cxS (L2.CX P w) P w K mg base N qual scope f cdv cc A outer s H E) (st::rest) st t0∧PSs (cxS (L2.CX P w) P w K mg base N qual scope f cdv cc A outer s H E) rest t∧
    t0 {nx:=fun σ' H'=>t {nx:=fun _ H'=>Q .non H',rt:=Q} σ' H',rt:=Q} (start N vs) H):FnG false P w K mg base (k+1) true f fd ps sp:=by
 obtain⟨oc,od,dV,kV,doc,pm,an,cda,ct,osl,rfl,lk,hcd,_⟩:=F.ex
 obtain⟨cl,cld,csl,hcell⟩:=F.cell
 constructor
 intro A outer s H args Q E G room calm e0 hb hsp
 have hcalm:=calm rfl
 have inK:K.In s.heap:=e0.mod.kin.keeps fun b o e=>(e0.bs b o e).1
 have hdep:A.depth < recursionLimit:=by have:=room.dp; omega
 refine codeAny_call_function hdep (inK _ _ lk) rfl S.co S.gen rfl (PySem.W.codeRec_of inK hcd) (hb _ _ _ ?_)
 intro s2 H2 vs us e2 un ho hx rel hlen hg
 have noLim:s2.heap.NoLimit:=e0.mod.nolimit.keeps fun b o e=>(e2.bs b o e).1
 refine wpAny_newFunctionEnv S.noc (fun y hy=>S.par y.1 (ZpV (a:=y.1) (b:=y.2) hy).1) (fun h₀ hns₀ hsb₀=>?_) S.kind
 have hk₀:∀b o,s2.heap.get? b=some o→h₀.get? b=some o:=fun b o e=>hsb₀.extBut b o (Zbg (Heap.lt_size e)) (Heap.get?_push_of_some _ e)
 refine⟨noLim.fresh _ hsb₀,ks_codeAny_funcAt ?_⟩
 obtain⟨t0,t,h0,ht,hq⟩:=hbody (.ref cda) A outer s2 H2 vs Q E rfl (room.deeper _) hcalm hlen (hsp _ _ hg)
 have inv:=ZiQ (CX:=L2.CX P w) (E:=E) (f:=f) (qual:=qual) (cd:=.ref cda) (tk:=s2.toks+(ps.zip us).length) S hcalm e2 hlen rel hcell hns₀ hk₀
 have fin:∀fl s',SP (cxS (L2.CX P w) P w K mg base N qual scope f (.ref cda) cc A outer s2 H2 E) [] {nx:=fun _ H'=>Q .non H',rt:=Q} fl s'→CR (CXZ false P w) outer P w H s Q E (.ok (.ret (match fl with | .ret v=>v |_=>.none))) s':=fun fl s' hfl=>by
  cases fl with
  |ret u=>
   obtain⟨v,σ',H',J,rv,q⟩:=hfl
   exact⟨v,H',J.os.trans ho,J.bare,un.trans J.base,J.hok,rv,q⟩
  |next=>
   obtain⟨σ',H',J,q⟩:=hfl
   exact⟨.non,H',J.os.trans ho,J.bare,un.trans J.base,J.hok,rfl,q⟩
  |brk=>
   obtain⟨_,_,_,q⟩:=hfl
   exact q.elim
  |cont=>
   obtain⟨_,_,_,q⟩:=hfl
   exact q.elim
 refine ks_wpAt_execs_cons (ks_wpAt_mono (h0 [] _ (start N vs) H2 _ inv hq) (fun fl s' hfl=>?_) fun e s' z=>wpAny_mono z (fun _ s'' z=>hx e s'' z) fun e' s'' z=>hx e' s'' z)
 cases fl with
 |next=>
  obtain⟨σ',H',J,q⟩:=hfl
  exact wpAt_of_wpAny (wpAny_mono (ht.run [] s' σ' H' _ J q) (fun fl2 s2' hfl2=>fin fl2 s2' hfl2) fun e s'' z=>wpAny_mono z (fun _ s3 z=>hx e s3 z) fun e' s3 z=>hx e' s3 z)
 |ret u=>
  exact fin (.ret u) s' hfl
 |brk=>
  obtain⟨_,_,_,q⟩:=hfl
  exact q.elim
 |cont=>
  obtain⟨_,_,_,q⟩:=hfl
  exact q.elim
def tSup (g:Gi) (EE:XK) (b kk:Nat) (x dx:Addr) (run:Rk.Env→AH→Res D):TS:=fun D σ H=>∃w env h,NW g w h H kk x dx []∧RE g w h.nx env σ∧Zld env=true∧
 Za4 g w h.nx (run env h) EE fun w' h' H' v=>∀fs gs,v=.ins b fs→NW g w' h' H' kk x dx gs→RVf g w' h'.nx fs gs→RE g w' h'.nx env σ→D.nx σ H'
theorem ZhU {o:Expr} {name:Str} {apos pos:Pos} {es:List Expr} {env:PySem.Env} (hl:(apos.endLine == pos.line)=true) (hf:methodCallForm (es.length+0) (backTo pos (starEach es env)) (backToKw pos (keywordEach [] env))=true):eval (.Call (.Attribute o name apos) es [] pos) env=(do
   let ov ← attributeBase o name env (eval o env)
   standAt apos.atName
   let (f,first) ← holding [ov] (getMethod ov name (do return (← importBound o env).getD true))
   callWith pos f first (backTo pos (starEach es env)) []):=by
 have e:eval (.Call (.Attribute o name apos) es [] pos) env=(do
   let ov ← attributeBase o name env (eval o env)
   standAt apos.atName
   methodCall o name apos pos env ov (es.length+0) (backTo pos (starEach es env)) (backToKw pos (keywordEach [] env))):=rfl
 rw[e]
 unfold methodCall methodCallPos calleeOf
 simp only[hf,hl,ZaM,Bool.or_true,if_true,pure_bind]
 rfl
section
variable {X:Cx} {g:Gi} {gG:G} {call':Cl} {k j kk b:Nat} {EE:XK} {x dx cc f fB cda L:Addr} {qual nm sx:Str} {params:Arguments} {body fbody:List Stmt} {scope:Scope} {N ps psB:List Str} {fdB:FuncData} {oc:Value} {od:Option Addr} {osl:Array (Option Value)} {dV kV doc pm ct:Value} {an:Option Addr} {ocd:Value} {odd:Option Addr} {vs:Array Value} {osd:Array (Option Value)} {file:Str} {tf:Tok}
 {cl:Value} {cld:Option Addr} {csl:Array (Option Value)} {ar:Arg} {cd:ClassData} {e:Expr} {es:List Expr} {rs:Run (List D)} {p0 p1 p2 p4 p5:Pos}
theorem ps_sup (G:GX g true k X) (tk:Takes X (fun cls d _ H=>EE cls d H)) (henv:X.env=ksEnv qual scope L f (.ref cda) cc) (S:Zcw N ps scope)
  (lk:X.K.lookup f=some ⟨oc,od,.func (ksFn nm qual params fbody scope dV kV doc pm an (.ref cda) ct cc),osl⟩) (hcode:X.K.lookup cda=some ⟨ocd,odd,.fields vs,osd⟩) (hvs:vs[2]? =some (.str file tf)) (hfile:((X.prog.main.file:Str) == file)=true)
  (htop:(X.prog.main.scope.names.lookup ("super":Str)).isSome=false) (hcell:X.K.lookup cc=some ⟨cl,cld,.cell (some (.ref (g.cb kk))),csl⟩) (hpar:(params.posonlyargs++params.args).head? =some ar) (har:ar.arg=sx) (hsx:scope.names.lookup sx=some .local)
  (hx0:X.N[0]? =some sx) (hme:g.me=some x) (hmg:X.mg "super"=none) (opq:nsIn X.K cStatics "thirdparty.any"=some none) (hD:clsIn X.K (g.cb kk)=some cd) (mro:mroIn X.K (g.cb kk) (.ref (g.cb kk))=some true)
  (hm:ks_superIn X.K (g.cb kk) (g.cb kk) "__init__"=some (some (.ref fB))) (htB:typeIn X.K (.ref fB)=some (.type "function")) (hfi:fnIn X.K fB=true)
  (hj:j≤k) (F:FnG false X.prog X.w X.K X.mg X.base j true fB fdB psB (Zog g call' b kk)) (hps:psB.length=(e::es).length+1)
  (hbind:∀(s:Shared) (a:Value) (us:List Value),X.K.In s.heap→us.length=(e::es).length→BindsTo s fdB ⟨a::us,[]⟩ (psB.zip (a::us)))
  (ha:PA X (e::es) (tEs g (fun _=>EE) rs)) (hn:ZdK (e::es)=true) (hfew:(e::es).length < 29) (hl24:(p2.endLine == p4.line)=true) (hl1:∀env h l h',rs env h=.ok l h'→l.length=(e::es).length):
  PSat X body (.Expr (.Call (.Attribute (.Call (.Name "super" p0) [] [] p1) "__init__" p2) (e::es) [] p4) p5) (tSup g EE b kk x dx fun env h=>(rs env h).bind fun l h=>call'.make b l h):=by
 intro pins s σ H D I ⟨w,env,h,NN,re,hmE,q⟩
 obtain⟨m,hns,hloc⟩:=I.loc
 obtain⟨x',hx',hs0⟩:=re.me hmE
 rw[hme] at hx'
 cases hx'
 have hkS:X.env.scope=scope:=by rw[henv]
 obtain⟨u,ru,lk0⟩:=hloc 0 sx (.ref x) hx0 hs0 (.inl (by rw[hkS]; exact hsx))
 obtain rfl:u=Value.ref x:=ru
 have hself:m sx=some (.ref x):=by
  rcases lk0 with l |⟨z,_⟩
  ·exact l.2
  ·have z:scope.names.lookup sx=some .cell∨scope.names.lookup sx=some .free:=by rw[← hkS]; exact z
   rw[hsx] at z
   rcases z with z |z<;>cases z
 have hH:H x=some (.ins (g.cb kk) dx []):=(NN.rr.subz x _ (by show upd _ x _ x=_; rw[upd_same])).1
 obtain⟨ox,od',J,hdat⟩:=StX.insC_at I (.inr ⟨dx,[],hH⟩)
 have hno:∀c:ClassData,ox.data≠ .cls c:=fun c z=>by rw[hdat] at z; cases z
 have glob:s.heap.Ns mainGlobals X.mg:=I.mod.glob.keeps I.bk
 obtain⟨mb,hmb,bb⟩:=I.mod.blt
 have bns:s.heap.Ns builtinsNs mb:=hmb.keeps I.bk
 have KX:=I.kIn
 obtain⟨oD,hD1,hD2⟩:∃oD,s.heap.get? (g.cb kk)=some oD∧oD.data=.cls cd:=by
  have hD:=hD
  unfold clsIn at hD
  split at hD
  ·rename_i c d cd' sl ho
   cases hD
   exact⟨_,KX _ _ ho,rfl⟩
  ·cases hD
 obtain⟨of,hof,hofc⟩:∃of,X.K.lookup fB=some of∧of.cls=.type "function":=by
  have z:(X.K.lookup fB).map (·.cls)=some (.type "function"):=htB
  cases e1:X.K.lookup fB with
  |none=>rw[e1] at z; cases z
  |some of=>rw[e1] at z; exact⟨of,rfl,Option.some.inj z⟩
 have hn1:nst e=true∧ZdK es=true:=by
  unfold ZdK at hn
  rw[ZbA,Zaa] at hn
  exact hn
 have hform:methodCallForm ((e::es).length+0) (backTo p4 (starEach (e::es) X.env)) (backToKw p4 (keywordEach [] X.env))=true:=by
  show ((backTo p4 (starEach (e::es) X.env)).all (fun x=> !x.1)&&true&&decide ((e::es).length+0+0 < 30))=true
  rw[ZhP hn,ZeE,ZeE]
  exact ZaJ (by omega)
 have hint:PySem.interactive X.env=false:=by
  unfold PySem.interactive
  rw[hkS,S.kind]
  rfl
 refine ks_wpAt_Expr_any (ks_wpAt_MethodCall (pl:=do return (← importBound (.Call (.Name "super" p0) [] [] p1) X.env).getD true) ?_ (ZhU hl24 hform)) hint
 have lkH:=KX _ _ lk
 have codeH:=KX _ _ hcode
 have cellH:=KX _ _ hcell
 refine ks_wpAt_super_base (env:=X.env) (ar:=ar) (by show X.env.scope.names.lookup _=_; rw[hkS]; exact S.sup) (by show X.env.scope.names.lookup _=_; rw[hkS]; exact S.cls) (by decide) (by rw[henv]) lkH rfl hpar (by rw[henv]) codeH rfl hvs hfile htop ?_
 refine ks_loadName_global (by rw[hkS]; exact S.kind) (by show X.env.scope.names.lookup _=_; rw[hkS]; exact S.sup) (PySem.Calls.loadGlobal_builtin (env:=X.env) (by rw[henv]; exact glob) hmg (by rw[henv]; exact bns) ((bb _ (by decide+kernel)).trans (by decide+kernel:bootBuiltins "super"=some (.type "super"))) ⟨rfl,?_⟩)
 refine wpAny_loadName_free (by rw[hkS]; exact S.kind) (by show X.env.scope.names.lookup _=_; rw[hkS]; exact S.cls) (by rw[henv]; rfl) ⟨_,cellH,rfl⟩ ?_
 rw[har]
 refine wpAny_loadName_local (by rw[hkS]; exact S.kind) (by show X.env.scope.names.lookup _=_; rw[hkS]; exact hsx) hns hself ?_
 refine ks_wpAny_isType_cls hD1 hD2 ⟨rfl,?_⟩
 obtain⟨hp,gg,dr,tk0,os⟩:=s
 refine ks_wpAny_call_super hD1 hD2 J.at_ J.cls hno (looks_mroIn KX mro) (fun h1 e1 k1=>?_)
 have KX1:X.K.In h1:=KX.keeps k1
 have I1:Inv X pins σ H ⟨h1,gg,dr,tk0,os⟩:=I.kept (t':=tk0) k1
 obtain⟨ox1,od1,J1,_⟩:=StX.insC_at I1 (.inr ⟨dx,[],hH⟩)
 have hm':=hm
 unfold ks_superIn at hm'
 rw[hD] at hm'
 refine ks_wpAny_getMethod_super e1 (looks_opaque KX1 opq) (l₀:=cd.mro) ?_ rfl KX1 hm' (KX1 _ _ hof) hofc (ks_ne KX1 J1 hD) (by decide) ?_
 ·exact fun A Q E s k q=>wpAny_bind ((looks_clsIn KX1 hD) A _ E s k (wpAny_pure q))
 have hq:H h1.objs.size=none:=I1.hok.fresh (Zai _)
 have I2:Inv X pins σ (upd H h1.objs.size (.met fB x)) ⟨h1.push (methodObj (.ref fB) (.ref x)),gg,dr,tk0+1,os⟩:=I1.laid (t':=tk0+1) (a:=h1.objs.size) (o:=.met fB x) (fun b u z=>Heap.get?_push_of_some _ z) (Zai _)
  (show (h1.push (methodObj (.ref fB) (.ref x))).get? h1.objs.size=some (methodObj (.ref fB) (.ref x)) from Heap.get?_push_size h1 rfl)
 obtain⟨rrf,extf⟩:=NN.rr.freeze (o:=.met fB x) hq
 have he:=Zbw hn1.1 es X.env
 rw[he]
 refine callwith_met (X:=X) (q:=h1.objs.size) (a:=x) (g:=fB) (first:=[]) (by show ((false||(backTo p4 (starEach es X.env)).any (·.1))||false)=false; rw[Zd9 hn1.2]; rfl) hfi ?_
 refine Calls.evalArgs_plain ?_
 have run:=ha.run p4 pins _ σ _ (fun xs H2=>xs.length=(e::es).length∧H2 h1.objs.size=some (.met fB x)∧∃w2 h2 l,NW g w2 h2 H2 kk x dx []∧Ext w h.nx w2 h2.nx∧RVs g w2 h2.nx l xs∧
  Za4 g w2 h2.nx (call'.make b l h2) EE fun w' h' H' v=>∀fs gs,v=.ins b fs→NW g w' h' H' kk x dx gs→RVf g w' h'.nx fs gs→RE g w' h'.nx env σ→D.nx σ H') I2 ⟨_,env,h,rrf,re.ext (NN.ext.trans extf),?_⟩
 ·rw[he] at run
  refine wpAny_mono run (fun us s1 ⟨xs,H2,I3,v2,hlen,e3,w2,h2,l,N2,x2,rvs,post⟩=>⟨met_P I3 e3,?_⟩) fun _ _ z=>z
  have hul:us.length=(e::es).length:=by rw[← v2.length]; exact hlen
  rw[ZaG]
  refine wpAny_call (call_met I3 e3 (codeAny_mono (F.run X.A X.stack s1 H2 ⟨.ref x::us,[]⟩ (.ref x::us) (V.ref x::xs) (fun _ H'=>D.nx σ H') EE (G.room.mono hj) (fun _=>I3.ok.hd (G.calm rfl)) I3.env0 (by rw[Zae,hlen,hps]) (hbind s1 (.ref x) us I3.kIn hul) (.cons rfl v2) ?_) fun r s' hr=>?_))
  ·exact⟨w2,l,h2,x,dx,xs,rfl,N2,rvs,post.mono fun w' h' H' v ext rr p fs gs ev N' rf=>p fs gs ev N' rf (re.ext (x2.trans ext))⟩
  ·cases r with
   |error e=>exact tk e s' (L2.XE.of_call I3 (fun cls d H' h=>h) hr)
   |ok fl=>
    cases fl with
    |ret u=>
     obtain⟨v,H',J',_,q'⟩:=I3.after hr
     exact⟨σ,H',J',q'⟩
    |next=>exact False.elim hr
    |brk=>exact False.elim hr
    |cont=>exact False.elim hr
 ·dsimp only at q
  cases hr:rs env h with
  |stuck=>rw[hr] at q; exact q.elim
  |exc y h2=>
   rw[hr] at q
   intro w2 H2 cls d e2 rr2 rx
   obtain⟨N2,x2,_,_⟩:=NN.later (extf.trans e2) rr2
   exact q (Zg5 w2 x dx) H2 cls d x2 (rr2.lessZ fun a o z=>(ZfA z).1) (RX.out rx)
  |ok l h2=>
   rw[hr] at q
   intro w2 H2 e2 rr2 xs rvs
   obtain⟨N2,x2,_,_⟩:=NN.later (extf.trans e2) rr2
   exact⟨by rw[rvs.length]; exact hl1 _ _ _ _ hr,rr2.sub _ _ (e2.F _ _ upd_same),Zg5 w2 x dx,h2,l,N2,x2,RVs.extF (show Zdi w2 h2.nx (Zg5 w2 x dx) h2.nx from⟨Zai _,fun _ _=>rfl,fun _ _ e=>e⟩) _ _ rvs,Za4.up x2 q⟩
end
end Rk
/-! Rk.Pb:the whole program; what the head says of it. -/
namespace Rk
open PySem PySem.Spec PyProof.Rows L2
inductive Wh where
 |glo |mth (c m:Str) |prp (c f:Str) |sta (c m:Str) |pst (c f:Str)
 deriving DecidableEq
def dvD:He.Dv→D
 | .bl b=>.bl b
 | .int i=>.int i
 | .str x=>.str x.cps.toList
 |_=>.non
def dvOk:He.Dv→Bool
 | .non=>true
 | .bl _=>true
 | .int _=>true
 | .str x=>okS x.cps.toList
 |_=>false
def dfD (d:He.DefD):List D:=(d.dfl++d.kwd.map (·.2)).map dvD
def dfOk (d:He.DefD):Bool:=(d.dfl++d.kwd.map (·.2)).all dvOk
def dfV (K:PySem.W.Frag) (d:He.DefD):List V:=d.dvs K++(d.kws K).map (·.2)
theorem dv_rv {K:PySem.W.Frag} {g:Gi} {w:Wd} {n:Nat} {v:He.Dv} (h:dvOk v=true):RV g w n (dvD v) (v.v K):=by
 cases v with
 |non=>exact ZdY.mpr rfl
 |bl b=>exact Zde.mpr rfl
 |int i=>exact Za7.mpr rfl
 |str x=>exact Za1.mpr ⟨by show V.str x=V.str ⟨x.cps.toList.toArray⟩; rw[Array.toArray_toList],h⟩
 |_=>cases h
theorem Znq {K:PySem.W.Frag} {g:Gi} {w:Wd} {n:Nat}:∀{l:List He.Dv},l.all dvOk=true→RVs g w n (l.map dvD) (l.map (He.Dv.v K))
 |[],_=>RVs.nil
 |v::l,h=>by
  rw[ZbA,Zaa] at h
  exact RVs.mk (dv_rv h.1) (Znq h.2)
theorem ZkG {K:PySem.W.Frag} {g:Gi} {w:Wd} {n:Nat} {d:He.DefD} (h:dfOk d=true):RVs g w n (dfD d) (dfV K d):=by
 have e:dfV K d=(d.dfl++d.kwd.map (·.2)).map (He.Dv.v K):=by
  unfold dfV He.DefD.dvs He.DefD.kws
  rw[Zbs,Zb3,Zb3]
  rfl
 rw[e]
 exact Znq h
structure DE where
 dd:He.DefD
 N:List Str
 ps:List Str
 fn:FnD
 lam:Bool
 wh:Wh
 gn:Option GnD
 kl:Bool
 sp:Option (Nat × Nat × Nat × Nat)
def DE.tl (d:DE):Bool:=d.lam||d.kl
structure CE where
 name:Str
 dd:He.DefD
 N:List Str
 ps:List Str
 ct:CtD
 va:Bool
 ats:List At
 mts:List (Option Nat)
 dms:List (Du × Nat)
 sts:List (Option Nat)
 cns:List (Nat × D)
 isa:List Bool
 sb:Option Nat
 pst:List (Nat × Nat)
 ctt:Option (Nat × Nat × Nat)
structure ZeG where
 why:He.DefD
 a:Str
 e:Str
 x1:Str
 x2:Str
 x3:Str
 lf:Str
 whys:He.DefD
 a2:Str
 d:Str
 wy:Str
 sc:Scope
 hs:Bool
structure Pg where
 ds:List DE
 gs:List (Str × D)
 bs:List Str
 kb:List (Nat × Nat × List Str × List Nat)
 an:List Str
 xs:List XE
 lams:List (E × List Nat)
 why:Option ZeG
 fld:Nat
 cs':List CE
 mn:List Str
 kbm:List (Nat × Nat × List Str × List Nat)
 kbc:List (Nat × Nat × List Str × List Nat)
 kst:List (Nat × Nat × Nat × List Str × List Nat)
 kva:List (Nat × Nat)
 kca:List (Nat × List Str × List Nat)
 kmv:List (Nat × Nat)
def ZoG:Nat→List Str→List (Str × Nat)
 |_,[]=>[]
 |k,x::r=>(x,k)::ZoG (k+1) r
theorem Zfw:∀{l:List Str} {k i:Nat} {x:Str},(ZoG k l).lookup x=some i→∃j,i=k+j∧l[j]? =some x
 |[],_,_,_,h=>by cases h
 |y::r,k,i,x,h=>by
  unfold ZoG at h
  rw[ZaZ] at h
  cases e:x == y with
  |true=>
   rw[e] at h
   cases h
   exact⟨0,rfl,by rw[ZfS e]; rfl⟩
  |false=>
   rw[e] at h
   obtain⟨j,h1,h2⟩:=Zfw h
   exact⟨j+1,by omega,by simpa using h2⟩
def fnms:Nat→List DE→List (Str × Nat)
 |_,[]=>[]
 |k,d::r=>if d.wh=.glo then (d.dd.name,k)::fnms (k+1) r else fnms (k+1) r
theorem ZfN:∀{l:List DE} {k i:Nat} {x:Str},(fnms k l).lookup x=some i→∃j d,i=k+j∧l[j]? =some d∧d.dd.name=x∧d.wh=.glo
 |[],_,_,_,h=>by cases h
 |d::r,k,i,x,h=>by
  unfold fnms at h
  by_cases hw:d.wh=.glo
  ·rw[if_pos hw,ZaZ] at h
   cases e:x == d.dd.name with
   |true=>
    rw[e] at h
    cases h
    exact⟨0,d,rfl,rfl,(ZfS e).symm,hw⟩
   |false=>
    rw[e] at h
    obtain⟨j,d',h1,h2,h3⟩:=ZfN h
    exact⟨j+1,d',by omega,by simpa using h2,h3⟩
  ·rw[if_neg hw] at h
   obtain⟨j,d',h1,h2,h3⟩:=ZfN h
   exact⟨j+1,d',by omega,by simpa using h2,h3⟩
def Zkt (cs:List CE) (n:Nat):List Nat:=(List.range n).filter fun i=>cs.any fun c=>match c.ats[i]? with
 |some .no=>false
 |some _=>true
 |none=>false
def ZgP:Nat→List CE→List Nat
 |_,[]=>[]
 |k,c::r=>if c.va then k::ZgP (k+1) r else ZgP (k+1) r
def ZkM:Nat→List CE→List (Nat × Nat)
 |_,[]=>[]
 |k,c::r=>c.cns.map (fun q=>(k,q.1))++ZkM (k+1) r
def Zb1:Nat→Zd6→Bool:=fun _ _=>false
def nprOf (cs:List CE) (n:Nat):List Nat:=(Zkt cs n).filter fun i=>cs.all fun c=>match c.ats[i]? with
 |some (.prp _)=>false
 |_=>true
def pslOf (cs:List CE) (n:Nat):List Nat:=(List.range n).filter fun i=>cs.any fun c=>(c.pst.lookup i).isSome
def gnms:Nat→List (Str × D)→List (Str × Nat)
 |_,[]=>[]
 |k,q::r=>match q.2 with
  | .kdt _=>gnms (k+1) r
  |_=>(q.1,k)::gnms (k+1) r
def kgns:Nat→List (Str × D)→List (Str × Nat)
 |_,[]=>[]
 |k,q::r=>match q.2 with
  | .kdt _=>(q.1,k)::kgns (k+1) r
  |_=>kgns (k+1) r
theorem Zhh:∀{l:List (Str × D)} {k i:Nat} {x:Str},(gnms k l).lookup x=some i→∃j d,i=k+j∧l[j]? =some (x,d)∧∀m,d≠ .kdt m
 |[],_,_,_,h=>by cases h
 |(y,d)::r,k,i,x,h=>by
  unfold gnms at h
  split at h
  ·obtain⟨j,d',h1,h2,h3⟩:=Zhh h
   exact⟨j+1,d',by omega,by simpa using h2,h3⟩
  ·rename_i hn
   rw[ZaZ] at h
   cases e:x == y with
   |true=>
    rw[e] at h
    cases h
    exact⟨0,d,rfl,by rw[ZfS e]; rfl,fun m z=>hn m z⟩
   |false=>
    rw[e] at h
    obtain⟨j,d',h1,h2,h3⟩:=Zhh h
    exact⟨j+1,d',by omega,by simpa using h2,h3⟩
theorem Zhb:∀{l:List (Str × D)} {k i:Nat} {x:Str},(kgns k l).lookup x=some i→∃j m,i=k+j∧l[j]? =some (x,.kdt m)
 |[],_,_,_,h=>by cases h
 |(y,d)::r,k,i,x,h=>by
  unfold kgns at h
  split at h
  ·rename_i m hm
   have hm:d=.kdt m:=hm
   rw[ZaZ] at h
   cases e:x == y with
   |true=>
    rw[e] at h
    cases h
    exact⟨0,m,rfl,by rw[ZfS e,hm]; rfl⟩
   |false=>
    rw[e] at h
    obtain⟨j,m',h1,h2⟩:=Zhb h
    exact⟨j+1,m',by omega,by simpa using h2⟩
  ·obtain⟨j,m',h1,h2⟩:=Zhb h
   exact⟨j+1,m',by omega,by simpa using h2⟩
def ZiP:Nat→List CE→List Nat
 |_,[]=>[]
 |k,c::r=>if c.ctt.isSome&&c.sb.isNone then k::ZiP (k+1) r else ZiP (k+1) r
def wtOf (cs:List CE):Bool:=cs.any fun c=>(c.dms.lookup .enter).isSome&&(c.dms.lookup .exit).isSome
def ZiR:Nat→List CE→List Nat
 |_,[]=>[]
 |k,c::r=>if c.sb.isNone then k::ZiR (k+1) r else ZiR (k+1) r
def Pg.tb (p:Pg) (c:Bool) (lamB:Nat→Zd6→Bool):Tb:=⟨fnms 0 p.ds,gnms 0 p.gs,p.bs,p.kb,c,ZoG 0 (p.xs.map (·.name)),p.an,(p.why.map (·.why.name)).getD "",(p.why.map fun w=>if w.hs then w.whys.name else "").getD "",lamB,ZoG 0 (p.cs'.map (·.name)),p.mn,p.kbm,p.kbc,p.kst,p.kva,ZgP 0 p.cs',p.kca,Zkt p.cs' p.an.length,ZkM 0 p.cs',ZiR 0 p.cs',nprOf p.cs' p.an.length,p.kmv,pslOf p.cs' p.an.length,kgns 0 p.gs,wtOf p.cs',ZiP 0 p.cs'⟩
def Pg.G (p:Pg):G:=⟨fun f=>p.ds[f]?.map (·.fn),fun n=>((p.gs[n]?).map (·.2)).getD .non,fun _=>[],fun f=>((p.ds[f]?).map fun d=>dfD d.dd).getD [],fun k=>((p.lams[k]?).map (·.1)).getD (.cst .non),fun k=>((p.lams[k]?).map (·.2)).getD [],p.fld,0,fun c=>(p.xs[c]?).map fun x=>(x.code,x.fld),fun _ _=>false,fun c i=>((p.cs'[c]?).bind fun c=>c.ats[i]?).getD .no,fun c m=>(p.cs'[c]?).bind fun c=>(c.mts[m]?).getD none,fun c d=>(p.cs'[c]?).bind fun c=>c.dms.lookup d,fun c m=>(p.cs'[c]?).bind fun c=>(c.sts[m]?).getD none,
 fun c=>(p.cs'[c]?).bind fun c=>if c.ctt.isNone then some c.ct else none,fun c=>((p.cs'[c]?).map fun c=>dfD c.dd).getD [],fun j c=>((p.cs'[j]?).bind fun j=>j.isa[c]?).getD false,fun c i=>((p.cs'[c]?).bind fun c=>c.cns.lookup i).getD .non,fun f=>(p.ds[f]?).bind (·.gn),fun c i=>(p.cs'[c]?).bind fun c=>c.pst.lookup i,fun c=>(p.cs'[c]?).bind fun c=>c.ctt.map fun z=>(c.ct,z.2.1,.var z.2.2)⟩
def ZeO (p:Pg) (d:DE) (k:Nat) (L:Zd6):Bool:=match p.lams[k]? with
 |some (t,ws)=>Zj9 d.N d.dd.scope L.scope L.params ws&&(ZoR L.params).isSome&&chE (p.tb true Zb1) d.N t ⟨L.scope.names,false,true,false⟩ L.body
 |none=>false
def faG (q:Str × D):He.Fa:=match q.2 with
 | .str s=>.str q.1 (stt s)
 | .int i=>.int q.1 i
 | .ktp _=>.glo q.1
 | .kdt _=>.glo q.1
 |_=>.free q.1
def ZeG.fa (w:ZeG):List He.Fa:=[.glo w.why.name,.glo w.x1,.glo w.x2,.glo w.x3]++if w.hs then [.glo w.whys.name] else []
def Pg.whyFa (p:Pg):List He.Fa:=match p.why with
 |some w=>w.fa
 |none=>[]
def Pg.whyDs (p:Pg):List He.DefD:=match p.why with
 |some w=>w.why::if w.hs then [w.whys] else []
 |none=>[]
def DE.fa (d:DE):List He.Fa:=if d.wh=.glo then [.glo d.dd.name] else []
def CE.fa (c:CE):List He.Fa:=[.glo c.name,.cls c.name,.mkr c.name]
def Pg.fa (p:Pg):List He.Fa:=p.ds.flatMap DE.fa++p.gs.map faG++p.bs.map .free++p.xs.map (fun x=>.glo x.name)++p.cs'.flatMap CE.fa++p.whyFa
def Pg.defs (p:Pg):List He.DefD:=(p.cs'.filter fun c=>c.sb.isNone).map (·.dd)++p.whyDs
def Zen (N ps:List Str) (sc:Scope):Bool:=
 decide (sc.kind=.function)&&decide (sc.isCoroutine=false)&&decide (sc.isGenerator=false)&&decide N.Nodup&&decide (N.take ps.length=ps)&&
  ps.all (fun x=>decide (sc.names.lookup x=some .local)||decide (sc.names.lookup x=some .cell))&&sc.names.all fun y=>decide (y.2≠ .free)
theorem Zdy {N ps:List Str} {sc:Scope} (h:Zen N ps sc=true):FnScope N ps sc:=by
 unfold Zen at h
 simp only[Zaa,Zab,Zaj,ZaP] at h
 obtain⟨⟨⟨⟨⟨⟨h1,h2⟩,h3⟩,h4⟩,h5⟩,h6⟩,h7⟩:=h
 exact⟨h1,h2,h3,h4,h5,h6,h7⟩
def Zgm (d:He.DefD):Bool:=d.dfl.isEmpty&&d.kwd.isEmpty&&decide (d.at_=(d.name,none))
def Zgl (d:DE):Bool:=dfOk d.dd&&(!d.tl||(decide (d.wh=.glo)&&decide (d.dd.at_=(d.dd.name,none))))
def Zfs (N ps:List Str) (sc:Scope):Bool:=
 decide (sc.kind=.function)&&decide (sc.isCoroutine=false)&&decide (sc.isGenerator=false)&&decide N.Nodup&&decide (N.take ps.length=ps)&&
  ps.all (fun x=>decide (sc.names.lookup x=some .local))&&(sc.names.all fun y=>decide (y.2≠ .cell)&&(decide (y.2≠ .free)||decide (y.1=("__class__":Str))))&&decide (sc.names.lookup ("__class__":Str)=some .free)&&decide (sc.names.lookup ("super":Str)=some .globalImplicit)
theorem Ze2 {N ps:List Str} {sc:Scope} (h:Zfs N ps sc=true):Zcw N ps sc:=by
 unfold Zfs at h
 simp only[Zaa,ZaP,Zab,Zaj] at h
 obtain⟨⟨⟨⟨⟨⟨⟨⟨h1,h2⟩,h3⟩,h4⟩,h5⟩,h6⟩,h7⟩,h8⟩,h9⟩:=h
 exact⟨h1,h2,h3,h4,h5,h6,fun y hy=>(h7 y hy).1,fun y hy z=>(h7 y hy).2.resolve_left fun n=>n z,h8,h9⟩
def Zhg (N ps:List Str) (sc:Scope):Bool:=
 decide (sc.kind=.function)&&decide (sc.isCoroutine=false)&&decide (sc.isGenerator=true)&&decide N.Nodup&&decide (N.take ps.length=ps)&&
  ps.all (fun x=>decide (sc.names.lookup x=some .local))&&sc.names.all fun y=>decide (y.2≠ .free)&&decide (y.2≠ .cell)
theorem ZiS {N ps:List Str} {sc:Scope} (h:Zhg N ps sc=true):L2.GScope N ps sc∧Zk5 sc:=by
 unfold Zhg at h
 simp only[Zaa,Zab,Zaj] at h
 obtain⟨⟨⟨⟨⟨⟨h1,h2⟩,h3⟩,h4⟩,h5⟩,h6⟩,h7⟩:=h
 exact⟨⟨h1,h2,h3,h4,h5,fun x hx=>.inl (h6 x hx),fun y hy=>(h7 y hy).1⟩,fun y hy=>⟨(h7 y hy).2,(h7 y hy).1⟩⟩
def ZhR:Ss→Bool
 | .cons .never _=>true
 |_=>false
def supF:List Stmt→Option (Str × List Expr)
 |[.Return (some (.JoinedStr (.FormattedValue (.Call (.Attribute (.Call (.Name s _) [] [] _) i p2) [] [] p4) j none _::l) _)) _]=>if s=("super":Str)∧p2.endLine=p4.line∧j= -1 then some (i,l) else none
 |_=>none
def DE.okS (p:Pg) (d:DE) (q:Nat × Nat × Nat × Nat):Bool:= !d.tl&&d.gn.isNone&&Zfs d.N d.ps d.dd.scope&&decide (d.fn.np=d.ps.length)&&decide (d.fn.nb=d.N.length)&&(match d.fn.body,supF d.dd.body with
 | .cons (.rsf k f es) .nil,some (i,v::l)=>decide (k=q.1)&&decide (f=q.2.2.2)&&decide (p.mn[q.2.2.1]? =some i)&& !(i == ("__class__":Str))&&(p.cs'[q.1]?).isSome&&(match p.cs'[q.2.1]? with
   |some cb=>decide (cb.mts[q.2.2.1]? =some (some q.2.2.2))
   |none=>false)&&p.kbm.contains (q.2.2.1,0,[],[0])&&(p.ds[q.2.2.2]?).any (fun e=>decide (e.fn.np=1))&&ZpC (p.tb true Zb1) d.N es ⟨d.dd.scope.names,false,false,false⟩ (v::l)&&(match (d.dd.params.posonlyargs++d.dd.params.args).head?,d.N[0]?,d.ps[0]? with
   |some ar,some sx,some s2=>decide (ar.arg=sx)&&decide (sx=s2)
   |_,_,_=>false)
 |_,_=>false)
def DE.ok (p:Pg) (d:DE):Bool:=Zgl d&&match d.sp with
 |some q=>d.okS p q
 |none=>(match d.gn with
  |none=>Zen d.N d.ps d.dd.scope&&decide (d.fn.np=d.ps.length)&&decide (d.fn.nb=d.N.length)&&chSs (p.tb true (ZeO p d)) d.N d.fn.body ⟨d.dd.scope.names,d.lam,true,d.kl⟩ d.dd.body
  |some gd=> !d.lam&&Zhg d.N d.ps d.dd.scope&&decide (gd.np=d.ps.length)&&decide (gd.nb=d.N.length)&&ZhR d.fn.body&&chGs (p.tb true Zb1) d.N gd.body ⟨d.dd.scope.names,false,true,false⟩ d.dd.body)
def ixA (n:Nat):At→Bool
 | .prp q=>decide (q < n)
 |_=>true
def ixO (n:Nat):Option Nat→Bool
 |some q=>decide (q < n)
 |none=>true
def CE.ix (n:Nat) (c:CE):Bool:=c.ats.all (ixA n)&&c.mts.all (ixO n)&&c.sts.all (ixO n)&&(c.dms.all fun q=>decide (q.2 < n))&&c.pst.all fun q=>decide (q.2 < n)
def supT:List Stmt→Option (List Expr × List Stmt)
 | .Expr (.Call (.Attribute (.Call (.Name s _) [] [] _) i p2) es [] p4) _::r=>if s=("super":Str)∧i=("__init__":Str)∧p2.endLine=p4.line then some (es,r) else none
 |_=>none
def Zlj:Es→Bool
 | .nil=>true
 | .cons (.var _) r=>Zlj r
 |_=>false
def CE.okS (p:Pg) (c:CE) (b:Nat):Bool:=Zfs c.N c.ps c.dd.scope&&(match c.ct.items,supT c.dd.body,p.cs'[b]? with
 | .sup b' args::r,some (es,rest),some cb=>decide (b'=b)&&Zlj args&&cb.sb.isNone&&ZdK es&&decide (0 < es.length)&&decide (es.length < 29)&&chEs (p.tb true Zb1) c.N args ⟨c.dd.scope.names,false,false,false⟩ es&&chB (p.tb true Zb1) c.N r ⟨c.dd.scope.names,false,false,false⟩ rest&&decide (cb.ps.length=es.length+1)&&
   p.kbc.contains (b,es.length,[],List.range es.length)&&(stos cb.ct.items).all (fun i=>match c.ats[i]? with
    |some .fld=>true
    |_=>false)&&(match (c.dd.params.posonlyargs++c.dd.params.args).head?,c.N[0]?,c.ps[0]? with
    |some ar,some sx,some s2=>decide (ar.arg=sx)&&decide (sx=s2)
    |_,_,_=>false)
 |_,_,_=>false)
def Zj8 (p:Pg) (c:CE) (z:Nat × Nat × Nat):Bool:=match c.dd.body.getLast? with
 |some (.Assign [.Attribute (.Name s p1) at' _] (.Name x p2) _)=>decide (p.an[z.1]? =some at')&&(pslOf p.cs' p.an.length).contains z.1&&decide (c.pst.lookup z.1=some z.2.1)&&decide (1≤z.2.2)&&
   chE (p.tb true Zb1) c.N (.var 0) ⟨c.dd.scope.names,false,false,false⟩ (.Name s p1)&&chE (p.tb true Zb1) c.N (.var z.2.2) ⟨c.dd.scope.names,false,false,false⟩ (.Name x p2)
 |_=>false
def CE.okT (p:Pg) (c:CE):Bool:=match c.sb with
 |none=>Zen c.N c.ps c.dd.scope&&(match c.ctt with
  |some z=>Zlu c.ct.items&&chB (p.tb true Zb1) c.N c.ct.items ⟨c.dd.scope.names,false,false,false⟩ c.dd.body.dropLast&&Zj8 p c z
  |none=>chB (p.tb true Zb1) c.N c.ct.items ⟨c.dd.scope.names,false,false,false⟩ c.dd.body)
 |some b=>c.okS p b
def CE.ok (p:Pg) (c:CE):Bool:=
 dfOk c.dd&&decide (c.dd.at_=(c.name,some ("__init__":Str)))&&c.okT p&&decide (c.ct.np+1=c.ps.length)&&decide (c.ct.nb=c.N.length)&&decide (c.ps.length≤c.N.length)&&((stos c.ct.items).all fun i=>match c.ats[i]? with
  |some .fld=>true
  |_=>false)&&c.ix p.ds.length&&(!c.va||decide (c.ps.length=2))
def gOk (q:Str × D):Bool:=match q.2 with
 | .str s=>okS s
 | .int _=>true
 | .ktp _=>true
 | .kdt l=>l.all fun e=>match e.1,e.2 with
  | .str s,.int _=>okS s
  |_,_=>false
 |_=>false
def gl1 (sc:Scope) (y:Str):Bool:=decide (sc.names.lookup y=some .globalImplicit)
def notD (y:Str):Bool:= !(y == ("__debug__":Str))&& !(y == ("__classdict__":Str))
def ZeG.okS (w:ZeG):Bool:=
 Zgm w.whys&&decide (w.whys.name=("_law_whys":Str))&&
  Zen [w.a2,w.d] [w.a2] w.whys.scope&&decide ((ZnV w.whys.body).map (fun q=>(q.1,q.2.1,q.2.2.1))=some (w.a2,w.d,w.wy))&&decide (w.wy=w.why.name)&&decide (w.whys.scope.names.lookup w.a2=some .local)&&([w.a2,w.d,w.wy].all notD)&&
  (match ZnV w.whys.body with
   |some (_,_,_,sc)=>blkC [w.a2,w.d] w.whys.scope sc [(w.d,1)]&&decide ((relS sc w.whys.scope).names.lookup w.d=some .local)&&decide ((relS sc w.whys.scope).names.lookup w.wy=some .globalImplicit)
   |none=>false)
def ZeG.ok (w:ZeG):Bool:=
 Zgm w.why&&decide (w.why.name=("_law_why":Str))&&Zen [w.a,w.e] [w.a] w.why.scope&&decide (whyT w.why.body=some (w.a,w.e,w.x1,w.x2,w.x3,w.lf))&&
  decide (w.why.scope.names.lookup w.a=some .local)&&decide (w.why.scope.names.lookup w.e=some .local)&&([w.x1,w.x2,w.x3,w.lf].all (gl1 w.why.scope))&&([w.a,w.e,w.x1,w.x2,w.x3,w.lf].all notD)&&(!w.hs||w.okS)
def Pg.whyOk (p:Pg):Bool:=match p.why with
 |none=>p.ds.all fun d=> !d.lam
 |some w=>w.ok&&(match p.ds[p.fld]? with
  |some d=>d.dd.dfl.isEmpty&&d.dd.kwd.isEmpty&&decide (d.wh=.glo)&&decide (d.dd.name=w.lf)&&decide (d.ps.length=1)&&d.gn.isNone&&d.sp.isNone&&chSs (p.tb false Zb1) d.N d.fn.body ⟨d.dd.scope.names,false,false,false⟩ d.dd.body
  |none=>false)
def Zkw (p:Pg) (c:CE):Bool:=match c.dms.lookup .exit with
 |none=>true
 |some f=>(match p.ds[f]? with
  |some d=>d.gn.isNone&&d.sp.isNone&& !d.tl&&Zen d.N d.ps d.dd.scope&&decide (d.ps.length=4)&&d.dd.dfl.isEmpty&&d.dd.kwd.isEmpty&&chSs (p.tb false Zb1) d.N d.fn.body ⟨d.dd.scope.names,false,false,false⟩ d.dd.body
  |none=>false)
def Pg.ok (p:Pg) (prog:Program):Bool:=p.cs'.all (Zkw p)&&p.ds.all (DE.ok p)&&p.gs.all gOk&&decide p.an.Nodup&&decide (p.an[0]? =some ("code":Str))&&p.xs.all (XE.txt p.an prog)&&p.cs'.all (CE.ok p)&&p.mn.all (fun m=> !p.an.contains m)&&p.whyOk
def ZeK (K:PySem.W.Frag) (x qual:Str) (params:Arguments) (body:List Stmt) (scope:Scope) (dvs:List V) (kws:List (Str × V)) (fd:FuncData):Prop:=∃(dV kV doc pm:Value) (an:Option Addr) (cdv ct:Value) (clo:List (Str × Addr)),
 fd=PySem.W.fnX x qual params body scope clo dV kV doc pm an cdv ct∧DflV K dV dvs∧KwdV K kV kws
theorem ZeK.of {K:PySem.W.Frag} {x qual:Str} {params:Arguments} {body:List Stmt} {scope:Scope} {dvs:List V} {kws:List (Str × V)} {f:Addr} {fd:FuncData} (F:FunD K x qual params body scope dvs kws f fd):ZeK K x qual params body scope dvs kws fd:=by
 obtain⟨oc,od,dV,kV,doc,pm,an,cdv,ct,osl,rfl,lk,hcd,hD,hK⟩:=F.ex
 exact⟨dV,kV,doc,pm,an,cdv,ct,[],rfl,hD,hK⟩
theorem ZeK.ofS {P:Program} {K:PySem.W.Frag} {C:Addr} {x qual:Str} {params:Arguments} {body:List Stmt} {scope:Scope} {dvs:List V} {kws:List (Str × V)} {f:Addr} {fd:FuncData} {cc:Addr} (F:Zk8 P K C x qual params body scope dvs kws f fd cc):ZeK K x qual params body scope dvs kws fd:=by
 obtain⟨oc,od,dV,kV,doc,pm,an,cda,ct,osl,rfl,lk,hcd,hD,hK,_⟩:=F.ex
 exact⟨dV,kV,doc,pm,an,.ref cda,ct,[("__class__",cc)],rfl,hD,hK⟩
theorem ZkU {x qual:Str} {params:Arguments} {body:List Stmt} {scope:Scope} {clo:List (Str × Addr)} {dV kV doc pm:Value} {an:Option Addr} {cdv ct:Value} {s:Shared} {as:Args} {bs:List (Str × Value)} (h:BindsTo s (PySem.W.fnOf x qual params body scope dV kV doc pm an cdv ct) as bs):BindsTo s (PySem.W.fnX x qual params body scope clo dV kV doc pm an cdv ct) as bs:=h
def bndP (d:He.DefD) (ps:List Str) (m n:Nat) (ks:List Str) (sel:List Nat):Prop:=ps.length=sel.length+m∧
 ∀(K:PySem.W.Frag) (fd:FuncData),ZeK K d.name d.qual d.params d.body d.scope (d.dvs K) (d.kws K) fd→∃ds,Vals (dfV K d) ds∧
  ∀(s:Shared) (pre us ws vs:List Value),K.In s.heap→pre.length=m→us.length=n→ws.length=ks.length→ZbU sel (us++ws++ds)=some vs→BindsTo s fd ⟨pre++us,ks.zip ws⟩ (ps.zip (pre++vs))
abbrev ZgD (d:He.DefD) (ps:List Str) (n:Nat) (ks:List Str) (sel:List Nat):Prop:=bndP d ps 0 n ks sel
abbrev bndC (d:He.DefD) (ps:List Str) (n:Nat) (ks:List Str) (sel:List Nat):Prop:=bndP d ps 1 n ks sel
abbrev KBd (d:DE) (n:Nat) (ks:List Str) (sel:List Nat):Prop:=ZgD d.dd d.ps n ks sel
theorem Zex {K:PySem.W.Frag} {d:He.DefD} (h:d.dfl=[]):d.dvs K=[]:=by unfold He.DefD.dvs; rw[h]; rfl
theorem ZfC {K:PySem.W.Frag} {d:He.DefD} (h:d.kwd=[]):d.kws K=[]:=by unfold He.DefD.kws; rw[h]; rfl
section
variable {d:He.DefD} {ps ks:List Str} {m n:Nat} {sel:List Nat}
theorem Zb2 (hd:d.dfl=[]) (hk:d.kwd=[]) (hl:ps.length=sel.length+m) (h:∀(kV doc pm:Value) (an:Option Addr) (cdv ct:Value) (pre us ws:List Value),pre.length=m→us.length=n→ws.length=ks.length→
  ∃vs,ZbU sel (us++ws)=some vs∧bindArgs (PySem.W.fnOf d.name d.qual d.params d.body d.scope .none kV doc pm an cdv ct) ⟨pre++us,ks.zip ws⟩=pure (ps.zip (pre++vs))):bndP d ps m n ks sel:=by
 refine⟨hl,fun K fd F=>?_⟩
 obtain⟨dV,kV,doc,pm,an,cdv,ct,clo,rfl,hD,hK⟩:=F
 rcases hD with⟨_,rfl⟩ |⟨e,_⟩
 ·refine⟨[],by unfold dfV; rw[Zex hd,ZfC hk]; exact .nil,fun s pre us ws vs _ l0 l1 l2 hp=>?_⟩
  rw[Zaw] at hp
  obtain⟨vs',h5,h6⟩:=h kV doc pm an cdv ct pre us ws l0 l1 l2
  rw[hp] at h5
  cases h5
  exact ZkU (.of_eq h6)
 ·exact absurd (Zex hd) e
def ZpF (d:He.DefD) (ps:List Str) (n:Nat):Prop:=ps.length=n+1∧∀(K:PySem.W.Frag) (fd:FuncData),ZeK K d.name d.qual d.params d.body d.scope (d.dvs K) (d.kws K) fd→VarB fd ps n
end
def Pg.kbOk (p:Pg):Prop:=∀q∈p.kb,∃d,p.ds[q.1]? =some d∧KBd d q.2.1 q.2.2.1 q.2.2.2
def ZpG (d:He.DefD) (a:Str):Prop:=∀(kV doc pm:Value) (an:Option Addr) (cdv ct u:Value),bindArgs (PySem.W.fnOf d.name d.qual d.params d.body d.scope .none kV doc pm an cdv ct) ⟨[u],[]⟩=pure [(a,u)]
def Pg.mtd (p:Pg) (m f:Nat):Prop:=∃c∈p.cs',c.mts[m]? =some (some f)
structure Pg.bdC (p:Pg):Prop where
 mt:∀q∈p.kbm,∀f d,p.mtd q.1 f→p.ds[f]? =some d→d.fn.np=q.2.2.2.length→ZgD d.dd d.ps (q.2.1+1) q.2.2.1 q.2.2.2
 mkk:∀q∈p.kbc,∀c,p.cs'[q.1]? =some c→bndC c.dd c.ps q.2.1 q.2.2.1 q.2.2.2
 mv:∀c∈p.cs',c.va=true→ZpF c.dd c.ps 1
 va:∀q∈p.kva,∃d,p.ds[q.1]? =some d∧ZpF d.dd d.ps q.2
 st:∀q∈p.kst,∀c f d,p.cs'[q.1]? =some c→c.sts[q.2.1]? =some (some f)→p.ds[f]? =some d→ZgD d.dd d.ps q.2.2.1 q.2.2.2.1 q.2.2.2.2
 ca:∀q∈p.kca,∀c∈p.cs',∀f d,c.dms.lookup .call=some f→p.ds[f]? =some d→ZgD d.dd d.ps (q.1+1) q.2.1 q.2.2
 one:∀c∈p.cs',∀f d,(c.dms.lookup .len=some f∨c.dms.lookup .repr=some f∨c.dms.lookup .bool=some f∨At.prp f∈c.ats∨c.dms.lookup .enter=some f)→p.ds[f]? =some d→ZgD d.dd d.ps 1 [] [0]
 two:∀c∈p.cs',∀f d,(c.dms.lookup .eq=some f∨c.dms.lookup .ne=some f∨c.dms.lookup .has=some f)→p.ds[f]? =some d→ZgD d.dd d.ps 2 [] [0,1]
 fou:∀c∈p.cs',∀f d,c.dms.lookup .exit=some f→p.ds[f]? =some d→ZgD d.dd d.ps 4 [] [0,1,2,3]
 pst:∀c∈p.cs',∀i f d,c.pst.lookup i=some f→p.ds[f]? =some d→ZgD d.dd d.ps 2 [] [0,1]
 ms:∀q∈p.kmv,∀f d,p.mtd q.1 f→p.ds[f]? =some d→ZpF d.dd d.ps (q.2+1)
structure Pg.bd (p:Pg):Prop where
 kb:p.kbOk
 cl:p.bdC
 xb:∀x∈p.xs,x.binds p.an
 wb:∀w,p.why=some w→ZpG w.why w.a∧(w.hs=true→ZpG w.whys w.a2)∧∀d,p.ds[p.fld]? =some d→∀(kV doc pm:Value) (an:Option Addr) (cdv ct u:Value),bindArgs (PySem.W.fnOf d.dd.name d.dd.qual d.dd.params d.dd.body d.dd.scope .none kV doc pm an cdv ct) ⟨[u],[]⟩=pure (d.ps.zip [u])
/-! ### what is read of the heap -/
def Zc3 (K:PySem.W.Frag) (q:Str × Option Str):Addr:=match K.lookup (He.fAd K q) with
 |some ⟨_,_,.func fd,_⟩=>(match fd.code with
  | .ref c=>c
  |_=>0)
 |_=>0
def Zix (K:PySem.W.Frag) (c:Addr):Addr:=match K.lookup c with
 |some ⟨_,_,.fields vs,_⟩=>(match (vs[11]? :Option Value) with
  |some (.ref P)=>P
  |_=>0)
 |_=>0
def Pg.cs (p:Pg) (K:PySem.W.Frag):List (Addr × Addr):=(p.ds.filter DE.tl).map fun d=>(Zc3 K d.dd.at_,Zix K (Zc3 K d.dd.at_))
def Pg.tabs (p:Pg) (K:PySem.W.Frag):List (Addr × Str):=(p.ds.filter DE.tl).map fun d=>(Zix K (Zc3 K d.dd.at_),(d.dd.qual++".<locals>.")++"<lambda>")
def Zoa (Kf:PySem.W.Frag) (T:List Addr):PySem.W.Frag:=Kf.filter fun q=> !T.contains q.1
theorem Zlt {Kf:PySem.W.Frag} {T:List Addr} {h:Heap} (X:Kf.In h):(Zoa Kf T).In h:=by
 intro a o e
 refine X a o ?_
 unfold Zoa at e
 clear X
 induction Kf with
 |nil=>cases e
 |cons q r ih=>
  obtain⟨b,ob⟩:=q
  rw[Zbu] at e
  by_cases hab:a=b
  ·subst hab
   by_cases hT:T.contains a
   ·rw[if_neg (by simpa using hT)] at e
    exfalso
    have:∀l:PySem.W.Frag,(l.filter fun q=> !T.contains q.1).lookup a≠some o:=by
     intro l
     induction l with
     |nil=>exact fun z=>nomatch z
     |cons q r ih=>
      rw[Zbu]
      split
      ·rename_i hq
       obtain⟨c,oc⟩:=q
       rw[ZaZ]
       have:(a == c)=false:=by
        cases z:a == c with
        |false=>rfl
        |true=>rw[← ZfS z,hT] at hq; cases hq
       rw[this]
       exact ih
      ·exact ih
    exact this r e
   ·rw[if_pos (by simpa using hT),ZaZ,ZaB] at e
    show List.lookup a ((a,ob)::r)=_
    rw[ZaZ,ZaB]
    exact e
  ·have hb:(a == b)=false:=by simpa using hab
   show List.lookup a ((b,ob)::r)=_
   rw[ZaZ,hb]
   split at e
   ·rw[ZaZ,hb] at e
    exact ih e
   ·exact ih e
def ZoW:Option Obj→Bool
 |some ⟨.none,none,.fields vs,sl⟩=>vs.isEmpty&&sl.isEmpty
 |_=>false
theorem Zl2 {o:Option Obj} (h:ZoW o=true):o=some {cls:=.none,data:=.fields #[]}:=by
 unfold ZoW at h
 split at h
 ·rename_i vs sl
  rw[Zaa] at h
  rw[Array.isEmpty_iff.mp h.1,Array.isEmpty_iff.mp h.2]
 ·cases h
def Zpv (K:PySem.W.Frag) (q:Str × Option Str):Bool:=match K.lookup (He.fAd K q) with
 |some ⟨_,_,.func fd,_⟩=>(match fd.code with
  | .ref _=>true
  |_=>false)
 |_=>false
def Pg.tabB (p:Pg) (Kf K:PySem.W.Frag):Bool:=((p.ds.filter DE.tl).all fun d=>Zpv K d.dd.at_)&&((p.cs K).all fun q=>ZoW (Kf.lookup q.2)&&(K.lookup q.2).isNone&&PySem.W.codeHdIn K q.1 q.2)&&
 ((p.tabs K).all fun q=>(p.tabs K).all fun r=> !decide (q.1=r.1)||decide (q.2=r.2))
def Zhf (K:PySem.W.Frag) (x:XE):Addr:=He.ma K (He.ga K x.name) "__init__"
def Pg.xB (p:Pg) (prog:Program) (K:PySem.W.Frag):Bool:=p.xs.all fun x=>xeB prog K (He.ga K x.name) (Zhf K x) x.base (x.fld.bind fun i=>p.an[i]?)&&(p.an.all fun i=>decide (PySem.W.findIn K (.ref (He.ga K x.name)) i=some none))&&
 (match p.why with
  |some w=>decide (PySem.W.exmAny K (.ref (He.ga K x.name)) [.ref (He.ga K w.x1),.ref (He.ga K w.x2),.ref (He.ga K w.x3)]=some true)
  |none=>true)
/-! ### defs by where they stand -/
def Zox (K:PySem.W.Frag) (C:Addr) (f:Str):Addr:=match PySem.W.recIn K (He.ma K C f) "property" with
 |some (.ref g::_)=>g
 |_=>0
def Zow (K:PySem.W.Frag) (C:Addr) (f:Str):Addr:=match PySem.W.recIn K (He.ma K C f) "property" with
 |some (_::.ref g::_)=>g
 |_=>0
def DE.ad (K:PySem.W.Frag) (d:DE):Addr:=match d.wh with
 | .glo=>He.ga K d.dd.name
 | .mth c m=>He.ma K (He.ga K c) m
 | .prp c f=>Zox K (He.ga K c) f
 | .sta c m=>He5.wf K (He.ga K c) "staticmethod" m
 | .pst c f=>Zow K (He.ga K c) f
def ZiJ (K:PySem.W.Frag) (a:Addr) (d:He.DefD):Bool:=PySem.W.keepIn K (.ref a)&&(match K.lookup a with
 |some ⟨_,_,.func fd,_⟩=>PySem.W.codeIn K fd.code d.qual&&(He.dflB K fd.defaults (d.dvs K)&&He.kwdB K fd.kwdefaults (d.kws K))
 |_=>false)
theorem Zo9 {K:PySem.W.Frag} {a:Addr} {d:He.DefD} (e:fnX K a=(some (d.name,d.qual,d.params,FuncBody.stmts d.body,d.scope,mainGlobals,[],builtinsNs):Ziw)) (c:ZiJ K a d=true):∃fd,FunD K d.name d.qual d.params d.body d.scope (d.dvs K) (d.kws K) a fd:=by
 unfold ZiJ at c
 rw[Zaa] at c
 obtain⟨hkeep,c⟩:=c
 unfold fnX at e
 cases hl:K.lookup a with
 |none=>rw[hl] at c; cases c
 |some ob=>
  obtain⟨o1,o2,dat,o4⟩:=ob
  rw[hl] at c e
  cases dat with
  |func fd=>
   obtain⟨m1,m2,m3,m4,m5,m6,m7,m8,m9,m10,m11,m12,m13,m14,m15⟩:=fd
   have e:(some (m1,m2,m3,m4,m5,m6,m7.map (·.1),m15):Ziw)=(some (d.name,d.qual,d.params,FuncBody.stmts d.body,d.scope,mainGlobals,[],builtinsNs):Ziw):=e
   simp only[Option.some.injEq,Prod.mk.injEq,List.map_eq_nil_iff] at e
   obtain⟨rfl,rfl,rfl,rfl,rfl,rfl,rfl,rfl⟩:=e
   dsimp only at c
   simp only[Zaa] at c
   exact⟨_,⟨o1,o2,m8,m9,m10,m11,m12,m13,m14,o4,rfl,hl,c.1,He.dflB_ok c.2.1,He.kwdB_ok c.2.2⟩,hkeep⟩
  |_=>cases c
def conV:D→Option V
 | .int i=>some (.int i)
 | .str s=>if okS s then some (.str (stt s)) else none
 | .bl b=>some (.bl b)
 |_=>none
def con1 (d:D) (u:Value):Bool:=match conV d with
 |some v=>He.relB v u
 |none=>false
def conL:List D→List Value→Bool
 |[],[]=>true
 |d::l,u::us=>con1 d u&&conL l us
 |_,_=>false
def conB (K:PySem.W.Frag) (d:D) (u:Value):Bool:=match d with
 | .ktp l=>(match u with
  | .ref a=>(match K.lookup a with
   |some o=>decide (o.cls=.type "tuple")&&(match o.data with
    | .seq its _=>decide (its.size≤sizeLine)&&conL l its.toList
    |_=>false)
   |none=>false)
  |_=>false)
 |d=>con1 d u
def kdE:List (D × D)→List DictEntry→Bool
 |[],[]=>true
 |(.str s,.int i)::l,e::r=>(match e.key,e.val with
  | .str x _,.int j _=>decide (x=stt s)&&decide (j=i)
  |_,_=>false)&&kdE l r
 |_,_=>false
def kdB (K:PySem.W.Frag) (l:List (D × D)) (a:Addr):Bool:=match K.lookup a with
 |some ⟨_,_,.dict es _,_⟩=>kdE l es.toList
 |_=>false
def kdK (l:List (D × D)):List Str:=l.filterMap fun e=>match e.1 with
 | .str s=>some (stt s)
 |_=>none
def gtB (K:PySem.W.Frag) (q:Str × D):Bool:=match q.2 with
 | .ktp l=>conB K (.ktp l) (.ref (He.ga K q.1))
 | .kdt l=>kdB K l (He.ga K q.1)
 |_=>true
def Zon (v:Option (Option Value)) (a:Addr):Bool:=He.eqO v (some (some (.ref a)))
def Zfa (p:Pg) (K:PySem.W.Frag) (f:Nat):Addr:=match p.ds[f]? with
 |some d=>d.ad K
 |none=>0
def atB (p:Pg) (K:PySem.W.Frag) (C:Addr) (f:Str):At→Bool
 | .no=>true
 | .fld=>He.eqO (PySem.W.findIn K (.ref C) f) (some none)
 | .con d=>(match PySem.W.findIn K (.ref C) f with
  |some (some u)=>conB K d u&&He.eqO (PySem.W.specialIn K u "__get__") (some none)&& !PySem.W.copiedNames.contains f
  |_=>false)
 | .prp q=>(match PySem.W.findIn K (.ref C) f with
  |some (some (.ref pa))=>He.eqO (PySem.W.specialIn K (.ref pa) "__get__") (some (some (.builtin "property.__get__")))&&decide (PySem.W.takesIn K (.ref pa)=some true)&&(match PySem.W.recIn K pa "property" with
   |some (.ref g::_)=>decide (g=Zfa p K q)
   |_=>false)
  |_=>false)
def atsB (p:Pg) (K:PySem.W.Frag) (C:Addr):List Str→List At→Bool
 |_,[]=>true
 |[],_::_=>false
 |f::fs,a::r=>atB p K C f a&&atsB p K C fs r
def mtB (p:Pg) (K:PySem.W.Frag) (C:Addr) (m:Str) (f:Nat):Bool:=Zon (PySem.W.findIn K (.ref C) m) (Zfa p K f)&&PySem.W.isFn K (.ref (Zfa p K f))&&PySem.W.keepIn K (.ref (Zfa p K f))
def ZlR (p:Pg) (K:PySem.W.Frag) (C:Addr):List Str→List (Option Nat)→Bool
 |_,[]=>true
 |[],_::_=>false
 |m::ms,none::r=>ZlR p K C ms r
 |m::ms,some f::r=>mtB p K C m f&&ZlR p K C ms r
def stB (p:Pg) (K:PySem.W.Frag) (C:Addr) (m:Str) (f:Nat):Bool:=He5.wrapB K C "staticmethod" "staticmethod.__get__" m&&decide (He5.wf K C "staticmethod" m=Zfa p K f)&&PySem.W.keepIn K (.ref (Zfa p K f))
def Zls (p:Pg) (K:PySem.W.Frag) (C:Addr):List Str→List (Option Nat)→Bool
 |_,[]=>true
 |[],_::_=>false
 |m::ms,none::r=>Zls p K C ms r
 |m::ms,some f::r=>stB p K C m f&&Zls p K C ms r
def duN:Du→Str
 | .len=>"__len__" | .repr=>"__repr__" | .eq=>"__eq__" | .ne=>"__eq__" | .bool=>"__bool__" | .has=>"__contains__" | .call=>"__call__" | .enter=>"__enter__" | .exit=>"__exit__"
def duB (p:Pg) (K:PySem.W.Frag) (C:Addr) (q:Du × Nat):Bool:=Zon (PySem.W.findIn K (.ref C) (duN q.1)) (Zfa p K q.2)&&PySem.W.isFn K (.ref (Zfa p K q.2))&&PySem.W.fnIn K (Zfa p K q.2)&&(match q.1 with
 | .ne=>He.eqO (PySem.W.findIn K (.ref C) "__ne__") (some (some (.builtin "object.__ne__")))
 |_=>true)
def cnB (p:Pg) (K:PySem.W.Frag) (C:Addr) (q:Nat × D):Bool:=match p.an[q.1]? with
 |some f=>(match PySem.W.findCls K (.ref C) (.type "type") f with
  |some (.val u)=>conB K q.2 u
  |_=>false)
 |none=>false
def Zmp (l:List (Du × Nat)):Bool:=(l.lookup .eq).isSome||(l.lookup .ne).isSome
def isB (p:Pg) (K:PySem.W.Frag) (C:Addr) (e:Bool):List CE→List Bool→Bool
 |[],[]=>true
 |c::cs,b::bs=>decide (PySem.W.kitOne K (.ref C) (.ref (He.ga K c.name))=some b)&&(!e||PySem.W.notFirst K C (.ref (He.ga K c.name)))&&isB p K C e cs bs
 |_,_=>false
def pstB (p:Pg) (K:PySem.W.Frag) (C:Addr) (q:Nat × Nat):Bool:=match p.an[q.1]? with
 |some f=>(match PySem.W.takerIn K C f with
  |some (some (.ref pa))=>decide (PySem.W.typeIn K (.ref pa)=some (.type "property"))&&(match PySem.W.recIn K pa "property" with
   |some (_::.ref g::_)=>decide (g=Zfa p K q.2)
   |_=>false)
  |_=>false)
 |none=>false
def ceB (p:Pg) (K:PySem.W.Frag) (c:CE):Bool:=c.pst.all (pstB p K (He.ga K c.name))&&atsB p K (He.ga K c.name) p.an c.ats&&ZlR p K (He.ga K c.name) p.mn c.mts&&Zls p K (He.ga K c.name) p.mn c.sts&&c.dms.all (duB p K (He.ga K c.name))&&c.cns.all (cnB p K (He.ga K c.name))&&isB p K (He.ga K c.name) (Zmp c.dms) p.cs' c.isa&&
 PySem.W.readsIn K (He.ga K c.name) (.type "type")&&He.eqO (PySem.W.specialIn K (.ref (He.ga K c.name)) "__getattribute__") (some (some (.builtin "type.__getattribute__")))&&
 He.eqO (PySem.W.findIn K (.ref (He.ga K c.name)) "__class__") (some (some (.builtin "object.__class__")))&&He.eqO (PySem.W.specialIn K (.builtin "object.__class__") "__get__") (some (some (.builtin "getset_descriptor.__get__")))&&decide (PySem.W.takesIn K (.builtin "object.__class__")=some true)&&decide (PySem.W.mroIn K (He.ga K c.name) (.type "object")=some true)&&
 tys6.all (fun t=>decide (PySem.W.kitOne K (.type t) (.ref (He.ga K c.name))=some false)&&PySem.W.notFirst K (He.ga K c.name) (.type t))
def CE.ini (K:PySem.W.Frag) (c:CE):Addr:=He.ma K (He.ga K c.name) "__init__"
def CE.xval (c:CE):Ziw:=some (c.dd.name,c.dd.qual,c.dd.params,.stmts c.dd.body,c.dd.scope,mainGlobals,["__class__"],builtinsNs)
def Pg.sup (p:Pg):List CE:=p.cs'.filter fun c=>c.sb.isSome
def DE.xval (d:DE):Ziw:=some (d.dd.name,d.dd.qual,d.dd.params,.stmts d.dd.body,d.dd.scope,mainGlobals,if d.sp.isSome then ["__class__"] else [],builtinsNs)
def supC (prog:Program) (K:PySem.W.Frag) (a C:Addr) (mn:Str) (B:Addr) (dd:He.DefD):Bool:=(match K.lookup a with
   |some ⟨_,_,.func fd,_⟩=>(match fd.code with
     | .ref cda=>PySem.W.codeIn K (.ref cda) fd.qualname&&(match K.lookup cda with
      |some ⟨_,_,.fields vs,_⟩=>(match (vs[2]? :Option Value) with
       |some (.str file _)=>(prog.main.file:Str) == file
       |_=>false)
      |_=>false)
     |_=>false)&&(match fd.closure with
     |[(_,cc)]=>(match K.lookup cc with
      |some ⟨_,_,.cell (some (.ref C')),_⟩=>decide (C'=C)
      |_=>false)
     |_=>false)&&(He.dflB K fd.defaults (dd.dvs K)&&He.kwdB K fd.kwdefaults (dd.kws K))
   |_=>false)&&decide ((prog.main.scope.names.lookup ("super":Str)).isSome=false)&&decide (PySem.W.nsIn K mainGlobals "super"=some none)&&decide (PySem.W.nsIn K cStatics "thirdparty.any"=some none)&&
   (PySem.W.clsIn K C).isSome&&decide (PySem.W.mroIn K C (.ref C)=some true)&&decide (PySem.W.ks_superIn K C C mn=some (some (.ref B)))&&
   decide (PySem.W.typeIn K (.ref B)=some (.type "function"))&&PySem.W.fnIn K B
def supB (p:Pg) (prog:Program) (K:PySem.W.Frag) (c:CE):Bool:=match c.sb with
 |none=>true
 |some b=>(match p.cs'[b]? with
  |none=>false
  |some cb=>supC prog K (c.ini K) (He.ga K c.name) "__init__" (cb.ini K) c.dd)
def Ziy (p:Pg) (prog:Program) (K:PySem.W.Frag) (d:DE):Bool:=match d.sp with
 |none=>true
 |some q=>(match p.cs'[q.1]?,p.mn[q.2.2.1]? with
  |some c,some mn=>supC prog K (d.ad K) (He.ga K c.name) mn (Zfa p K q.2.2.2) d.dd
  |_,_=>false)
structure SupF (P:Program) (K:PySem.W.Frag) (a C:Addr) (mn:Str) (B:Addr) (dd:He.DefD):Prop where
 fn:∃fd cc,Zk8 P K C dd.name dd.qual dd.params dd.body dd.scope (dd.dvs K) (dd.kws K) a fd cc
 ns:PySem.W.nsIn K mainGlobals "super"=some none
 opq:PySem.W.nsIn K cStatics "thirdparty.any"=some none
 cl:∃cd,PySem.W.clsIn K C=some cd
 mro:PySem.W.mroIn K C (.ref C)=some true
 su:PySem.W.ks_superIn K C C mn=some (some (.ref B))
 ty:PySem.W.typeIn K (.ref B)=some (.type "function")
 fi:PySem.W.fnIn K B=true
abbrev SupOk (P:Program) (K:PySem.W.Frag) (c cb:CE):Prop:=SupF P K (c.ini K) (He.ga K c.name) "__init__" (cb.ini K) c.dd
theorem Zjj {prog:Program} {K:PySem.W.Frag} {a C:Addr} {mn:Str} {B:Addr} {dd:He.DefD} (hv:fnX K a=(some (dd.name,dd.qual,dd.params,FuncBody.stmts dd.body,dd.scope,mainGlobals,["__class__"],builtinsNs):Ziw)) (h:supC prog K a C mn B dd=true):SupF prog K a C mn B dd:=by
 unfold supC at h
 simp only[Zaa,Zab] at h
 obtain⟨⟨⟨⟨⟨⟨⟨⟨h1,h2⟩,h3⟩,h4⟩,h5⟩,h6⟩,h7⟩,h8⟩,h9⟩:=h
 refine⟨?_,h3,h4,Option.isSome_iff_exists.mp h5,h6,h7,h8,h9⟩
 unfold fnX at hv
 cases hk:K.lookup a with
 |none=>rw[hk] at h1; cases h1
 |some o=>
  obtain⟨oc,od,dt,osl⟩:=o
  rw[hk] at h1 hv
  cases dt with
  |func fd=>
   obtain⟨n1,n2,n3,n4,n5,n6,n7,n8,n9,n10,n11,n12,n13,n14,n15⟩:=fd
   have e2:(some (n1,n2,n3,n4,n5,n6,n7.map (·.1),n15):Ziw)=(some (dd.name,dd.qual,dd.params,FuncBody.stmts dd.body,dd.scope,mainGlobals,["__class__"],builtinsNs):Ziw):=hv
   simp only[Option.some.injEq,Prod.mk.injEq] at e2
   obtain⟨rfl,rfl,rfl,rfl,rfl,rfl,e7,rfl⟩:=e2
   dsimp only at h1
   simp only[Zaa] at h1
   obtain⟨⟨k2,k3⟩,k6⟩:=h1
   split at k2
   rotate_left
   ·cases k2
   rename_i cda
   rw[Zaa] at k2
   obtain⟨k4,k5⟩:=k2
   split at k5
   rotate_left
   ·cases k5
   rename_i c1 c2 vs c4 hcda
   split at k5
   rotate_left
   ·cases k5
   rename_i file tf hvs
   split at k3
   rotate_left
   ·cases k3
   rename_i nm cc
   split at k3
   rotate_left
   ·cases k3
   rename_i d1 d2 C' d4 hcc
   obtain rfl:=ZaC k3
   obtain rfl:nm="__class__":=by
    simp only[Zap,ZaW,List.cons.injEq,and_true] at e7
    exact e7
   exact⟨_,cc,⟨oc,od,n8,n9,n10,n11,n12,cda,n14,osl,rfl,hk,k4,He.dflB_ok k6.1,He.kwdB_ok k6.2,c1,c2,vs,c4,file,tf,hcda,hvs,k5⟩,⟨d1,d2,d4,hcc⟩,h2⟩
  |_=>cases h1
theorem sup_ok {p:Pg} {prog:Program} {K:PySem.W.Frag} {c cb:CE} {b:Nat} (hb:c.sb=some b) (hcb:p.cs'[b]? =some cb) (hv:fnX K (c.ini K)=c.xval) (h:supB p prog K c=true):SupOk prog K c cb:=by
 unfold supB at h
 rw[hb] at h
 dsimp only at h
 rw[hcb] at h
 exact Zjj hv h
theorem Zn8 {p:Pg} {prog:Program} {K:PySem.W.Frag} {d:DE} {q:Nat × Nat × Nat × Nat} {c:CE} {mn:Str} (hb:d.sp=some q) (hc:p.cs'[q.1]? =some c) (hm:p.mn[q.2.2.1]? =some mn) (hv:fnX K (d.ad K)=d.xval) (h:Ziy p prog K d=true):SupF prog K (d.ad K) (He.ga K c.name) mn (Zfa p K q.2.2.2) d.dd:=by
 unfold Ziy at h
 rw[hb] at h
 dsimp only at h
 rw[hc,hm] at h
 refine Zjj ?_ h
 rw[hv]
 unfold DE.xval
 rw[hb]
 rfl
def Pg.stB (p:Pg) (K:PySem.W.Frag):Bool:=p.xs.all fun x=>decide (PySem.W.subIn K (.ref (He.ga K x.name)) (.type "StopIteration")=some false)&&decide (PySem.W.exmOne K (.ref (He.ga K x.name)) (.ref (He.ga K x.name))=some true)
abbrev AlF:Type:=(Bool × List He.FnW) × Bool × List Ziw × Bool × List Ziw × List (Option (List (Option (Str × Int))))
def Pg.kds (p:Pg):List (Str × List (D × D)):=p.gs.filterMap fun q=>match q.2 with
 | .kdt l=>some (q.1,l)
 |_=>none
def Pg.K (p:Pg) (Kf:PySem.W.Frag):PySem.W.Frag:=Zoa Kf ((p.cs Kf).map (·.2))
def obsK (p:Pg) (prog:Program) (Kf K:PySem.W.Frag):AlF:=(He.obsD p.fa p.defs K,(p.xB prog K&&p.tabB Kf K)&&p.stB K,p.xs.map (fun x=>fnX K (Zhf K x))++p.sup.map (fun c=>fnX K (c.ini K)),(p.ds.all fun d=>ZiJ K (d.ad K) d.dd&&Ziy p prog K d)&&p.cs'.all (ceB p K)&&(p.gs.all (gtB K)&&p.cs'.all (supB p prog K)),p.ds.map (fun d=>fnX K (d.ad K)),p.kds.map fun q=>He.dicW K (He.ga K q.1))
def obsF (p:Pg) (prog:Program) (Kf:PySem.W.Frag):AlF:=obsK p prog Kf (p.K Kf)
def Zlk (p:Pg) (w:World):AlF:=(He.valD p.defs,true,p.xs.map XE.val++p.sup.map CE.xval,true,p.ds.map DE.xval,p.kds.map fun q=>some (He.keysIn w.params (kdK q.2)))
/-! the objects that the head's names reach,in rounds; what is seen is kept as bits of one number -/
def frN {α:Type} (n:Nat) (k:Nat→α):α:=match n with
 |0=>k 0
 |m+1=>k (Nat.succ m)
def addB {β:Type} (k:Nat→List Addr→β):List Addr→Nat→List Addr→β
 |[],m,acc=>k m acc
 |a::l,m,acc=>frN a fun a=>match Nat.beq (Nat.land (Nat.shiftRight m a) 1) 1 with
  |true=>addB k l m acc
  |false=>frN (Nat.lor m (Nat.shiftLeft 1 a)) fun m=>addB k l m (a::acc)
def ZjH {β:Type} (g:Addr→Option Obj) (k:Nat→List Addr→β):List Addr→Nat→List Addr→β
 |[],m,acc=>k m acc
 |a::l,m,acc=>match g a with
  |some o=>addB (fun m acc=>ZjH g k l m acc) (He.refsD o) m acc
  |none=>ZjH g k l m acc
def asB (g:Addr→Option Obj):Nat→List Addr→Nat→List Addr→List Addr
 |0,_,_,all=>all
 |n+1,front,m,all=>ZjH g (fun m acc=>asB g n acc m (all++acc)) front m []
def asF (g:Addr→Option Obj) (n:Nat):List Addr:=addB (fun m acc=>asB g n acc m acc) [mainGlobals,cStatics] 0 []
def frP {α:Type} (q:Addr × Obj) (k:Addr × Obj→α):α:=match q with
 |(a,o)=>k (a,o)
def frF {α:Type}:PySem.W.Frag→(PySem.W.Frag→α)→α
 |[],k=>k []
 |q::l,k=>frP q fun q=>frF l fun r=>k (q::r)
theorem Zkr {α:Type}:∀(l:PySem.W.Frag) (k:PySem.W.Frag→α),frF l k=k l
 |[],_=>rfl
 |(a,o)::l,k=>by
  show frF l (fun r=>k ((a,o)::r))=_
  rw[Zkr l]
def ZjR (n:Nat) (p:Pg) (prog:Program) (g:Addr→Option Obj):AlF:=frF (He.frG g (asF g n)) fun Kf=>frF (p.K Kf) fun K=>obsK p prog Kf K
theorem ZoE {n:Nat} {p:Pg} {prog:Program} {g:Addr→Option Obj}:ZjR n p prog g=obsF p prog (He.frG g (asF g n)):=by
 unfold ZjR
 rw[Zkr,Zkr]
 rfl
def Zo2 (n:Nat) (p:Pg) (prog:Program):PySem.W.Hook where
 α:=AlF
 obs:=fun s=>ZjR n p prog s.heap.get?
 val:=fun w=>Zlk p w
 says:=fun w h=>∃Kf:PySem.W.Frag,Kf.In h∧obsF p prog Kf=Zlk p w
 of:=fun _ _ e=>⟨_,He.frG_in,ZoE.symm.trans e⟩
 keeps:=fun _ _ _ ⟨K,hK,c⟩ k=>⟨K,PySem.W.Frag.In.keeps hK k,c⟩
theorem ZlL {n:Nat} {p:Pg} {prog:Program} {g:Addr→Option Obj} {s:Shared} (h:∀a,g a=s.heap.get? a):ZjR n p prog g=(Zo2 n p prog).obs s:=by
 have e:g=s.heap.get? :=funext h
 rw[e]<;>rfl
structure Zc6 (p:Pg) (prog:Program) (w:World) (K:PySem.W.Frag) (h:Heap):Prop where
 inK:K.In h
 d:He.SaysD p.fa p.defs K
 x:∀x∈p.xs,xeB prog K (He.ga K x.name) (Zhf K x) x.base (x.fld.bind fun i=>p.an[i]?)=true∧fnX K (Zhf K x)=x.val∧(∀i∈p.an,PySem.W.findIn K (.ref (He.ga K x.name)) i=some none)∧
  ∀w,p.why=some w→PySem.W.exmAny K (.ref (He.ga K x.name)) [.ref (He.ga K w.x1),.ref (He.ga K w.x2),.ref (He.ga K w.x3)]=some true
 tab:ZgG K h (p.cs K)
 cref:∀d∈p.ds,d.tl=true→Zpv K d.dd.at_=true
 tnd:∀q∈p.tabs K,∀r∈p.tabs K,q.1=r.1→q.2=r.2
 de:∀d∈p.ds,ZiJ K (d.ad K) d.dd=true∧fnX K (d.ad K)=d.xval∧Ziy p prog K d=true
 ce:∀c∈p.cs',ceB p K c=true
 gt:∀q∈p.gs,gtB K q=true
 stp:∀x∈p.xs,PySem.W.subIn K (.ref (He.ga K x.name)) (.type "StopIteration")=some false
 exm:∀x∈p.xs,PySem.W.exmOne K (.ref (He.ga K x.name)) (.ref (He.ga K x.name))=some true
 su:∀c∈p.cs',∀b cb,c.sb=some b→p.cs'[b]? =some cb→SupOk prog K c cb
 kd:∀q∈p.kds,He.dicW K (He.ga K q.1)=some (He.keysIn w.params (kdK q.2))
theorem says_of {p:Pg} {prog:Program} {w:World} {Kf:PySem.W.Frag} {h:Heap} (X:Kf.In h) (e:obsF p prog Kf=Zlk p w):Zc6 p prog w (p.K Kf) h:=by
 have e1:He.obsD p.fa p.defs (p.K Kf)=He.valD p.defs:=congrArg (fun z:AlF=>z.1) e
 have e2':((p.xB prog (p.K Kf)&&p.tabB Kf (p.K Kf))&&p.stB (p.K Kf))=true:=congrArg (fun z:AlF=>z.2.1) e
 obtain⟨e2,e8⟩:=ZaY.mp e2'
 have e3':p.xs.map (fun x=>fnX (p.K Kf) (Zhf (p.K Kf) x))++p.sup.map (fun c=>fnX (p.K Kf) (c.ini (p.K Kf)))=p.xs.map XE.val++p.sup.map CE.xval:=congrArg (fun z:AlF=>z.2.2.1) e
 obtain⟨e3,e9⟩:=List.append_inj e3' (by rw[Zac,Zac])
 have e6:((p.ds.all fun d=>ZiJ (p.K Kf) (d.ad (p.K Kf)) d.dd&&Ziy p prog (p.K Kf) d)&&p.cs'.all (ceB p (p.K Kf))&&(p.gs.all (gtB (p.K Kf))&&p.cs'.all (supB p prog (p.K Kf))))=true:=congrArg (fun z:AlF=>z.2.2.2.1) e
 have e7:p.ds.map (fun d=>fnX (p.K Kf) (d.ad (p.K Kf)))=p.ds.map DE.xval:=congrArg (fun z:AlF=>z.2.2.2.2.1) e
 have e10:(p.kds.map fun q=>He.dicW (p.K Kf) (He.ga (p.K Kf) q.1))=p.kds.map fun q=>some (He.keysIn w.params (kdK q.2)):=congrArg (fun z:AlF=>z.2.2.2.2.2) e
 rw[Zaa,Zaa,Zaa] at e6
 obtain⟨e4,e5⟩:=ZaY.mp e2
 have inK:(p.K Kf).In h:=Zlt X
 generalize p.K Kf=K at *
 unfold Pg.tabB at e5
 simp only[Zaa,Zaj,ZaP,Zbz,Zab,decide_eq_false_iff_not] at e5
 obtain⟨⟨t1,t2⟩,t3⟩:=e5
 refine⟨inK,e1,fun x hx=>?_,⟨fun q hq=>?_,fun q hq=>?_,fun q hq=>?_⟩,fun d hd hl=>t1 d (Zbj.mpr ⟨hd,hl⟩),fun q hq r hr z=>(t3 q hq r hr).elim (fun n=>absurd z n) id,fun d hd=>have z:=ZaY.mp (Zaj.mp e6.1.1 d hd); ⟨z.1,Zd3.mp e7 d hd,z.2⟩,fun c hc=>Zaj.mp e6.1.2 c hc,fun q hq=>Zaj.mp e6.2.1 q hq,fun x hx=>ZaC (ZaY.mp (Zaj.mp e8 x hx)).1,fun x hx=>ZaC (ZaY.mp (Zaj.mp e8 x hx)).2,fun c hc b cb h1 h2=>sup_ok h1 h2 (Zd3.mp e9 c (Zbj.mpr ⟨hc,by rw[h1]; rfl⟩)) (Zaj.mp e6.2.2 c hc),fun q hq=>Zd3.mp e10 q hq⟩
 ·unfold Pg.xB at e4
  have q:=Zaj.mp e4 x hx
  simp only[Zaa,Zaj,Zab] at q
  refine⟨q.1.1,Zd3.mp e3 x hx,q.1.2,fun w hw=>?_⟩
  have q:=q.2
  rw[hw] at q
  exact ZaC q
 ·exact X _ _ (Zl2 (t2 q hq).1.1)
 ·exact Za3.mp (t2 q hq).1.2
 ·exact PySem.W.codeHd_of_K inK (t2 q hq).2
end Rk
/-! Rk.P:every def keeps its promise. -/
namespace Rk
open PySem PySem.Spec PyProof.Rows L2
section
variable {P:Program} {w:World} {K:PySem.W.Frag} {h:Heap} {mg:Str→Option Value} {p:Pg}
theorem Zpx {d:D} {v:V} (h:conV d=some v) {g:Gi} {w:Wd} {n:Nat}:RV g w n d v:=by
 unfold conV at h
 split at h
 ·cases h; exact Za7.mpr rfl
 ·split at h
  ·rename_i hs
   cases h
   exact Za1.mpr ⟨rfl,hs⟩
  ·cases h
 ·cases h; exact Zde.mpr rfl
 ·cases h
theorem ZkL {d:D} {u:Value} (h:con1 d u=true):∃v,RelV v u∧∀(g:Gi) (w:Wd) (n:Nat),RV g w n d v:=by
 unfold con1 at h
 split at h
 ·rename_i v hv
  exact⟨v,He.relB_ok h,fun _ _ _=>Zpx hv⟩
 ·cases h
theorem ZkK:∀{l:List D} {us:List Value},conL l us=true→∃xs,Vals xs us∧∀(g:Gi) (w:Wd) (n:Nat),RVs g w n l xs
 |[],[],_=>⟨[],.nil,fun _ _ _=>RVs.nil⟩
 |[],_::_,h=>by unfold conL at h; cases h
 |_::_,[],h=>by unfold conL at h; cases h
 |d::l,u::us,h=>by
  unfold conL at h
  rw[Zaa] at h
  obtain⟨v,h1,h2⟩:=ZkL h.1
  obtain⟨xs,h3,h4⟩:=ZkK h.2
  exact⟨v::xs,.cons h1 h3,fun g w n=>RVs.mk (h2 g w n) (h4 g w n)⟩
theorem ZfX {K:PySem.W.Frag} {d:D} {u:Value} (h:conB K d u=true):∃v,RelV v u∧∀{g:Gi} (_:g.K=K) {w:Wd} {n:Nat},RV g w n d v:=by
 unfold conB at h
 split at h
 ·rename_i l
  split at h
  ·rename_i a
   split at h
   ·rename_i o hl
    rw[Zaa,Zab] at h
    obtain⟨h1,h2⟩:=h
    split at h2
    ·rename_i its m hd
     rw[Zaa,Zab] at h2
     obtain⟨xs,h3,h4⟩:=ZkK h2.2
     refine⟨.ref a,He.relB_ok (ZaJ rfl),fun {g} hg {w n}=>?_⟩
     unfold RV
     subst hg
     exact⟨a,xs,rfl,⟨o,its,m,hl,h1,hd,h2.1,h3⟩,h4 g w n⟩
    ·cases h2
   ·cases h
  ·cases h
 ·obtain⟨v,h1,h2⟩:=ZkL h
  exact⟨v,h1,fun _ _ _=>h2 _ _ _⟩
theorem ZfR (S:Zc6 p P w K h) {f:He.Fa} (hf:f∈p.fa):f.ok K=true:=by
 obtain⟨i,hi,e⟩:=ZgI.mp hf
 exact S.d.fact i (by rw[Zad hi,e])
theorem ZjM {d:He.DefD} (h:Zgm d=true):d.dvs K=[]∧d.kws K=[]∧d.at_=(d.name,none):=by
 unfold Zgm at h
 simp only[Zaa,Zab] at h
 refine⟨?_,?_,h.2⟩
 ·unfold He.DefD.dvs
  rw[Zcx.mp h.1.1]
  rfl
 ·unfold He.DefD.kws
  rw[Zcx.mp h.1.2]
  rfl
theorem Zkp (S:Zc6 p P w K h) {d:He.DefD} (hd:d∈p.defs) (hp:Zgm d=true):∃fd,FunD K d.name d.qual d.params d.body d.scope [] [] (He.ga K d.name) fd:=by
 obtain⟨i,hi,e⟩:=ZgI.mp hd
 obtain⟨fd,F⟩:=S.d.def_ i (d:=d) (by rw[Zad hi,e])
 obtain⟨e1,e2,e3⟩:=ZjM (K:=K) hp
 have e3:He.fAd K d.at_=He.ga K d.name:=by rw[e3]; rfl
 rw[e1,e2,e3] at F
 exact⟨fd,F⟩
theorem Zb6 (ok:p.ok P=true):(∀d∈p.ds,DE.ok p d=true)∧(∀q∈p.gs,gOk q=true)∧p.an.Nodup∧p.an[0]? =some ("code":Str)∧(∀x∈p.xs,XE.txt p.an P x=true)∧(∀c∈p.cs',CE.ok p c=true)∧(∀m∈p.mn,(!p.an.contains m)=true)∧p.whyOk=true:=by
 unfold Pg.ok at ok
 simp only[Zaa,Zab] at ok
 obtain⟨⟨⟨⟨⟨⟨⟨⟨h0,h1⟩,h2⟩,h3⟩,h4⟩,h5⟩,h6⟩,h7⟩,h8⟩:=ok
 exact⟨Zaj.mp h1,Zaj.mp h2,h3,h4,Zaj.mp h5,Zaj.mp h6,Zaj.mp h7,h8⟩
theorem okExit (ok:p.ok P=true) {c:CE} (hc:c∈p.cs'):Zkw p c=true:=by
 unfold Pg.ok at ok
 simp only[Zaa,Zab] at ok
 exact Zaj.mp ok.1.1.1.1.1.1.1.1 c hc
theorem dePl (ok:p.ok P=true) {f:Nat} {d:DE} (hd:p.ds[f]? =some d):Zgl d=true:=by
 have q:=(Zb6 ok).1 d (Zao hd)
 unfold DE.ok at q
 exact (ZaY.mp q).1
theorem Zpq (ok:p.ok P=true) {f:Nat} {d:DE} (hd:p.ds[f]? =some d) {gd:GnD} (hg:d.gn=some gd) (hs:d.sp=none):d.lam=false∧(L2.GScope d.N d.ps d.dd.scope∧Zk5 d.dd.scope)∧gd.np=d.ps.length∧gd.nb=d.N.length∧ZhR d.fn.body=true∧chGs (p.tb true Zb1) d.N gd.body ⟨d.dd.scope.names,false,true,false⟩ d.dd.body=true:=by
 have q:=(Zb6 ok).1 d (Zao hd)
 unfold DE.ok at q
 rw[hs,hg] at q
 simp only[Zaa,Zab,Zbz] at q
 obtain⟨_,⟨⟨⟨⟨h0,h1⟩,h2⟩,h3⟩,h4⟩,h5⟩:=q
 exact⟨h0,ZiS h1,h2,h3,h4,h5⟩
theorem deOk (ok:p.ok P=true) {f:Nat} {d:DE} (hd:p.ds[f]? =some d) (hg:d.gn=none) (hs:d.sp=none):Zgl d=true∧FnScope d.N d.ps d.dd.scope∧d.fn.np=d.ps.length∧d.fn.nb=d.N.length∧chSs (p.tb true (ZeO p d)) d.N d.fn.body ⟨d.dd.scope.names,d.lam,true,d.kl⟩ d.dd.body=true:=by
 have q:=(Zb6 ok).1 d (Zao hd)
 unfold DE.ok at q
 rw[hs,hg] at q
 simp only[Zaa,Zab] at q
 obtain⟨h0,⟨⟨h1,h2⟩,h3⟩,h4⟩:=q
 exact⟨h0,Zdy h1,h2,h3,h4⟩
theorem deOkS (ok:p.ok P=true) {f:Nat} {d:DE} (hd:p.ds[f]? =some d) {q:Nat × Nat × Nat × Nat} (hs:d.sp=some q):d.okS p q=true:=by
 have z:=(Zb6 ok).1 d (Zao hd)
 unfold DE.ok at z
 rw[hs] at z
 exact (ZaY.mp z).2
theorem Zgk {d:DE} (h:Zgl d=true):dfOk d.dd=true∧(d.tl=true→d.wh=.glo∧d.dd.at_=(d.dd.name,none)):=by
 unfold Zgl at h
 simp only[Zaa,ZaP,Zab] at h
 obtain⟨h1,h3⟩:=h
 refine⟨h1,fun hl=>?_⟩
 rcases h3 with h3 |h3
 ·rw[hl] at h3; cases h3
 ·exact h3
theorem Zo8 (S:Zc6 p P w K h) {f:Nat} {d:DE} (hd:p.ds[f]? =some d) (hs:d.sp=none):∃fd,FunD K d.dd.name d.dd.qual d.dd.params d.dd.body d.dd.scope (d.dd.dvs K) (d.dd.kws K) (d.ad K) fd:=by
 obtain⟨c,e,_⟩:=S.de d (Zao hd)
 refine Zo9 (e.trans ?_) c
 unfold DE.xval
 rw[hs]
 rfl
def Zng (p:Pg) (K:PySem.W.Frag) (f:Nat):FuncData:=match K.lookup (Zfa p K f) with
 |some ⟨_,_,.func fd,_⟩=>fd
 |_=>default
theorem Zkv {f:Nat} {d:DE} (hd:p.ds[f]? =some d) {oc:Value} {od:Option Addr} {fd:FuncData} {osl:Array (Option Value)} (e:K.lookup (d.ad K)=some ⟨oc,od,.func fd,osl⟩):Zng p K f=fd:=by
 unfold Zng Zfa
 rw[hd]
 dsimp only
 rw[e]
noncomputable def Za5 (p:Pg) (K:PySem.W.Frag):Gi where
 K:=K
 ca:=fun c=>He.ga K (((p.xs[c]?).map (·.name)).getD "")
 an:=fun i=>(p.an[i]?).getD ""
 nn:=p.an.length
 fa:=fun f=>Zfa p K f
 fd:=Zng p K
 fps:=fun f=>((p.ds[f]?).map (·.ps)).getD []
 fdv:=fun f=>((p.ds[f]?).map fun d=>dfV K d.dd).getD []
 pn:=[]
 tabs:=p.tabs K
 cells:=[]
 qual:=""
 lamOk:=fun _ _=>False
 xk:=fun c=>c < p.xs.length
 cb:=fun c=>He.ga K (((p.cs'[c]?).map (·.name)).getD "")
 nc:=p.cs'.length
 cdv:=fun c=>((p.cs'[c]?).map fun c=>dfV K c.dd).getD []
 me:=none
theorem Zdr (S:Zc6 p P w K h) (ok:p.ok P=true) {f:Nat} {d:DE} (hd:p.ds[f]? =some d) (hs:d.sp=none):FunD K d.dd.name d.dd.qual d.dd.params d.dd.body d.dd.scope (d.dd.dvs K) (d.dd.kws K) (d.ad K) (Zng p K f):=by
 obtain⟨fd,F⟩:=Zo8 S hd hs
 obtain⟨oc,od,dV,kV,doc,pm,an,cdv,ct,osl,rfl,lk,_⟩:=F.ex
 rw[Zkv hd lk]
 exact F
theorem ZfQ (S:Zc6 p P w K h) (ok:p.ok P=true) {f:Nat} {d:DE} (hd:p.ds[f]? =some d) {q:Nat × Nat × Nat × Nat} (hs:d.sp=some q):∃c mn cc,p.cs'[q.1]? =some c∧p.mn[q.2.2.1]? =some mn∧SupF P K (d.ad K) (He.ga K c.name) mn (Zfa p K q.2.2.2) d.dd∧Zk8 P K (He.ga K c.name) d.dd.name d.dd.qual d.dd.params d.dd.body d.dd.scope (d.dd.dvs K) (d.dd.kws K) (d.ad K) (Zng p K f) cc:=by
 obtain⟨_,e,z⟩:=S.de d (Zao hd)
 have z2:=z
 unfold Ziy at z
 rw[hs] at z
 dsimp only at z
 cases hc:p.cs'[q.1]? with
 |none=>rw[hc] at z; cases z
 |some c=>
 cases hm:p.mn[q.2.2.1]? with
 |none=>rw[hc,hm] at z; cases z
 |some mn=>
 have SF:=Zn8 hs hc hm e z2
 obtain⟨fd,cc,F⟩:=SF.fn
 obtain⟨oc,od,dV,kV,doc,pm,an,cda,ct,osl,rfl,lk,_⟩:=F.ex
 rw[Zkv hd lk]
 exact⟨c,mn,cc,rfl,rfl,SF,F⟩
theorem Znf (S:Zc6 p P w K h) (ok:p.ok P=true) {f:Nat} {d:DE} (hd:p.ds[f]? =some d):ZeK K d.dd.name d.dd.qual d.dd.params d.dd.body d.dd.scope (d.dd.dvs K) (d.dd.kws K) (Zng p K f):=by
 cases hs:d.sp with
 |none=>exact ZeK.of (Zdr S ok hd hs)
 |some q=>
  obtain⟨_,_,_,_,_,_,F⟩:=ZfQ S ok hd hs
  exact ZeK.ofS F
theorem fd_kp (S:Zc6 p P w K h) {f:Nat} {d:DE} (hd:p.ds[f]? =some d):PySem.W.keepIn K (.ref (d.ad K))=true:=by
 have c:=(S.de d (Zao hd)).1
 unfold ZiJ at c
 exact (ZaY.mp c).1
theorem ZfK {f:Nat} {d:DE} (hd:p.ds[f]? =some d):(Za5 p K).fa f=d.ad K:=by
 show Zfa p K f=_
 unfold Zfa
 rw[hd]
theorem Zit {d:DE} (h:d.wh=.glo):d.ad K=He.ga K d.dd.name:=by
 unfold DE.ad
 rw[h]
theorem Znc {d:DE} {f:Nat} (hd:p.ds[f]? =some d) (h:d.wh=.glo):He.Fa.glo d.dd.name∈p.fa:=by
 refine Zam _ (Zam _ (Zam _ (Zam _ (Zam _ (ZeI.mpr ⟨d,Zao hd,?_⟩)))))
 unfold DE.fa
 rw[if_pos h]
 exact Zar.mpr rfl
theorem ZcQ {c:CE} (hc:c∈p.cs') {f:He.Fa} (hf:f∈c.fa):f∈p.fa:=Zam _ (ZaD _ (ZeI.mpr ⟨c,hc,hf⟩))
theorem exc_fa {x:XE} (hx:x∈p.xs):He.Fa.glo x.name∈p.fa:=Zam _ (Zam _ (ZaD _ (Zah.mpr ⟨x,hx,rfl⟩)))
theorem ZeQ {f:Nat} {d:DE} (hd:p.ds[f]? =some d):(Za5 p K).fps f=d.ps:=by
 show ((p.ds[f]?).map (·.ps)).getD []=_
 rw[hd]; rfl
theorem Zdq {c:Nat} {x:CE} (hx:p.cs'[c]? =some x):(Za5 p K).cb c=He.ga K x.name:=by
 show He.ga K (((p.cs'[c]?).map (·.name)).getD "")=_
 rw[hx]; rfl
theorem Zkn {c:Nat} {x:XE} (hx:p.xs[c]? =some x):(Za5 p K).ca c=He.ga K x.name:=by
 show He.ga K (((p.xs[c]?).map (·.name)).getD "")=_
 rw[hx]; rfl
theorem ZeR {i:Nat} {x:Str} (hx:p.an[i]? =some x):(Za5 p K).an i=x:=by
 show (p.an[i]?).getD ""=_
 rw[hx]; rfl
theorem xAt {l:List XE} {x:Str} {f:Nat} (e:(ZoG 0 (l.map (·.name))).lookup x=some f):∃d,l[f]? =some d∧d.name=x:=by
 obtain⟨j,rfl,h⟩:=Zfw e
 rw[Zbt]
 rw[ZaK] at h
 exact Zan.mp h
theorem Zo6 (ok:p.ok P=true):NmOk (Za5 p K):=by
 have ndd:=(Zb6 ok).2.2.1
 intro i j hi hj e
 have hi:i < p.an.length:=hi
 have hj:j < p.an.length:=hj
 rw[ZeR (Zad hi),ZeR (Zad hj)] at e
 exact (List.getElem_inj ndd).mp e
theorem Zkm (ok:p.ok P=true):p.G.cod < (Za5 p K).nn∧(Za5 p K).an p.G.cod=("code":Str):=by
 have e:=(Zb6 ok).2.2.2.1
 exact⟨(Zay.mp e).1,ZeR e⟩
theorem xeAll (S:Zc6 p P w K h) (ok:p.ok P=true) (bd:p.bd) {c:Nat} {x:XE} (hx:p.xs[c]? =some x):
  ZnN P K ((Za5 p K).ca c) (Zhf K x) (stt x.code) (x.fld.bind fun i=>p.an[i]?)∧PySem.W.subIn K (.ref ((Za5 p K).ca c)) (.type "BaseException")=some true∧PySem.W.typeIn K (.ref ((Za5 p K).ca c))=some (.type "type")∧PySem.W.keepIn K (.ref ((Za5 p K).ca c))=true∧XfC K ((Za5 p K).ca c):=by
 have hm:=Zao hx
 obtain⟨h1,h2,_⟩:=S.x x hm
 rw[Zkn hx]
 exact xe_ok ((Zb6 ok).2.2.2.2.1 x hm) (bd.xb x hm) h2 h1
theorem gi_xo (S:Zc6 p P w K h) (ok:p.ok P=true) (bd:p.bd):XkOk (Za5 p K) K:=by
 intro c hc
 have hc:c < p.xs.length:=hc
 have hx:=Zad hc
 refine⟨(xeAll S ok bd hx).2.2.2.2,fun i hi=>?_⟩
 have hi:i < p.an.length:=hi
 have ha:=Zad hi
 rw[Zkn hx,ZeR ha]
 exact (S.x _ (Zao hx)).2.2.1 _ (Zao ha)
theorem gi_dv {f:Nat} {d:DE} (hd:p.ds[f]? =some d):(Za5 p K).fdv f=dfV K d.dd:=by
 show ((p.ds[f]?).map fun d=>dfV K d.dd).getD []=_
 rw[hd]; rfl
theorem g_dfs {f:Nat} {d:DE} (hd:p.ds[f]? =some d):p.G.dfs f=dfD d.dd:=by
 show ((p.ds[f]?).map fun d=>dfD d.dd).getD []=_
 rw[hd]; rfl
theorem ZgA {g:Gi} {pn cells qual lamOk me} {a:List D} {b:List V}:DfV (g.at pn cells qual lamOk me) a b=DfV g a b:=by
 unfold DfV
 rw[Zcc]
theorem Zms (f:Nat):DfV (Za5 p K) (p.G.dfl f) ((Za5 p K).fdv f):=⟨[],_,rfl,fun _ _=>RVs.nil⟩
theorem ds_ok (ok:p.ok P=true) (f:Nat):DfV (Za5 p K) (p.G.dfs f) ((Za5 p K).fdv f):=by
 refine⟨_,[],(Zaw _).symm,fun w n=>?_⟩
 cases hd:p.ds[f]? with
 |none=>
  show RVs _ w n (((p.ds[f]?).map fun d=>dfD d.dd).getD []) (((p.ds[f]?).map fun d=>dfV K d.dd).getD [])
  rw[hd]
  exact RVs.nil
 |some d=>
  rw[gi_dv hd,g_dfs hd]
  exact ZkG (Zgk (dePl ok hd)).1
theorem Zho {f:Nat} {d:DE} {n:Nat} {ks:List Str} {sel:List Nat} (S:Zc6 p P w K h) (ok:p.ok P=true) (hd:p.ds[f]? =some d) (hb:ZgD d.dd d.ps n ks sel):KB (Za5 p K) f n ks sel∧((Za5 p K).fps f).length=sel.length:=by
 obtain⟨h2,h3⟩:=hb
 obtain⟨ds,v,q⟩:=h3 K _ (Znf S ok hd)
 refine⟨⟨ds,by rw[gi_dv hd]; exact v,fun s us ws vs X l1 l2 hp=>?_⟩,by rw[ZeQ hd]; exact h2⟩
 rw[ZeQ hd]
 exact q s [] us ws vs X rfl l1 l2 hp
theorem ZkS {f:Nat} {d:DE} {n:Nat} (S:Zc6 p P w K h) (ok:p.ok P=true) (hd:p.ds[f]? =some d) (hb:ZpF d.dd d.ps n):VarB ((Za5 p K).fd f) ((Za5 p K).fps f) n∧((Za5 p K).fps f).length=n+1:=by
 obtain⟨h2,h3⟩:=hb
 rw[ZeQ hd]
 exact⟨h3 K _ (Znf S ok hd),h2⟩
theorem Zir {d:He.DefD} {a:Str} {f:Addr} {fd:FuncData} (F:FunD K d.name d.qual d.params d.body d.scope [] [] f fd) (b:ZpG d a) (s:Shared) (u:Value):BindsTo s fd ⟨[u],[]⟩ [(a,u)]:=by
 obtain⟨oc,od,dV,kV,doc,pm,an,cdv',ct,osl,rfl,lk,hcd,hD,hK⟩:=F.ex
 rcases hD with⟨_,rfl⟩ |⟨e,_⟩
 ·exact .of_eq (b kV doc pm an cdv' ct u)
 ·exact absurd rfl e
theorem kbAll (S:Zc6 p P w K h) (ok:p.ok P=true) (bd:p.bd) {f n:Nat} {ks:List Str} {sel:List Nat} (e:p.kb.contains (f,n,ks,sel)=true):KB (Za5 p K) f n ks sel∧((Za5 p K).fps f).length=sel.length:=by
 obtain⟨d',h1,h2⟩:=bd.kb _ (Zax.mp e)
 exact Zho S ok h1 h2
def Zlf (p:Pg) (P:Program) (w:World) (K:PySem.W.Frag) (mg:Str→Option Value) (base:Heap) (k:Nat):Prop:=
 ∀f d,p.ds[f]? =some d→FnG false P w K mg base k true ((Za5 p K).fa f) ((Za5 p K).fd f) ((Za5 p K).fps f) (spF (Za5 p K) (cN p.G k) true f)
def ZiY (p:Pg) (P:Program) (w:World) (K:PySem.W.Frag) (mg:Str→Option Value) (base:Heap) (k:Nat):Prop:=True
theorem promG0:ZiY p P w K mg base 0:=trivial
theorem genCx {X:Cx} {k:Nat} {pn:List (Addr × Obj)} {cells:List (Str × Addr)} {qual:Str} {lamOk:Nat→Zd6→Prop} {me:Option Addr} (S:Zc6 p X.prog X.w X.K h) (pr:∀j,j < k→ZiY p X.prog X.w X.K X.mg X.base j) (room:Zcf k X.A) (st:X.stack=X.env::X.outer) (fr:X.env.frame=some X.env.locals) (e0:X.ex=[]):
  Zp0 X ((Za5 p X.K).at pn cells qual lamOk me) (cN p.G k) k:=trivial
theorem ZkN {X:Cx} {k:Nat} {N:List Str} {nm:Nm} {c:Bool} {lamB:Nat→Zd6→Bool} {pn:List (Addr × Obj)} {cells:List (Str × Addr)} {qual:Str} {lamOk:Nat→Zd6→Prop} {me:Option Addr} (S:Zc6 p X.prog X.w X.K h) (ns:h.Ns mainGlobals X.mg) (ok:p.ok X.prog=true) (bd:p.bd) (pr:Zlf p X.prog X.w X.K X.mg X.base k)
  (room:Zcf k X.A) (nd:X.N.Nodup) (hN:X.N=N) (nms:X.env.scope.names=nm.ns) (kind:X.env.scope.kind=.function) (calm:c=true→X.calm=true) (hpn:∀q∈pn,q∈X.pn) (hpn0:c=true→pn=[])
  (lm:nm.lam=true→c=true→ZpY X ((Za5 p X.K).at pn cells qual lamOk me) lamB∧ZpN X ((Za5 p X.K).at pn cells qual lamOk me) p.G (cN p.G k) k (p.tb c lamB).wx (p.tb c lamB).wsx)
  (cl:Zi3 X ((Za5 p X.K).at pn cells qual lamOk me) p.G (p.tb c lamB) (cN p.G k) k) (gn:nm.gen=true→c=true→Zp0 X ((Za5 p X.K).at pn cells qual lamOk me) (cN p.G k) k)
  (kk:nm.kl=true→c=true→LamK X ((Za5 p X.K).at pn cells qual lamOk me):=by exact fun z=>nomatch z):
  CK X ((Za5 p X.K).at pn cells qual lamOk me) p.G (p.tb c lamB) N (cN p.G k) k nm where
 gx:=⟨rfl,calm,room.dp,room.un,room.gd,nd⟩
 hN:=hN
 kk:=kk
 nms:=nms
 kind:=kind
 calm:=calm
 pn:=hpn
 pn0:=hpn0
 fm:=fun x f' e=>by
  obtain⟨j,d',rfl,h1,rfl,hw⟩:=ZfN e
  rw[Zbt]
  have e3:((Za5 p X.K).at pn cells qual lamOk me).fa j=He.ga X.K d'.dd.name:=(ZfK h1).trans (Zit hw)
  rw[e3]
  refine⟨He.glo_ok S.inK ns (ZfR S (Znc h1 hw)),?_⟩
  have:=fd_kp S h1
  rw[Zit hw] at this
  exact this
 gm:=fun x' m e=>by
  obtain⟨j,dd,rfl,h1,hnk⟩:=Zhh e
  rw[Zbt]
  have hm:=Zao h1
  have fok:=ZfR S (f:=faG (x',dd)) (Zam _ (Zam _ (Zam _ (Zam _ (ZaD _ (Zah.mpr ⟨_,hm,rfl⟩))))))
  have g1:=(Zb6 ok).2.1 _ hm
  have eg:p.G.glb j=dd:=by show ((p.gs[j]?).map (·.2)).getD .non=_; rw[h1]; rfl
  rw[eg]
  cases dd with
  |str z=>
   obtain⟨t,ht⟩:=He.str_ok S.inK ns fok
   exact⟨.str (stt z),_,ht,⟨t,rfl⟩,fun _ _=>Za1.mpr ⟨rfl,g1⟩⟩
  |int i=>
   obtain⟨t,ht⟩:=He.int_ok S.inK ns fok
   exact⟨.int i,_,ht,⟨t,rfl⟩,fun _ _=>Za7.mpr rfl⟩
  |ktp l=>
   have hg:=He.glo_ok S.inK ns fok
   obtain⟨v,hv,hr⟩:=ZfX (show conB X.K (.ktp l) (.ref (He.ga X.K x'))=true from S.gt _ hm)
   exact⟨v,_,hg,hv,fun w m=>hr rfl⟩
  |kdt l=>exact absurd rfl (hnk l)
  |_=>cases g1
 bm:=fun x e=>He.free_ok S.inK ns (ZfR S (Zam _ (Zam _ (Zam _ (ZaD _ (Zah.mpr ⟨x,Zax.mp e,rfl⟩))))))
 kb:=fun f n ks sel e=>by
  obtain⟨h1,h2⟩:=kbAll S ok bd e
  exact⟨ZoU h1,h2⟩
 df:=fun f=>by rw[ZgA]; exact Zms f
 ds:=fun f=>by rw[ZgA]; exact ds_ok ok f
 calls:=fun hc x f' e=>by
  obtain⟨j,d',rfl,h1,_,_⟩:=ZfN e
  rw[Zbt]
  rw[Zjr]
  have hc:(p.tb c lamB).c=true:=hc
  rw[hc]
  exact pr j d' h1
 an:=fun i x e=>⟨ZeR (K:=X.K) e,(Zay.mp e).1⟩
 xo:=gi_xo S ok bd
 nmk:=Zo6 (K:=X.K) ok
 xc:=fun x kc e=>by
  obtain⟨d',h1,rfl⟩:=xAt e
  obtain⟨q1,q2,q3,q4,q5⟩:=xeAll S ok bd h1
  obtain⟨c1,c2⟩:=Zkm (K:=X.K) ok
  have hm:=Zao h1
  have tx:XE.txt p.an X.prog d'=true:=(Zb6 ok).2.2.2.2.1 _ hm
  unfold XE.txt at tx
  simp only[Zaa,Zab] at tx
  have okc:=tx.1.1.2
  have tf:=tx.2
  have efld:(d'.fld.bind fun i=>p.an[i]?)=d'.fld.map ((Za5 p X.K).at pn cells qual lamOk me).an:=by
   cases hf:d'.fld with
   |none=>rfl
   |some i=>
    rw[hf] at tf
    show p.an[i]? =some ((Za5 p X.K).an i)
    cases ha:p.an[i]? with
    |none=>dsimp only at tf; rw[ha] at tf; cases tf
    |some y=>rw[ZeR (p:=p) (K:=X.K) ha]
  refine⟨⟨Zhf X.K d',stt d'.code,d'.fld.bind fun i=>p.an[i]?,q1,fun f e=>?_,q2,q3,q4,?_,(Zay.mp h1).1,d'.code,d'.fld,?_,rfl,okc,efld,fun f e=>?_⟩,c1,c2⟩
  ·cases hf:d'.fld with
   |none=>rw[hf] at e; cases e
   |some i=>
    rw[hf] at e tf
    have e:p.an[i]? =some f:=e
    dsimp only at tf
    rw[e] at tf
    simp only[Zaa,Zab] at tf
    exact tf.2
  ·have e3:((Za5 p X.K).at pn cells qual lamOk me).ca kc=He.ga X.K d'.name:=Zkn h1
   rw[e3]
   exact He.glo_ok S.inK ns (ZfR S (exc_fa hm))
  ·show (p.xs[kc]?).map (fun x=>(x.code,x.fld))=_
   rw[h1]; rfl
  ·rw[e] at tf
   dsimp only at tf
   cases ha:p.an[f]? with
   |none=>rw[ha] at tf; cases tf
   |some y=>exact (Zay.mp ha).1
 lm:=lm
 cl:=cl
 gn:=gn
end
end Rk
/-! Rk.Pe:what a check knows of the classes. -/
namespace Rk
open PySem PySem.Spec PyProof.Rows L2
section
variable {g:Gi} {pn:List (Addr × Obj)} {cells:List (Str × Addr)} {qual:Str} {lamOk:Nat→Zd6→Prop} {me:Option Addr}
theorem spP_at {call:Cl} {f:Nat}:spP (g.at pn cells qual lamOk me) call f=spP g call f:=by
 funext vs H Q E
 unfold spP PV
 simp only[Zdf,Zcc,ZbN,ZdP]
theorem Zjp {call:Cl} {f:Nat}:spI (g.at pn cells qual lamOk me) call f=spI g call f:=by
 funext vs H Q E
 unfold spI PV
 simp only[Zdf,Zcc,ZbN,ZdP]
 rfl
theorem spY_at {run:D→AH→Res D}:spY (g.at pn cells qual lamOk me) run=spY g run:=by
 funext vs H Q
 unfold spY PV
 simp only[Zdf,ZbN,ZdP]
theorem Zg6 {w:Wd} {h:AH} {H:Hp} {kk:Nat} {x dx:Addr} {gs:List (Str × V)}:NW (g.at pn cells qual lamOk me) w h H kk x dx gs=NW g w h H kk x dx gs:=
 propext ⟨fun N=>⟨N.fx,N.fd,N.zx,N.zd,N.ne,N.kc,N.ac,by have z:=N.rr; rw[Zdf] at z; exact z⟩,fun N=>⟨N.fx,N.fd,N.zx,N.zd,N.ne,N.kc,N.ac,by rw[Zdf]; exact N.rr⟩⟩
theorem Zjq {call:Cl} {b kk:Nat}:Zog (g.at pn cells qual lamOk me) call b kk=Zog g call b kk:=by
 funext vs H Q E
 unfold Zog
 simp only[Zg6,Zcc,ZbN,ZcN]
theorem spN_at {call:Cl} {kk:Nat}:spN (g.at pn cells qual lamOk me) call kk=spN g call kk:=by
 funext vs H Q E
 unfold spN
 simp only[Zg6,Zcc,ZbN,ZdP]
end
theorem Zm8:∀{l:List (D × D)} {es:List DictEntry},kdE l es=true→∀s:List Nat,(match lkD (.str s) l with
  |none=>(es.find? fun e=>Value.isStrOf (stt s) e.key)=none
  |some (.int i)=>∃e t,(es.find? fun e=>Value.isStrOf (stt s) e.key)=some e∧e.val=.int i t
  |_=>False)
 |[],[],_,s=>rfl
 |[],_::_,h,_=>by unfold kdE at h; cases h
 |(k,v)::l,[],h,_=>by unfold kdE at h; cases k<;>cases v<;>cases h
 |(k,v)::l,e::r,h,s=>by
  cases k with
  |str a=>
   cases v with
   |int i=>
    unfold kdE at h
    rw[Zaa] at h
    obtain⟨h1,h2⟩:=h
    obtain⟨eh,ek,ev⟩:=e
    dsimp only at h1
    split at h1
    ·rename_i x t j t2
     rw[Zaa,Zab,Zab] at h1
     obtain⟨rfl,rfl⟩:=h1
     have ih:=Zm8 h2 s
     unfold lkD
     by_cases c:a=s
     ·subst c
      have c1:Zbb (.str a) (.str a)=true:=by unfold Zbb; exact ZaB _
      rw[if_pos (show Zbb ((D.str a,D.int j):D × D).1 (.str a)=true from c1)]
      dsimp only
      refine⟨_,t2,List.find?_cons_of_pos ?_,rfl⟩
      simp[Value.isStrOf]
     ·have c1:¬Zbb (.str a) (.str s)=true:=by unfold Zbb; simpa using c
      rw[if_neg (show ¬Zbb ((D.str a,D.int j):D × D).1 (.str s)=true from c1)]
      have nf:¬Value.isStrOf (stt s) (.str (stt a) t)=true:=by
       intro z
       have z2:stt a=stt s:=by simpa [Value.isStrOf] using z
       exact c (Zfj z2)
      have fe:(List.find? (fun e:DictEntry=>Value.isStrOf (stt s) e.key) (⟨eh,.str (stt a) t,.int j t2⟩::r))=List.find? (fun e:DictEntry=>Value.isStrOf (stt s) e.key) r:=List.find?_cons_of_neg nf
      rw[fe]
      exact ih
    ·cases h1
   |_=>unfold kdE at h; cases h
  |_=>unfold kdE at h; cases v<;>cases h
theorem kdV_ok {l:List (D × D)} {es:Array DictEntry} (h:kdE l es.toList=true):kdV l es:=by
 intro s
 have z:=Zm8 h s
 have e:findBy Value.isStrOf es (stt s)=(es.toList.find? fun e=>Value.isStrOf (stt s) e.key).map (·.val):=by
  unfold findBy
  rw[← Array.find?_toList]
 rw[e]
 cases q:lkD (.str s) l with
 |none=>
  rw[q] at z
  dsimp only at z⊢
  rw[z]
  rfl
 |some d=>
  rw[q] at z
  cases d with
  |int i=>
   obtain⟨en,t,h1,h2⟩:=z
   refine⟨t,?_⟩
   rw[h1]
   exact congrArg some h2
  |_=>exact z.elim
theorem Zcb {v:Option (Option Value)} {a:Addr} (h:Zon v a=true):v=some (some (.ref a)):=He.eqO_ok h
section
variable {p:Pg} {K:PySem.W.Frag} {C:Addr}
theorem Zhq:∀{fs:List Str} {l:List At} {i:Nat} {a:At},atsB p K C fs l=true→l[i]? =some a→∃f,fs[i]? =some f∧atB p K C f a=true
 |_,[],_,_,_,h=>by cases h
 |[],_::_,_,_,h,_=>by unfold atsB at h; cases h
 |f::fs,a::r,i,b,h,e=>by
  unfold atsB at h
  rw[Zaa] at h
  cases i with
  |zero=>cases e; exact⟨f,rfl,h.1⟩
  |succ i=>
   obtain⟨f',h1,h2⟩:=Zhq h.2 (i:=i) (a:=b) (by simpa using e)
   exact⟨f',by simpa using h1,h2⟩
theorem Zg8:∀{fs:List Str} {l:List (Option Nat)} {i:Nat} {f:Nat},ZlR p K C fs l=true→l[i]? =some (some f)→∃m,fs[i]? =some m∧mtB p K C m f=true
 |_,[],_,_,_,h=>by cases h
 |[],_::_,_,_,h,_=>by unfold ZlR at h; cases h
 |m::ms,a::r,i,b,h,e=>by
  have h2:ZlR p K C ms r=true∧(∀f,a=some f→mtB p K C m f=true):=by
   cases a with
   |none=>unfold ZlR at h; exact⟨h,fun _ z=>nomatch z⟩
   |some f=>
    unfold ZlR at h
    rw[Zaa] at h
    exact⟨h.2,fun f' z=>by cases z; exact h.1⟩
  cases i with
  |zero=>cases e; exact⟨m,rfl,h2.2 _ rfl⟩
  |succ i=>
   obtain⟨f',h1,h3⟩:=Zg8 h2.1 (i:=i) (f:=b) (by simpa using e)
   exact⟨f',by simpa using h1,h3⟩
theorem Zjl:∀{fs:List Str} {l:List (Option Nat)} {i:Nat} {f:Nat},Zls p K C fs l=true→l[i]? =some (some f)→∃m,fs[i]? =some m∧stB p K C m f=true
 |_,[],_,_,_,h=>by cases h
 |[],_::_,_,_,h,_=>by unfold Zls at h; cases h
 |m::ms,a::r,i,b,h,e=>by
  have h2:Zls p K C ms r=true∧(∀f,a=some f→stB p K C m f=true):=by
   cases a with
   |none=>unfold Zls at h; exact⟨h,fun _ z=>nomatch z⟩
   |some f=>
    unfold Zls at h
    rw[Zaa] at h
    exact⟨h.2,fun f' z=>by cases z; exact h.1⟩
  cases i with
  |zero=>cases e; exact⟨m,rfl,h2.2 _ rfl⟩
  |succ i=>
   obtain⟨f',h1,h3⟩:=Zjl h2.1 (i:=i) (f:=b) (by simpa using e)
   exact⟨f',by simpa using h1,h3⟩
theorem Zh6 {e0:Bool}:∀{cs:List CE} {l:List Bool} {i:Nat} {c:CE},isB p K C e0 cs l=true→cs[i]? =some c→∃b,l[i]? =some b∧PySem.W.kitOne K (.ref C) (.ref (He.ga K c.name))=some b∧(e0=true→PySem.W.notFirst K C (.ref (He.ga K c.name))=true)
 |[],_,_,_,_,h=>by cases h
 |_::_,[],_,_,h,_=>by unfold isB at h; cases h
 |c::cs,b::r,i,c',h,e=>by
  unfold isB at h
  simp only[Zaa,Zab] at h
  cases i with
  |zero=>
   cases e
   refine⟨b,rfl,h.1.1,fun z=>?_⟩
   have h12:=h.1.2
   rw[z] at h12
   exact h12
  |succ i=>
   obtain⟨b',h1,h2⟩:=Zh6 h.2 (i:=i) (c:=c') (by simpa using e)
   exact⟨b',by simpa using h1,h2⟩
structure CeX (p:Pg) (K:PySem.W.Frag) (C:Addr) (c:CE):Prop where
 ats:atsB p K C p.an c.ats=true
 pst:∀q∈c.pst,pstB p K C q=true
 mts:ZlR p K C p.mn c.mts=true
 sts:Zls p K C p.mn c.sts=true
 dms:∀q∈c.dms,duB p K C q=true
 cns:∀q∈c.cns,cnB p K C q=true
 isa:isB p K C (Zmp c.dms) p.cs' c.isa=true
 cr:ClX.CRead K C (.type "type")
 ha:PySem.W.findIn K (.ref C) "__class__"=some (some (.builtin "object.__class__"))
 hn:PySem.W.specialIn K (.builtin "object.__class__") "__get__"=some (some (.builtin "getset_descriptor.__get__"))
 tk:PySem.W.takesIn K (.builtin "object.__class__")=some true
 hm:PySem.W.mroIn K C (.type "object")=some true
 ty:∀t∈tys6,PySem.W.kitOne K (.type t) (.ref C)=some false∧PySem.W.notFirst K C (.type t)=true
theorem ceB_ok {c:CE} (h:ceB p K c=true):CeX p K (He.ga K c.name) c:=by
 unfold ceB at h
 simp only[Zaa,Zab,Zaj] at h
 obtain⟨⟨⟨⟨⟨⟨⟨⟨⟨⟨⟨⟨⟨h0,h1⟩,h2⟩,h3⟩,h4⟩,h5⟩,h6⟩,h7⟩,h8⟩,h9⟩,h10⟩,h11⟩,h12⟩,h13⟩:=h
 exact⟨h1,h0,h2,h3,h4,h5,h6,⟨h7,He.eqO_ok h8⟩,He.eqO_ok h9,He.eqO_ok h10,h11,h12,h13⟩
end
section
variable {P:Program} {w:World} {K:PySem.W.Frag} {h:Heap} {mg:Str→Option Value} {p:Pg} {base:Heap}
theorem Zhx:∀{l:List CE} {k i:Nat},i∈ZgP k l→∃j c,i=k+j∧l[j]? =some c∧c.va=true
 |[],_,_,h=>by cases h
 |c::r,k,i,h=>by
  unfold ZgP at h
  have rec_:i∈ZgP (k+1) r→∃j d,i=k+j∧(c::r)[j]? =some d∧d.va=true:=fun h=>by
   obtain⟨j,d,h1,h2,h3⟩:=Zhx h
   exact⟨j+1,d,by omega,by simpa using h2,h3⟩
  split at h
  ·rename_i hv
   rcases Zak.mp h with h |h
   ·exact⟨0,c,h,rfl,hv⟩
   ·exact rec_ h
  ·exact rec_ h
theorem Zip:∀{l:List CE} {k i f:Nat},(i,f)∈ZkM k l→∃j c d,i=k+j∧l[j]? =some c∧(f,d)∈c.cns
 |[],_,_,_,h=>by cases h
 |c::r,k,i,f,h=>by
  unfold ZkM at h
  rcases ZaH.mp h with h |h
  ·obtain⟨⟨f',d⟩,h1,h2⟩:=Zah.mp h
   cases h2
   exact⟨0,c,d,rfl,rfl,h1⟩
  ·obtain⟨j,c',d,h1,h2,h3⟩:=Zip h
   exact⟨j+1,c',d,by omega,by simpa using h2,h3⟩
theorem Zct {α β:Type} [BEq α] [LawfulBEq α]:∀{l:List (α × β)} {a:α} {b:β},l.lookup a=some b→(a,b)∈l
 |[],_,_,h=>by cases h
 |(x,y)::r,a,b,h=>by
  rw[ZaZ] at h
  cases e:a == x with
  |true=>
   rw[e] at h
   cases h
   rw[ZfS e]
   exact Zag
  |false=>
   rw[e] at h
   exact Zaf _ (Zct h)
theorem cAt {l:List CE} {x:Str} {f:Nat} (e:(ZoG 0 (l.map (·.name))).lookup x=some f):∃d,l[f]? =some d∧d.name=x:=by
 obtain⟨j,rfl,h⟩:=Zfw e
 rw[Zbt]
 rw[ZaK] at h
 exact Zan.mp h
def ZmC (p:Pg) (P:Program) (w:World) (K:PySem.W.Frag) (mg:Str→Option Value) (base:Heap) (k:Nat):Prop:=
 ∀f d,p.ds[f]? =some d→(∀ds h,(cN p.G k).pr f ds h=.stuck)∨∃n,k=n+1∧FnG false P w K mg base n true ((Za5 p K).fa f) ((Za5 p K).fd f) ((Za5 p K).fps f) (spP (Za5 p K) (cN p.G k) f)
def ZmD (p:Pg) (P:Program) (w:World) (K:PySem.W.Frag) (mg:Str→Option Value) (base:Heap) (k:Nat):Prop:=
 ∀kk c,p.cs'[kk]? =some c→(∀vs h,(cN p.G k).make kk vs h=.stuck)∨∃j fd,k=j+1∧ZeK K c.dd.name c.dd.qual c.dd.params c.dd.body c.dd.scope (c.dd.dvs K) (c.dd.kws K) fd∧FnG false P w K mg base j true (He.ma K (He.ga K c.name) "__init__") fd c.ps (spI (Za5 p K) (cN p.G k) kk)
def ZmF (p:Pg) (P:Program) (w:World) (K:PySem.W.Frag) (mg:Str→Option Value) (base:Heap) (k:Nat):Prop:=
 ∀kk c,p.cs'[kk]? =some c→(∀vs h,(cN p.G k).mkc kk vs h=.stuck)∨∃j fd,k=j+1∧ZeK K c.dd.name c.dd.qual c.dd.params c.dd.body c.dd.scope (c.dd.dvs K) (c.dd.kws K) fd∧FnG true P w K mg base j true (He.ma K (He.ga K c.name) "__init__") fd c.ps (spI (Za5 p K) (clnC (cN p.G k)) kk)
def PromS (p:Pg) (P:Program) (w:World) (K:PySem.W.Frag) (mg:Str→Option Value) (base:Heap) (k:Nat):Prop:=
 ∀kk c b cb,p.cs'[kk]? =some c→c.sb=some b→p.cs'[b]? =some cb→(∀vs h,(cN p.G k).make b vs h=.stuck)∨∃j fd,k=j+1∧ZeK K cb.dd.name cb.dd.qual cb.dd.params cb.dd.body cb.dd.scope (cb.dd.dvs K) (cb.dd.kws K) fd∧FnG false P w K mg base j true (cb.ini K) fd cb.ps (Zog (Za5 p K) (cN p.G k) b kk)
def ZmE (p:Pg) (P:Program) (w:World) (K:PySem.W.Frag) (mg:Str→Option Value) (base:Heap) (k:Nat):Prop:=
 ∀kk c,p.cs'[kk]? =some c→c.sb=none→(∀vs h,(cN p.G k).make kk vs h=.stuck)∨∃j fd,k=j+1∧ZeK K c.dd.name c.dd.qual c.dd.params c.dd.body c.dd.scope (c.dd.dvs K) (c.dd.kws K) fd∧FnG false P w K mg base j true (He.ma K (He.ga K c.name) "__init__") fd c.ps (Zog (Za5 p K) (cN p.G k) kk kk)
def ZpR (p:Pg) (P:Program) (w:World) (K:PySem.W.Frag) (mg:Str→Option Value) (base:Heap) (k:Nat):Prop:=
 ∀kk c,p.cs'[kk]? =some c→c.sb=none→(∀vs h,(cN p.G k).hm kk vs h=.stuck)∨∃j fd,k=j+1∧ZeK K c.dd.name c.dd.qual c.dd.params c.dd.body c.dd.scope (c.dd.dvs K) (c.dd.kws K) fd∧FnG false P w K mg base j true (He.ma K (He.ga K c.name) "__init__") fd c.ps (spN (Za5 p K) (cN p.G k) kk)
theorem Zh1:∀{l:List CE} {k i:Nat},i∈ZiP k l→∃j c,i=k+j∧l[j]? =some c∧c.sb=none
 |[],_,_,h=>by cases h
 |c::r,k,i,h=>by
  have rec_:i∈ZiP (k+1) r→∃j c',i=k+j∧(c::r)[j]? =some c'∧c'.sb=none:=fun h=>by
   obtain⟨j,c',h1,h2,h3⟩:=Zh1 h
   exact⟨j+1,c',by omega,by simpa using h2,h3⟩
  unfold ZiP at h
  split at h
  ·rename_i hs
   rw[Zaa] at hs
   rcases Zak.mp h with h |h
   ·exact⟨0,c,by omega,rfl,Za3.mp hs.2⟩
   ·exact rec_ h
  ·exact rec_ h
theorem ZgB {p:Pg} {kk:Nat} {c:CE} (hkk:p.cs'[kk]? =some c) (hct:c.ctt=none):p.G.ctr kk=some c.ct:=by
 show ((p.cs'[kk]?).bind fun c=>if c.ctt.isNone then some c.ct else none)=_
 rw[hkk,ZaE,hct]
 rfl
theorem Znz {p:Pg} {kk:Nat} {c:CE} {z:Nat × Nat × Nat} (hkk:p.cs'[kk]? =some c) (hct:c.ctt=some z):p.G.ctr kk=none:=by
 show ((p.cs'[kk]?).bind fun c=>if c.ctt.isNone then some c.ct else none)=_
 rw[hkk,ZaE,hct]
 rfl
theorem ctt_at {p:Pg} {kk:Nat} {c:CE} {z:Nat × Nat × Nat} (hkk:p.cs'[kk]? =some c) (hct:c.ctt=some z):p.G.ctt kk=some (c.ct,z.2.1,.var z.2.2):=by
 show ((p.cs'[kk]?).bind fun c=>c.ctt.map fun z=>(c.ct,z.2.1,E.var z.2.2))=_
 rw[hkk,ZaE,hct]
 rfl
theorem ctt_no {p:Pg} {kk:Nat} {c:CE} (hkk:p.cs'[kk]? =some c) (hct:c.ctt=none):p.G.ctt kk=none:=by
 show ((p.cs'[kk]?).bind fun c=>c.ctt.map fun z=>(c.ct,z.2.1,E.var z.2.2))=_
 rw[hkk,ZaE,hct]
 rfl
theorem Zpe {p:Pg} {f:Nat} {d:DE} (hd:p.ds[f]? =some d) {c:Bool} {k:Nat} {vs:List D} {h:AH} (hl:vs.length≠d.fn.np):(cN p.G k).f c f vs h=.stuck:=by
 cases k with
 |zero=>rfl
 |succ n=>
  show (match p.G.fn f with
   |some fd=>if vs.length=fd.np then fin (evSs p.G (cN p.G n) c fd.body (vs.map Sl.v++List.replicate (fd.nb - fd.np) Sl.no) h) else .stuck
   |none=>.stuck)=_
  have e:p.G.fn f=some d.fn:=by show p.ds[f]?.map (·.fn)=_; rw[hd]; rfl
  rw[e]
  exact if_neg hl
def ZpQ (p:Pg) (P:Program) (w:World) (K:PySem.W.Frag) (mg:Str→Option Value) (base:Heap) (k:Nat):Prop:=
 ∀c∈p.cs',∀f,c.dms.lookup .exit=some f→(∀m h,(cN p.G k).ex f m h=.stuck)∨∃n,k=n+1∧FnY P w K mg base n ((Za5 p K).fa f) ((Za5 p K).fd f) ((Za5 p K).fps f) (spY (Za5 p K) ((cN p.G k).ex f))
theorem Zic:∀{l:List CE} {k i:Nat},i∈ZiR k l→∃j c,i=k+j∧l[j]? =some c∧c.sb=none
 |[],_,_,h=>by cases h
 |c::r,k,i,h=>by
  have rec_:i∈ZiR (k+1) r→∃j c',i=k+j∧(c::r)[j]? =some c'∧c'.sb=none:=fun h=>by
   obtain⟨j,c',h1,h2,h3⟩:=Zic h
   exact⟨j+1,c',by omega,by simpa using h2,h3⟩
  unfold ZiR at h
  split at h
  ·rename_i hs
   rcases Zak.mp h with h |h
   ·exact⟨0,c,by omega,rfl,Za3.mp hs⟩
   ·exact rec_ h
  ·exact rec_ h
theorem Za2 {α:Type} {l:List α} {i:Nat} {a:α} (h:l[i]? =some a):a∈l:=Zao h
theorem low0:ZmC p P w K mg base 0:=fun _ _ _=>.inl fun _ _=>rfl
theorem lowS {n:Nat} (pr:Zlf p P w K mg base n):ZmC p P w K mg base (n+1):=fun f d hd=>.inr ⟨n,rfl,pr f d hd⟩
theorem ini0:ZmD p P w K mg base 0:=fun _ _ _=>.inl fun _ _=>rfl
theorem inh0:ZmE p P w K mg base 0:=fun _ _ _ _=>.inl fun _ _=>rfl
theorem dAt {f:Nat} (h:f < p.ds.length):∃d,p.ds[f]? =some d:=⟨_,Zad h⟩
structure CeT (p:Pg) (P:Program) (K:PySem.W.Frag) (c:CE):Prop where
 df:dfOk c.dd=true
 sc:c.sb=none→FnScope c.N c.ps c.dd.scope
 np:c.ct.np+1=c.ps.length
 nb:c.ct.nb=c.N.length
 le:c.ps.length≤c.N.length
 ck:c.sb=none→c.ctt=none→chB (p.tb true Zb1) c.N c.ct.items ⟨c.dd.scope.names,false,false,false⟩ c.dd.body=true
 cl:c.sb=none→∀z,c.ctt=some z→Zlu c.ct.items=true∧chB (p.tb true Zb1) c.N c.ct.items ⟨c.dd.scope.names,false,false,false⟩ c.dd.body.dropLast=true∧Zj8 p c z=true
 ss:∀b,c.sb=some b→c.okS p b=true
 st:∀i∈stos c.ct.items,c.ats[i]? =some .fld
 ia:∀q,At.prp q∈c.ats→∃d,p.ds[q]? =some d
 im:∀q,some q∈c.mts→∃d,p.ds[q]? =some d
 is:∀q,some q∈c.sts→∃d,p.ds[q]? =some d
 id:∀q∈c.dms,∃d,p.ds[q.2]? =some d
 ips:∀q∈c.pst,∃d,p.ds[q.2]? =some d
 va:c.va=true→c.ps.length=2
theorem ceT (ok:p.ok P=true) {c:CE} (hc:c∈p.cs'):CeT p P K c:=by
 have q:=(Zb6 ok).2.2.2.2.2.1 c hc
 unfold CE.ok at q
 simp only[Zaa,Zab] at q
 obtain⟨⟨⟨⟨⟨⟨⟨⟨q1,q3⟩,q4⟩,q5⟩,q6⟩,q7⟩,q9⟩,q10⟩,q11⟩:=q
 unfold CE.okT at q4
 unfold CE.ix at q10
 simp only[Zaa,Zaj,Zab] at q10
 obtain⟨⟨⟨⟨i1,i2⟩,i3⟩,i4⟩,i5⟩:=q10
 refine⟨q1,fun e=>by rw[e] at q4; exact Zdy (ZaY.mp q4).1,q5,q6,q7,fun e e2=>by rw[e] at q4; have z:=(ZaY.mp q4).2; rw[e2] at z; exact z,fun e y e2=>by rw[e] at q4; have z:=(ZaY.mp q4).2; rw[e2] at z; simp only[Zaa] at z; exact⟨z.1.1,z.1.2,z.2⟩,fun b e=>by rw[e] at q4; exact q4,fun i hi=>?_,fun q hq=>?_,fun q hq=>?_,fun q hq=>?_,fun q hq=>dAt (i4 q hq),fun q hq=>dAt (i5 q hq),fun hv=>?_⟩
 ·have z:=Zaj.mp q9 i hi
  split at z
  ·rename_i e; exact e
  ·cases z
 ·have z:=i1 _ hq
  exact dAt (ZaC z)
 ·have z:=i2 _ hq
  exact dAt (ZaC z)
 ·have z:=i3 _ hq
  exact dAt (ZaC z)
 ·rw[hv] at q11
  simpa using q11
theorem Zc4 {X:Cx} {k:Nat} {c:Bool} {lamB:Nat→Zd6→Bool} {pn:List (Addr × Obj)} {cells:List (Str × Addr)} {qual:Str} {lamOk:Nat→Zd6→Prop} {me:Option Addr} (S:Zc6 p X.prog X.w X.K h) (ns:h.Ns mainGlobals X.mg) (ok:p.ok X.prog=true) (bd:p.bd)
  (pr:c=true→Zlf p X.prog X.w X.K X.mg X.base k) (lo:c=true→ZmC p X.prog X.w X.K X.mg X.base k) (mk:c=true→ZmD p X.prog X.w X.K X.mg X.base k∧ZmE p X.prog X.w X.K X.mg X.base k∧ZpQ p X.prog X.w X.K X.mg X.base k∧ZpR p X.prog X.w X.K X.mg X.base k):
  Zi3 X ((Za5 p X.K).at pn cells qual lamOk me) p.G (p.tb c lamB) (cN p.G k) k:=by
 have ceX:∀{kk:Nat} {x:CE},p.cs'[kk]? =some x→CeX p X.K (((Za5 p X.K).at pn cells qual lamOk me).cb kk) x:=fun {kk x} hx=>by
  have e:((Za5 p X.K).at pn cells qual lamOk me).cb kk=He.ga X.K x.name:=Zdq hx
  rw[e]
  exact ceB_ok (S.ce x (Za2 hx))
 have clsX:∀{kk:Nat} {x:CE},p.cs'[kk]? =some x→Cls X.K (((Za5 p X.K).at pn cells qual lamOk me).cb kk):=fun {kk x} hx=>by
  have e:((Za5 p X.K).at pn cells qual lamOk me).cb kk=He.ga X.K x.name:=Zdq hx
  rw[e]
  exact He.cls_ok (ZfR S (ZcQ (Za2 hx) (by simp[CE.fa])))
 have mkrX:∀{kk:Nat} {x:CE},p.cs'[kk]? =some x→Mk X.K (((Za5 p X.K).at pn cells qual lamOk me).cb kk) (He.ma X.K (He.ga X.K x.name) "__init__"):=fun {kk x} hx=>by
  have e:((Za5 p X.K).at pn cells qual lamOk me).cb kk=He.ga X.K x.name:=Zdq hx
  rw[e]
  exact He.mkr_ok (ZfR S (ZcQ (Za2 hx) (by simp[CE.fa])))
 have nmX:∀x kk,(p.tb c lamB).clm.lookup x=some kk→∃cc,p.cs'[kk]? =some cc∧cc.name=x:=fun x kk e=>cAt e
 have hmg:∀x kk,(p.tb c lamB).clm.lookup x=some kk→X.mg x=some (.ref (((Za5 p X.K).at pn cells qual lamOk me).cb kk)):=fun x kk e=>by
  obtain⟨cc,h1,rfl⟩:=nmX x kk e
  have e:((Za5 p X.K).at pn cells qual lamOk me).cb kk=He.ga X.K cc.name:=Zdq h1
  rw[e]
  exact He.glo_ok S.inK ns (ZfR S (ZcQ (Za2 h1) (by simp[CE.fa])))
 have prX:c=true→∀f d,p.ds[f]? =some d→FnG false X.prog X.w X.K X.mg X.base k c (((Za5 p X.K).at pn cells qual lamOk me).fa f) (((Za5 p X.K).at pn cells qual lamOk me).fd f) (((Za5 p X.K).at pn cells qual lamOk me).fps f) (spF ((Za5 p X.K).at pn cells qual lamOk me) (cN p.G k) c f):=fun hc f d hd=>by
  rw[Zjr,hc]
  exact pr hc f d hd
 have loX:c=true→∀f d,p.ds[f]? =some d→ZmI X ((Za5 p X.K).at pn cells qual lamOk me) (cN p.G k) k f:=fun hc f d hd=>by
  unfold ZmI
  rw[spP_at]
  exact lo hc f d hd
 have nmk:=Zo6 (K:=X.K) ok
 have oneX:∀{f:Nat} {d:DE} {n:Nat} {ks:List Str} {sel:List Nat},p.ds[f]? =some d→ZgD d.dd d.ps n ks sel→KB ((Za5 p X.K).at pn cells qual lamOk me) f n ks sel∧(((Za5 p X.K).at pn cells qual lamOk me).fps f).length=sel.length:=fun hd hb=>by
  obtain⟨q1,q2⟩:=Zho S ok hd hb
  exact⟨ZoU q1,q2⟩
 have dsOf:∀{f:Nat},PySem.W.keepIn X.K (.ref (Zfa p X.K f))=true→PySem.W.isFn X.K (.ref (Zfa p X.K f))=true→True:=fun _ _=>trivial
 refine⟨hmg,fun hc i hi=>?_,fun m n ks sel e mn e2 hc=>?_,fun x kk e n ks sel e2 hc=>?_,fun x kk e e2 hc=>?_,fun f kf e=>?_,fun kk f e=>?_,fun kk m n ks sel e mn e2 hc f e3=>?_,fun x kk e=>?_,fun n ks sel e hc=>?_,fun hc=>?_,fun x kk e e0 n ks sel e2 hc=>?_,fun i e=>?_,fun hc m kf e mn e2=>?_,fun hc i e=>?_,fun x n e=>?_,fun hc e=>?_,fun x kk e e0 n ks sel e2 hc=>?_⟩
 ·have hc:c=true:=hc
  have hi:i∈Zkt p.cs' p.an.length:=Zax.mp hi
  unfold Zkt at hi
  rw[Zbj] at hi
  have lt:i < p.an.length:=ZaN.mp hi.1
  have ean:((Za5 p X.K).at pn cells qual lamOk me).an i=(p.an[i]?).getD "":=rfl
  have atr:∀kk,p.G.atr kk i=((p.cs'[kk]?).bind fun c=>c.ats[i]?).getD .no:=fun kk=>rfl
  have get:∀kk,p.G.atr kk i≠ .no→∃cc,p.cs'[kk]? =some cc∧cc.ats[i]? =some (p.G.atr kk i)∧atB p X.K (((Za5 p X.K).at pn cells qual lamOk me).cb kk) (((Za5 p X.K).at pn cells qual lamOk me).an i) (p.G.atr kk i)=true:=fun kk hn=>by
   cases hx:p.cs'[kk]? with
   |none=>rw[atr,hx] at hn; exact absurd rfl hn
   |some cc=>
    cases ha:cc.ats[i]? with
    |none=>rw[atr,hx] at hn; simp only[ZaE] at hn; rw[ha] at hn; exact absurd rfl hn
    |some a=>
     have ea:p.G.atr kk i=a:=by rw[atr,hx]; simp only[ZaE]; rw[ha]; rfl
     obtain⟨f,h1,h2⟩:=Zhq (ceX hx).ats ha
     rw[ea]
     refine⟨cc,rfl,ha,?_⟩
     rw[ean,h1]
     exact h2
  refine⟨lt,fun kk hk=>?_,fun kk hk=>?_,fun kk d hk=>?_,fun kk q hk=>?_⟩
  ·obtain⟨cc,h1,_⟩:=get kk (fun z=>by rw[z] at hk; exact hk)
   exact clsX h1
  ·obtain⟨cc,h1,_,h2⟩:=get kk (fun z=>by rw[z] at hk; cases hk)
   rw[hk] at h2
   exact He.eqO_ok h2
  ·obtain⟨cc,h1,_,h2⟩:=get kk (fun z=>by rw[z] at hk; cases hk)
   rw[hk] at h2
   unfold atB at h2
   dsimp only at h2
   split at h2
   ·rename_i u hu
    simp only[Zaa,Zbz] at h2
    obtain⟨v,hv,hr⟩:=ZfX h2.1.1
    exact⟨v,u,⟨hu,hv,He.eqO_ok h2.1.2,h2.2⟩,fun w n=>hr rfl⟩
   ·cases h2
  ·obtain⟨cc,h1,h3,h2⟩:=get kk (fun z=>by rw[z] at hk; cases hk)
   rw[hk] at h2 h3
   unfold atB at h2
   dsimp only at h2
   split at h2
   ·rename_i pa hpa
    simp only[Zaa,Zab] at h2
    obtain⟨⟨g1,g2⟩,g3⟩:=h2
    split at g3
    ·rename_i gg rest hrec
     have g3:=ZaC g3
     subst g3
     obtain⟨d,hd⟩:=(ceT (K:=X.K) ok (Za2 h1)).ia q (Za2 h3)
     obtain⟨k1,k2⟩:=oneX hd (bd.cl.one cc (Za2 h1) q d (.inr (.inr (.inr (.inl (Za2 h3))))) hd)
     exact⟨⟨pa,⟨hpa,He.eqO_ok g1,g2,rest,hrec⟩⟩,k1,k2,loX hc q d hd⟩
    ·cases g3
   ·cases h2
 ·have hc:c=true:=hc
  have hmn:p.mn[m]? =some mn:=e2
  have mem:=Zax.mp e
  refine⟨fun i hi z=>?_,fun kk f hk=>?_⟩
  ·have hi:i < p.an.length:=hi
   have q:=(Zb6 ok).2.2.2.2.2.2.1 mn (Za2 hmn)
   have ha:=Zad hi
   have e0:((Za5 p X.K).at pn cells qual lamOk me).an i=p.an[i]:=ZeR (K:=X.K) ha
   rw[e0] at z
   rw[← z,Zax.mpr (Za2 ha)] at q
   cases q
  ·have hk:((p.cs'[kk]?).bind fun c=>(c.mts[m]?).getD none)=some f:=hk
   obtain⟨cc,h1,h2⟩:=Za9.mp hk
   have h3:cc.mts[m]? =some (some f):=by
    cases z:cc.mts[m]? with
    |none=>rw[z] at h2; cases h2
    |some o=>rw[z] at h2; exact congrArg some h2
   obtain⟨d,hd⟩:=(ceT (K:=X.K) ok (Za2 h1)).im f (Za2 h3)
   obtain⟨mn',h4,h5⟩:=Zg8 (ceX h1).mts h3
   rw[hmn] at h4
   cases h4
   unfold mtB at h5
   simp only[Zaa] at h5
   refine⟨clsX h1,⟨Zcb h5.1.1,h5.1.2,h5.2⟩,?_⟩
   by_cases hnp:d.fn.np=sel.length
   ·obtain⟨k1,k2⟩:=oneX hd (bd.cl.mt _ mem f d ⟨cc,Za2 h1,h3⟩ hd hnp)
    exact .inr ⟨hc ▸ prX hc f d hd,k1,k2,by rw[ZgA]; exact Zms f⟩
   ·exact .inl fun vs h e=>Zpe hd (by rw[e]; exact fun z=>hnp z.symm)
 ·have hc:c=true:=hc
  obtain⟨cc,h1,rfl⟩:=nmX x kk e
  have mem:=Zax.mp e2
  have mkr:=mkrX h1
  have ecv:((Za5 p X.K).at pn cells qual lamOk me).cdv kk=dfV X.K cc.dd:=by show ((p.cs'[kk]?).map fun c=>dfV X.K c.dd).getD []=_; rw[h1]; rfl
  have ecd:p.G.cdf kk=dfD cc.dd:=by show ((p.cs'[kk]?).map fun c=>dfD c.dd).getD []=_; rw[h1]; rfl
  refine⟨hmg _ kk e,mkr.kp,fun w n=>by rw[Zcc,ecd,ecv]; exact ZkG (ceT (K:=X.K) ok (Za2 h1)).df,?_⟩
  rcases (mk hc).1 kk cc h1 with st |⟨j,fd,rfl,F,G⟩
  ·exact .inl st
  ·obtain⟨b1,b2⟩:=bd.cl.mkk _ mem cc h1
   rw[← Zjp (pn:=pn) (cells:=cells) (qual:=qual) (lamOk:=lamOk) (me:=me)] at G
   obtain⟨ds,v,q⟩:=b2 _ _ F
   exact .inr ⟨j,_,fd,cc.ps,rfl,mkr,G,b1,ds,by rw[ecv]; exact v,fun s a us ws vs X0 l1 l2 hp=>q s [a] us ws vs X0 rfl l1 l2 hp⟩
 ·have hc:c=true:=hc
  obtain⟨cc,h1,rfl⟩:=nmX x kk e
  have mem:kk∈ZgP 0 p.cs':=Zax.mp e2
  obtain⟨j0,c0,ej,h2,hv⟩:=Zhx mem
  obtain rfl:kk=j0:=by omega
  rw[h1] at h2
  cases h2
  have mkr:=mkrX h1
  refine⟨hmg _ kk e,mkr.kp,?_⟩
  rcases (mk hc).1 kk cc h1 with st |⟨j,fd,rfl,F,G⟩
  ·exact .inl st
  ·obtain⟨b1,b2⟩:=bd.cl.mv cc (Za2 h1) hv
   rw[← Zjp (pn:=pn) (cells:=cells) (qual:=qual) (lamOk:=lamOk) (me:=me)] at G
   exact .inr ⟨j,_,fd,cc.ps,rfl,mkr,G,b1,b2 _ _ F⟩
 ·obtain⟨d,h1,h2⟩:=bd.cl.va _ (Zax.mp e)
  exact ZkS S ok h1 h2
 ·have mem:(kk,f)∈ZkM 0 p.cs':=Zax.mp e
  obtain⟨j,cc,d,ej,h1,h2⟩:=Zip mem
  obtain rfl:kk=j:=by omega
  have hq:=(ceX h1).cns _ h2
  refine⟨.type "type",(ceX h1).cr,?_⟩
  cases hl:cc.cns.lookup f with
  |none=>
   exfalso
   have:∀l:List (Nat × D),(f,d)∈l→l.lookup f≠none:=by
    intro l
    induction l with
    |nil=>intro z; cases z
    |cons q r ih=>
     intro z e
     obtain⟨a,b⟩:=q
     rw[ZaZ] at e
     cases e1:f == a with
     |true=>rw[e1] at e; cases e
     |false=>
      rw[e1] at e
      rcases Zak.mp z with z |z
      ·cases z; rw[ZaB] at e1; cases e1
      ·exact ih z e
   exact this _ h2 hl
  |some d'=>
   have hq:=(ceX h1).cns _ (Zct hl)
   have ec:p.G.clc kk f=d':=by
    show ((p.cs'[kk]?).bind fun c=>c.cns.lookup f).getD .non=_
    rw[h1]
    simp only[ZaE]
    rw[hl]
    rfl
   rw[ec]
   unfold cnB at hq
   dsimp only at hq
   split at hq
   ·rename_i y hy
    split at hq
    ·rename_i u hu
     obtain⟨v,hv,hr⟩:=ZfX hq
     refine⟨v,u,⟨?_,hv⟩,fun w n=>hr rfl⟩
     have e0:((Za5 p X.K).at pn cells qual lamOk me).an f=y:=ZeR (K:=X.K) hy
     rw[e0]
     exact hu
    ·cases hq
   ·cases hq
 ·have hc:c=true:=hc
  have hmn:p.mn[m]? =some mn:=e2
  have mem:=Zax.mp e
  have hk:((p.cs'[kk]?).bind fun c=>(c.sts[m]?).getD none)=some f:=e3
  obtain⟨cc,h1,h2⟩:=Za9.mp hk
  have h3:cc.sts[m]? =some (some f):=by
   cases z:cc.sts[m]? with
   |none=>rw[z] at h2; cases h2
   |some o=>rw[z] at h2; exact congrArg some h2
  obtain⟨d,hd⟩:=(ceT (K:=X.K) ok (Za2 h1)).is f (Za2 h3)
  obtain⟨mn',h4,h5⟩:=Zjl (ceX h1).sts h3
  rw[hmn] at h4
  cases h4
  unfold stB at h5
  simp only[Zaa,Zab] at h5
  obtain⟨k1,k2⟩:=oneX hd (bd.cl.st _ mem cc f d h1 h3 hd)
  obtain⟨w1,rest,w2⟩:=He5.wrapB_ok h5.1.1
  rw[h5.1.2] at w2
  exact⟨(ceX h1).cr,⟨_,w1,rest,w2⟩,hc ▸ prX hc f d hd,h5.2,k1,k2,by rw[ZgA]; exact Zms f⟩
 ·obtain⟨cc,h1,rfl⟩:=nmX x kk e
  refine⟨fun j hj=>?_,fun t ht=>((ceX h1).ty t ht).1⟩
  have hj:j < p.cs'.length:=hj
  have hx:=Zad hj
  obtain⟨b,h2,h3,_⟩:=Zh6 (ceX hx).isa h1
  refine⟨⟨clsX hx,(ceX hx).ha,(ceX hx).hn,(ceX hx).tk,(ceX hx).hm⟩,?_⟩
  have e1:p.G.isa j kk=b:=by
   show ((p.cs'[j]?).bind fun j=>j.isa[kk]?).getD false=_
   rw[hx]
   simp only[ZaE]
   rw[h2]
   rfl
  have e2:((Za5 p X.K).at pn cells qual lamOk me).cb kk=He.ga X.K cc.name:=Zdq h1
  rw[e1,e2]
  exact h3
 ·have hc:c=true:=hc
  refine⟨fun kk f hk=>?_⟩
  have hk:((p.cs'[kk]?).bind fun c=>c.dms.lookup .call)=some f:=hk
  obtain⟨cc,h1,h2⟩:=Za9.mp hk
  obtain⟨d,hd⟩:=(ceT (K:=X.K) ok (Za2 h1)).id _ (Zct h2)
  have hq:=(ceX h1).dms _ (Zct h2)
  unfold duB at hq
  simp only[Zaa] at hq
  obtain⟨k1,k2⟩:=oneX hd (bd.cl.ca _ (Zax.mp e) cc (Za2 h1) f d h2 hd)
  exact⟨⟨Zcb hq.1.1.1,hq.1.1.2,hq.1.2⟩,hc ▸ prX hc f d hd,k1,k2,by rw[ZgA]; exact Zms f⟩
 ·have hc:c=true:=hc
  have get:∀(dd:Du) kk f,p.G.dmt kk dd=some f→∃cc d,p.cs'[kk]? =some cc∧cc.dms.lookup dd=some f∧p.ds[f]? =some d∧duB p X.K (((Za5 p X.K).at pn cells qual lamOk me).cb kk) (dd,f)=true:=fun dd kk f hk=>by
   have hk:((p.cs'[kk]?).bind fun c=>c.dms.lookup dd)=some f:=hk
   obtain⟨cc,h1,h2⟩:=Za9.mp hk
   obtain⟨d,hd⟩:=(ceT (K:=X.K) ok (Za2 h1)).id _ (Zct h2)
   exact⟨cc,d,h1,h2,hd,(ceX h1).dms _ (Zct h2)⟩
  refine⟨⟨fun kk f hk=>?_⟩,⟨fun kk f hk=>?_⟩,⟨fun kk f hk=>?_⟩,⟨fun kk f hk=>?_⟩,⟨fun kk f hk=>?_⟩,⟨fun kk f hk=>?_⟩⟩
  ·obtain⟨cc,d,h1,h2,hd,hq⟩:=get _ kk f hk
   unfold duB at hq
   simp only[Zaa] at hq
   obtain⟨k1,k2⟩:=oneX hd (bd.cl.one cc (Za2 h1) f d (.inl h2) hd)
   exact⟨Zcb hq.1.1.1,hq.1.1.2,loX hc f d hd,k1,k2⟩
  ·obtain⟨cc,d,h1,h2,hd,hq⟩:=get _ kk f hk
   unfold duB at hq
   simp only[Zaa] at hq
   obtain⟨k1,k2⟩:=oneX hd (bd.cl.one cc (Za2 h1) f d (.inr (.inl h2)) hd)
   exact⟨Zcb hq.1.1.1,hq.1.1.2,loX hc f d hd,k1,k2⟩
  ·obtain⟨cc,d,h1,h2,hd,hq⟩:=get _ kk f hk
   unfold duB at hq
   simp only[Zaa] at hq
   obtain⟨k1,k2⟩:=oneX hd (bd.cl.two cc (Za2 h1) f d (.inl h2) hd)
   refine⟨Zcb hq.1.1.1,hq.1.1.2,loX hc f d hd,k1,k2,(fun z=>absurd z (by decide)),fun t ht=>((ceX h1).ty t ht).2,fun j hj=>?_⟩
   have hj:j < p.cs'.length:=hj
   have hx:=Zad hj
   obtain⟨b,_,_,h3⟩:=Zh6 (ceX h1).isa hx
   have e2:((Za5 p X.K).at pn cells qual lamOk me).cb j=He.ga X.K (p.cs'[j]).name:=Zdq hx
   rw[e2]
   exact h3 (by unfold Zmp; rw[show cc.dms.lookup .eq=some f from h2]; rfl)
  ·obtain⟨cc,d,h1,h2,hd,hq⟩:=get _ kk f hk
   unfold duB at hq
   simp only[Zaa] at hq
   obtain⟨k1,k2⟩:=oneX hd (bd.cl.two cc (Za2 h1) f d (.inr (.inl h2)) hd)
   refine⟨Zcb hq.1.1.1,hq.1.1.2,loX hc f d hd,k1,k2,fun _=>⟨(ceX h1).hm,He.eqO_ok hq.2⟩,fun t ht=>((ceX h1).ty t ht).2,fun j hj=>?_⟩
   have hj:j < p.cs'.length:=hj
   have hx:=Zad hj
   obtain⟨b,_,_,h3⟩:=Zh6 (ceX h1).isa hx
   have e2:((Za5 p X.K).at pn cells qual lamOk me).cb j=He.ga X.K (p.cs'[j]).name:=Zdq hx
   rw[e2]
   exact h3 (by unfold Zmp; rw[show cc.dms.lookup .ne=some f from h2,Bool.or_comm]; rfl)
  ·obtain⟨cc,d,h1,h2,hd,hq⟩:=get _ kk f hk
   unfold duB at hq
   simp only[Zaa] at hq
   obtain⟨k1,k2⟩:=oneX hd (bd.cl.one cc (Za2 h1) f d (.inr (.inr (.inl h2))) hd)
   exact⟨Zcb hq.1.1.1,hq.1.1.2,loX hc f d hd,k1,k2⟩
  ·obtain⟨cc,d,h1,h2,hd,hq⟩:=get _ kk f hk
   unfold duB at hq
   simp only[Zaa] at hq
   obtain⟨k1,k2⟩:=oneX hd (bd.cl.two cc (Za2 h1) f d (.inr (.inr h2)) hd)
   exact⟨Zcb hq.1.1.1,hq.1.1.2,loX hc f d hd,k1,k2⟩
 ·have hc:c=true:=hc
  obtain⟨cc,h1,rfl⟩:=nmX x kk e
  have mem:=Zax.mp e2
  have mkr:=mkrX h1
  have ecv:((Za5 p X.K).at pn cells qual lamOk me).cdv kk=dfV X.K cc.dd:=by show ((p.cs'[kk]?).map fun c=>dfV X.K c.dd).getD []=_; rw[h1]; rfl
  have ecd:p.G.cdf kk=dfD cc.dd:=by show ((p.cs'[kk]?).map fun c=>dfD c.dd).getD []=_; rw[h1]; rfl
  have kc:kk < p.cs'.length:=(Zay.mp h1).1
  obtain⟨j0,c0,ej,hj0,hs0⟩:=Zic (Zax.mp e0)
  obtain rfl:kk=j0:=by omega
  rw[h1] at hj0
  cases hj0
  refine⟨hmg _ kk e,mkr.kp,kc,fun w n=>by rw[Zcc,ecd,ecv]; exact ZkG (ceT (K:=X.K) ok (Za2 h1)).df,?_⟩
  rcases (mk hc).2.1 kk cc h1 hs0 with st |⟨j,fd,rfl,F,G⟩
  ·exact .inl st
  ·obtain⟨b1,b2⟩:=bd.cl.mkk _ mem cc h1
   rw[← Zjq (pn:=pn) (cells:=cells) (qual:=qual) (lamOk:=lamOk) (me:=me)] at G
   obtain⟨ds,v,q⟩:=b2 _ _ F
   exact .inr ⟨j,_,fd,cc.ps,rfl,mkr,G,b1,ds,by rw[ecv]; exact v,fun s a us ws vs X0 l1 l2 hp=>q s [a] us ws vs X0 rfl l1 l2 hp⟩
 ·obtain⟨hi1,hi2⟩:=Zbj.mp (show i∈nprOf p.cs' p.an.length from Zax.mp e)
  have atr:∀kk,p.G.atr kk i=((p.cs'[kk]?).bind fun c=>c.ats[i]?).getD .no:=fun kk=>rfl
  have np:∀kk q,p.G.atr kk i≠ .prp q:=fun kk q z=>by
   cases hx:p.cs'[kk]? with
   |none=>rw[atr,hx] at z; cases z
   |some cc=>
    have w:=Zaj.mp hi2 cc (Za2 hx)
    cases ha:cc.ats[i]? with
    |none=>rw[atr,hx] at z; simp only[ZaE] at z; rw[ha] at z; cases z
    |some a=>
     rw[atr,hx] at z
     simp only[ZaE] at z
     rw[ha] at z
     have z:a=.prp q:=z
     rw[ha,z] at w
     cases w
  unfold Zkt at hi1
  rw[Zbj] at hi1
  have lt:i < p.an.length:=ZaN.mp hi1.1
  have ean:((Za5 p X.K).at pn cells qual lamOk me).an i=(p.an[i]?).getD "":=rfl
  have get:∀kk,p.G.atr kk i≠ .no→∃cc,p.cs'[kk]? =some cc∧cc.ats[i]? =some (p.G.atr kk i)∧atB p X.K (((Za5 p X.K).at pn cells qual lamOk me).cb kk) (((Za5 p X.K).at pn cells qual lamOk me).an i) (p.G.atr kk i)=true:=fun kk hn=>by
   cases hx:p.cs'[kk]? with
   |none=>rw[atr,hx] at hn; exact absurd rfl hn
   |some cc=>
    cases ha:cc.ats[i]? with
    |none=>rw[atr,hx] at hn; simp only[ZaE] at hn; rw[ha] at hn; exact absurd rfl hn
    |some a=>
     have ea:p.G.atr kk i=a:=by rw[atr,hx]; simp only[ZaE]; rw[ha]; rfl
     obtain⟨f,h1,h2⟩:=Zhq (ceX hx).ats ha
     rw[ea]
     refine⟨cc,rfl,ha,?_⟩
     rw[ean,h1]
     exact h2
  refine⟨⟨lt,fun kk hk=>?_,fun kk hk=>?_,fun kk d hk=>?_,fun kk q hk=>absurd hk (np kk q)⟩,np⟩
  ·obtain⟨cc,h1,_⟩:=get kk (fun z=>by rw[z] at hk; exact hk)
   exact clsX h1
  ·obtain⟨cc,h1,_,h2⟩:=get kk (fun z=>by rw[z] at hk; cases hk)
   rw[hk] at h2
   exact He.eqO_ok h2
  ·obtain⟨cc,h1,_,h2⟩:=get kk (fun z=>by rw[z] at hk; cases hk)
   rw[hk] at h2
   unfold atB at h2
   dsimp only at h2
   split at h2
   ·rename_i u hu
    simp only[Zaa,Zbz] at h2
    obtain⟨v,hv,hr⟩:=ZfX h2.1.1
    exact⟨v,u,⟨hu,hv,He.eqO_ok h2.1.2,h2.2⟩,fun w n=>hr rfl⟩
   ·cases h2
 ·have hc:c=true:=hc
  have hmn:p.mn[m]? =some mn:=e2
  have mem:=Zax.mp e
  refine⟨fun i hi z=>?_,fun kk f hk=>?_⟩
  ·have hi:i < p.an.length:=hi
   have q:=(Zb6 ok).2.2.2.2.2.2.1 mn (Za2 hmn)
   have ha:=Zad hi
   have e0:((Za5 p X.K).at pn cells qual lamOk me).an i=p.an[i]:=ZeR (K:=X.K) ha
   rw[e0] at z
   rw[← z,Zax.mpr (Za2 ha)] at q
   cases q
  ·have hk:((p.cs'[kk]?).bind fun c=>(c.mts[m]?).getD none)=some f:=hk
   obtain⟨cc,h1,h2⟩:=Za9.mp hk
   have h3:cc.mts[m]? =some (some f):=by
    cases z:cc.mts[m]? with
    |none=>rw[z] at h2; cases h2
    |some o=>rw[z] at h2; exact congrArg some h2
   obtain⟨d,hd⟩:=(ceT (K:=X.K) ok (Za2 h1)).im f (Za2 h3)
   obtain⟨mn',h4,h5⟩:=Zg8 (ceX h1).mts h3
   rw[hmn] at h4
   cases h4
   unfold mtB at h5
   simp only[Zaa] at h5
   obtain⟨k1,k2⟩:=ZkS S ok hd (bd.cl.ms _ mem f d ⟨cc,Za2 h1,h3⟩ hd)
   exact⟨clsX h1,⟨Zcb h5.1.1,h5.1.2,h5.2⟩,hc ▸ prX hc f d hd,k1,k2⟩
 ·have hc:c=true:=hc
  refine⟨fun kk q hk=>?_⟩
  have hk:((p.cs'[kk]?).bind fun c=>c.pst.lookup i)=some q:=hk
  obtain⟨cc,h1,h2⟩:=Za9.mp hk
  have mq:=Zct h2
  obtain⟨d,hd⟩:=(ceT (K:=X.K) ok (Za2 h1)).ips _ mq
  have hq:=(ceX h1).pst _ mq
  unfold pstB at hq
  dsimp only at hq
  split at hq
  ·rename_i f hf
   split at hq
   ·rename_i pa hpa
    rw[Zaa,Zab] at hq
    obtain⟨g1,g2⟩:=hq
    split at g2
    ·rename_i v gg rest hrec
     have g2:=ZaC g2
     subst g2
     obtain⟨k1,k2⟩:=oneX hd (bd.cl.pst cc (Za2 h1) i q d h2 hd)
     have e0:((Za5 p X.K).at pn cells qual lamOk me).an i=f:=ZeR (K:=X.K) hf
     rw[e0]
     exact⟨clsX h1,⟨pa,v,rest,hpa,g1,hrec⟩,loX hc q d hd,k1,k2⟩
    ·cases g2
   ·cases hq
  ·cases hq
 ·obtain⟨j,m,rfl,hj⟩:=Zhb e
  rw[Zbt]
  have hm:=Zao hj
  refine⟨m,?_,?_⟩
  ·show ((p.gs[j]?).map (·.2)).getD .non=_
   rw[hj]
   rfl
  have fok:=ZfR S (f:=faG (x,.kdt m)) (Zam _ (Zam _ (Zam _ (Zam _ (ZaD _ (Zah.mpr ⟨_,hm,rfl⟩))))))
  have hg:=He.glo_ok S.inK ns fok
  have dk:=S.kd (x,m) (Zi0.mpr ⟨_,hm,rfl⟩)
  obtain⟨es,nn,h1,h2,h3⟩:=He.dicW_ok dk
  have hb:kdB X.K m (He.ga X.K x)=true:=S.gt _ hm
  unfold kdB at hb
  rw[h1] at hb
  exact⟨_,es,nn,hg,h1,h2,h3,kdV_ok hb⟩
 ·have hc:c=true:=hc
  have get:∀(dd:Du) kk f,p.G.dmt kk dd=some f→∃cc d,p.cs'[kk]? =some cc∧cc.dms.lookup dd=some f∧p.ds[f]? =some d∧duB p X.K (((Za5 p X.K).at pn cells qual lamOk me).cb kk) (dd,f)=true:=fun dd kk f hk=>by
   have hk:((p.cs'[kk]?).bind fun c=>c.dms.lookup dd)=some f:=hk
   obtain⟨cc,h1,h2⟩:=Za9.mp hk
   obtain⟨d,hd⟩:=(ceT (K:=X.K) ok (Za2 h1)).id _ (Zct h2)
   exact⟨cc,d,h1,h2,hd,(ceX h1).dms _ (Zct h2)⟩
  refine⟨⟨fun kk f hk=>?_⟩,⟨fun kk f hk=>?_⟩,fun kk f hk=>?_⟩
  ·obtain⟨cc,d,h1,h2,hd,hq⟩:=get _ kk f hk
   unfold duB at hq
   simp only[Zaa] at hq
   obtain⟨k1,k2⟩:=oneX hd (bd.cl.one cc (Za2 h1) f d (.inr (.inr (.inr (.inr h2)))) hd)
   exact⟨Zcb hq.1.1.1,hq.1.1.2,loX hc f d hd,k1,k2⟩
  ·obtain⟨cc,d,h1,h2,hd,hq⟩:=get _ kk f hk
   unfold duB at hq
   simp only[Zaa] at hq
   obtain⟨k1,k2⟩:=oneX hd (bd.cl.fou cc (Za2 h1) f d h2 hd)
   exact⟨Zcb hq.1.1.1,hq.1.1.2,loX hc f d hd,k1,k2⟩
  ·obtain⟨cc,d,h1,h2,hd,hq⟩:=get _ kk f hk
   rw[spY_at]
   exact (mk hc).2.2.1 cc (Za2 h1) f h2
 ·have hc:c=true:=hc
  obtain⟨cc,h1,rfl⟩:=nmX x kk e
  have mem:=Zax.mp e2
  have mkr:=mkrX h1
  have ecv:((Za5 p X.K).at pn cells qual lamOk me).cdv kk=dfV X.K cc.dd:=by show ((p.cs'[kk]?).map fun c=>dfV X.K c.dd).getD []=_; rw[h1]; rfl
  have ecd:p.G.cdf kk=dfD cc.dd:=by show ((p.cs'[kk]?).map fun c=>dfD c.dd).getD []=_; rw[h1]; rfl
  have kc:kk < p.cs'.length:=(Zay.mp h1).1
  obtain⟨j0,c0,ej,hj0,hs0⟩:=Zh1 (Zax.mp e0)
  obtain rfl:kk=j0:=by omega
  rw[h1] at hj0
  cases hj0
  refine⟨hmg _ kk e,mkr.kp,kc,fun w n=>by rw[Zcc,ecd,ecv]; exact ZkG (ceT (K:=X.K) ok (Za2 h1)).df,?_⟩
  rcases (mk hc).2.2.2 kk cc h1 hs0 with st |⟨j,fd,rfl,F,G⟩
  ·exact .inl st
  ·obtain⟨b1,b2⟩:=bd.cl.mkk _ mem cc h1
   rw[← spN_at (pn:=pn) (cells:=cells) (qual:=qual) (lamOk:=lamOk) (me:=me)] at G
   obtain⟨ds,v,q⟩:=b2 _ _ F
   exact .inr ⟨j,_,fd,cc.ps,rfl,mkr,G,b1,ds,by rw[ecv]; exact v,fun s a us ws vs X0 l1 l2 hp=>q s [a] us ws vs X0 rfl l1 l2 hp⟩
theorem iniC0:ZmF p P w K mg base 0:=fun _ _ _=>.inl fun _ _=>rfl
theorem tr_cx {X:Cx} {k:Nat} {c:Bool} {lamB:Nat→Zd6→Bool} {pn:List (Addr × Obj)} {cells:List (Str × Addr)} {qual:Str} {lamOk:Nat→Zd6→Prop} {me:Option Addr} (S:Zc6 p X.prog X.w X.K h) (ns:h.Ns mainGlobals X.mg) (ok:p.ok X.prog=true) (bd:p.bd)
  (mk:ZmF p X.prog X.w X.K X.mg X.base k) {K':Value→Shared→Prop} {E₁:Value→Shared→Prop} (hx:X.xe=fun e s'=>wpAny (model X.prog X.w) X.A (leaving X.env e) (fun _ s''=>K' e s'') E₁ s'):
  TrCx X ((Za5 p X.K).at pn cells qual lamOk me) p.G (p.tb c lamB) (cN p.G k) k where
 pa:=fun hd=>by
  rw[hx]
  exact PassesOwnAt.leaving
 mc:=fun x kk e n ks sel e2=>by
  obtain⟨cc,h1,rfl⟩:=cAt e
  have mem:=Zax.mp e2
  have ecb:((Za5 p X.K).at pn cells qual lamOk me).cb kk=He.ga X.K cc.name:=Zdq h1
  have mkr:Mk X.K (((Za5 p X.K).at pn cells qual lamOk me).cb kk) (He.ma X.K (He.ga X.K cc.name) "__init__"):=by
   rw[ecb]
   exact He.mkr_ok (ZfR S (ZcQ (Za2 h1) (by simp[CE.fa])))
  have ecv:((Za5 p X.K).at pn cells qual lamOk me).cdv kk=dfV X.K cc.dd:=by show ((p.cs'[kk]?).map fun c=>dfV X.K c.dd).getD []=_; rw[h1]; rfl
  have ecd:p.G.cdf kk=dfD cc.dd:=by show ((p.cs'[kk]?).map fun c=>dfD c.dd).getD []=_; rw[h1]; rfl
  refine⟨?_,mkr.kp,fun w n=>by rw[Zcc,ecd,ecv]; exact ZkG (ceT (K:=X.K) ok (Za2 h1)).df,?_⟩
  ·rw[ecb]
   exact He.glo_ok S.inK ns (ZfR S (ZcQ (Za2 h1) (by simp[CE.fa])))
  rcases mk kk cc h1 with st |⟨j,fd,rfl,F,G⟩
  ·exact .inl st
  ·obtain⟨b1,b2⟩:=bd.cl.mkk _ mem cc h1
   rw[← Zjp (pn:=pn) (cells:=cells) (qual:=qual) (lamOk:=lamOk) (me:=me)] at G
   obtain⟨ds,v,q⟩:=b2 _ _ F
   exact .inr ⟨j,_,fd,cc.ps,rfl,mkr,G,b1,ds,by rw[ecv]; exact v,fun s a us ws vs X0 l1 l2 hp=>q s [a] us ws vs X0 rfl l1 l2 hp⟩
 ex:=fun y xc e=>by
  obtain⟨j,rfl,hj⟩:=Zfw e
  rw[Zbt]
  rw[ZaK] at hj
  obtain⟨x,h1,_⟩:=Zan.mp hj
  have e3:((Za5 p X.K).at pn cells qual lamOk me).ca j=He.ga X.K x.name:=Zkn h1
  rw[e3]
  exact S.exm x (Zao h1)
end
end Rk
/-! Rk.Pc:every def keeps its promise at every depth. -/
namespace Rk
open PySem PySem.Spec PyProof.Rows L2
section
variable {P:Program} {w:World} {K:PySem.W.Frag} {h:Heap} {mg:Str→Option Value} {p:Pg} {base:Heap}
theorem ZhK {g:Gi} {w:Wd} {n:Nat} {ds:List D} {vs:List V} {N:List Str} (r:RVs g w n ds vs) (m:Nat) (hm:m=N.length - vs.length):RE g w n (ds.map .v++List.replicate m .no) (L2.start N vs):=by
 unfold L2.start
 refine⟨?_,fun i d o e1 e2=>?_⟩
 ·rw[Zal,Zal,Zac,Zac,ZbQ,ZbQ,r.length,hm,r.length]
 ·by_cases hi:i < ds.length
  ·rw[Zbe (by simpa using hi),ZaK] at e1
   obtain⟨d',h1,h2⟩:=Zan.mp e1
   cases h2
   obtain⟨v,h3,h4⟩:=r.get h1
   rw[Zbe (by rw[Zac,r.length]; exact hi),ZaK,h3] at e2
   cases e2
   exact⟨v,rfl,h4⟩
  ·rw[ZdJ (by simpa using hi),Zb8] at e1
   split at e1
   ·cases e1; trivial
   ·cases e1
theorem ZlF {g:Gi} {pn:List (Addr × Obj)} {cells:List (Str × Addr)} {qual:Str} {lamOk:Nat→Zd6→Prop} {me:Option Addr} {Q:VK}:PV (g.at pn cells qual lamOk me) Q=PV g Q:=by
 unfold PV
 simp only[ZdP]
theorem Zm1 {ps:List Str} (h:ps.length=1):∃y,ps=[y]:=by
 match ps,h with
 |[y],_=>exact⟨y,rfl⟩
theorem Zne (ok:p.ok P=true) {W:ZeG} (hw:p.why=some W):W.ok=true∧∃d,p.ds[p.fld]? =some d∧d.dd.dfl=[]∧d.dd.kwd=[]∧d.wh=.glo∧d.dd.name=W.lf∧d.ps.length=1∧d.gn=none∧d.sp=none∧chSs (p.tb false Zb1) d.N d.fn.body ⟨d.dd.scope.names,false,false,false⟩ d.dd.body=true:=by
 have q:=(Zb6 ok).2.2.2.2.2.2.2
 unfold Pg.whyOk at q
 rw[hw] at q
 simp only[Zaa] at q
 refine⟨q.1,?_⟩
 have q:=q.2
 split at q
 ·rename_i d hd
  simp only[Zaa,Zab] at q
  exact⟨d,hd,Zcx.mp q.1.1.1.1.1.1.1,Zcx.mp q.1.1.1.1.1.1.2,q.1.1.1.1.1.2,q.1.1.1.1.2,q.1.1.1.2,Za3.mp q.1.1.2,Za3.mp q.1.2,q.2⟩
 ·cases q
theorem Zmi (S:Zc6 p P w K h) (ns:h.Ns mainGlobals mg) (ok:p.ok P=true) (bd:p.bd) {W:ZeG} (hw:p.why=some W):
  ∀(m:Nat),(∀j,j≤m→Zlf p P w K mg base j)→FnX P w K mg base m ((Za5 p K).fa p.fld) ((Za5 p K).fd p.fld) ((Za5 p K).fps p.fld) (spX (Za5 p K) (cN p.G m) p.fld)
 |0,_=>⟨fun A outer s H q Q _ _ _ _ hsp=>by
   obtain⟨w,h,c,fs,dd,gs,_,_,_,_,_,_,q⟩:=hsp
   exact q.elim⟩
 |m+1,pr=>by
  obtain⟨wok,d,hd,hdf,hkw,hwh,hname,hlen,hgn,hsp0,hch⟩:=Zne ok hw
  have F:=Zdr S ok hd hsp0
  rw[Zex hdf,ZfC hkw] at F
  obtain⟨hpl,Sc,hnp,hnb,_⟩:=deOk ok hd hgn hsp0
  obtain⟨y,hy⟩:=Zm1 hlen
  rw[ZfK hd,ZeQ hd,hy]
  rw[hy] at Sc
  refine fnx_of F Sc fun cdv A outer s H q Q room hsp=>?_
  obtain⟨wd,h1,c,fs,dd,gs,rr,hz,hfl,hdd,hf,xk,q1⟩:=hsp
  refine⟨tS ((Za5 p K).at [q] [] "" fun _ _=>False) (fun cls d _ H=>False) (evSs p.G (cN p.G m) (p.tb false Zb1).c d.fn.body),?_,?_⟩
  ·refine chSs_ok (k:=m) (N:=d.N) (nm:=⟨d.dd.scope.names,false,false,false⟩) d.fn.body ?_ _ hch
   exact {toCK:=ZkN (X:=L2H.cxH (CXZ false P w) P w K mg base d.N d.dd.qual d.dd.scope ((d.ad K)) cdv A outer s H (fun _ _ _=>False) q) S ns ok bd (pr m (ZbE m)) room Sc.nd rfl rfl Sc.kind (fun z=>nomatch z) (fun q' hq=>hq) (fun z=>nomatch z) (fun z=>nomatch z) (Zc4 S ns ok bd (fun z=>nomatch z) (fun z=>nomatch z) (fun z=>nomatch z)) (fun z=>nomatch z)
          fn:=.inl fun _=>rfl
          po:=passes_of rfl
          tk:=takes_of (E:=fun _ _ _=>False) rfl rfl rfl rfl
          xg:=fun z=>nomatch z
          tr:=fun z=>nomatch z}
  ·have eg:p.G.fn p.fld=some d.fn:=by show (p.ds[p.fld]?).map (·.fn)=_; rw[hd]; rfl
   have q1:Za4 (Za5 p K) wd h1.nx ((cN p.G (m+1)).x p.fld c fs h1) (fun _ _ _=>False) (PV (Za5 p K) Q):=q1
   have e1:(cN p.G (m+1)).x p.fld c fs h1=fin (evSs p.G (cN p.G m) false d.fn.body (.exc c fs::List.replicate (d.fn.nb - 1) .no) h1):=by
    show (match p.G.fn p.fld with
     |some fd=>if fd.np=1 then fin (evSs p.G (cN p.G m) false fd.body (.exc c fs::List.replicate (fd.nb - 1) .no) h1) else .stuck
     |none=>.stuck)=_
    rw[eg]
    dsimp only
    rw[if_pos (by rw[hnp,hy]; rfl)]
   rw[e1] at q1
   refine⟨wd,.exc c fs::List.replicate (d.fn.nb - 1) .no,h1,by rw[Zdf]; exact rr,⟨?_,fun i sl o e1 e2=>?_⟩,ZfP (E:=fun _ _ _=>False) (by rw[ZbN,ZlF]; exact q1)⟩
   ·have:d.N.length≥1:=by
     have:=congrArg List.length Sc.pre
     rw[Za0] at this
     have:min 1 d.N.length=1:=this
     omega
    unfold L2.start
    simp only[Zae,ZbQ,Zal,Zac,Zat]
    rw[hnb]
    omega
   ·cases i with
    |zero=>
     cases e1
     have e2:some (some (V.ref q.1))=some o:=e2
     cases e2
     exact⟨q.1,dd,q.2,gs,rfl,Zar.mpr rfl,hz,hfl,hdd,by rw[ZcN]; exact hf,xk⟩
    |succ i=>
     rw[Zaq,Zb8] at e1
     split at e1
     ·cases e1; trivial
     ·cases e1
theorem Zmh (S:Zc6 p P w K h) (ns:h.Ns mainGlobals mg) (ok:p.ok P=true) (bd:p.bd) {c:CE} (hc:c∈p.cs') {f:Nat} (hf:c.dms.lookup .exit=some f) (m:Nat) (pr:Zlf p P w K mg base m):
  FnY P w K mg base (m+1) ((Za5 p K).fa f) ((Za5 p K).fd f) ((Za5 p K).fps f) (spY (Za5 p K) ((cN p.G (m+1)).exn f)):=by
 have q:=okExit ok hc
 unfold Zkw at q
 rw[hf] at q
 dsimp only at q
 split at q
 ·rename_i d hd
  simp only[Zaa,Zab,Zbz] at q
  obtain⟨⟨⟨⟨⟨⟨⟨hgn,hsp⟩,htl⟩,hsc⟩,hlen⟩,hdf⟩,hkw⟩,hch⟩:=q
  have hgn:=Za3.mp hgn
  have hsp:=Za3.mp hsp
  have F:=Zdr S ok hd hsp
  rw[Zex (Zcx.mp hdf),ZfC (Zcx.mp hkw)] at F
  obtain⟨hpl,Sc,hnp,hnb,_⟩:=deOk ok hd hgn hsp
  rw[ZfK hd,ZeQ hd]
  refine fny_of F Sc fun cdv A outer s H q vs Q room hl hsp=>?_
  obtain⟨wd,mm,h1,x,a,b,cc,rfl,rr,rv,q1⟩:=hsp
  refine⟨tS ((Za5 p K).at [q] [] "" fun _ _=>False) (fun cls d _ H=>False) (evSs p.G (cN p.G m) (p.tb false Zb1).c d.fn.body),?_,?_⟩
  ·refine chSs_ok (k:=m) (N:=d.N) (nm:=⟨d.dd.scope.names,false,false,false⟩) d.fn.body ?_ _ hch
   exact {toCK:=ZkN (X:=L2H.cxH (CXZ false P w) P w K mg base d.N d.dd.qual d.dd.scope ((d.ad K)) cdv A outer s H (fun _ _ _=>False) q) S ns ok bd pr room Sc.nd rfl rfl Sc.kind (fun z=>nomatch z) (fun q' hq=>hq) (fun z=>nomatch z) (fun z=>nomatch z) (Zc4 S ns ok bd (fun z=>nomatch z) (fun z=>nomatch z) (fun z=>nomatch z)) (fun z=>nomatch z)
          fn:=.inl fun _=>rfl
          po:=passes_of rfl
          tk:=takes_of (E:=fun _ _ _=>False) rfl rfl rfl rfl
          xg:=fun z=>nomatch z
          tr:=fun z=>nomatch z}
  ·have eg:p.G.fn f=some d.fn:=by show (p.ds[f]?).map (·.fn)=_; rw[hd]; rfl
   have e1:(cN p.G (m+1)).exn f mm h1=fin (evSs p.G (cN p.G m) false d.fn.body (.v mm::List.replicate (d.fn.nb - 1) .no) h1):=by
    show (match p.G.fn f with
     |some fd=>if fd.np=4 then fin (evSs p.G (cN p.G m) false fd.body (.v mm::List.replicate (fd.nb - 1) .no) h1) else .stuck
     |none=>.stuck)=_
    rw[eg]
    dsimp only
    rw[if_pos (by rw[hnp,hlen])]
   rw[e1] at q1
   refine⟨wd,.v mm::List.replicate (d.fn.nb - 1) .no,h1,by rw[Zdf]; exact rr,⟨?_,fun i sl o e1 e2=>?_⟩,ZfP (E:=fun _ _ _=>False) (by rw[ZbN,ZlF]; exact q1)⟩
   ·have:d.N.length≥4:=by
     have:=congrArg List.length Sc.pre
     rw[Za0,hlen] at this
     omega
    unfold L2.start
    simp only[Zae,ZbQ,Zal,Zac,Zat]
    rw[hnb]
    omega
   ·cases i with
    |zero=>
     cases e1
     have e2:some (some x)=some o:=e2
     cases e2
     exact⟨x,rfl,by rw[ZdP]; exact rv⟩
    |succ i=>
     rw[Zaq,Zb8] at e1
     split at e1
     ·cases e1; trivial
     ·cases e1
 ·cases q
theorem promY (S:Zc6 p P w K h) (ns:h.Ns mainGlobals mg) (ok:p.ok P=true) (bd:p.bd):∀(n:Nat),(∀j,j < n→Zlf p P w K mg base j)→ZpQ p P w K mg base n
 |0,_=>fun _ _ _ _=>.inl fun _ _=>rfl
 |1,_=>fun _ _ _ _=>.inl fun _ _=>rfl
 |m+2,pr=>fun c hc f hf=>.inr ⟨m+1,rfl,Zmh S ns ok bd hc hf m (pr m (by omega))⟩
theorem Zo5 {W:ZeG} (hw:p.why=some W) {f:He.Fa} (hf:f∈W.fa):f∈p.fa:=ZaD _ (by unfold Pg.whyFa; rw[hw]; exact hf)
theorem ZkH {W:ZeG} (hw:p.why=some W) {d:He.DefD} (hf:d=W.why∨(W.hs=true∧d=W.whys)):d∈p.defs:=ZaD _ (by
 unfold Pg.whyDs
 rw[hw]
 rcases hf with rfl |⟨h,rfl⟩
 ·simp
 ·simp[h])
theorem why_at (S:Zc6 p P w K h) (ns:h.Ns mainGlobals mg) (ok:p.ok P=true) (bd:p.bd) {W:ZeG} (hw:p.why=some W) {m:Nat} (pr:∀j,j≤m→Zlf p P w K mg base j) (pn:List (Addr × Obj)) (cells:List (Str × Addr)) (qual:Str) (lamOk:Nat→Zd6→Prop) (me:Option Addr):
  ∃(fw fs:Addr) (fd fds:FuncData),mg W.why.name=some (.ref fw)∧PySem.W.keepIn K (.ref fw)=true∧ZpO P w K mg base ((Za5 p K).at pn cells qual lamOk me) p.G (cN p.G m) m fw fd W.a∧(W.hs=true→mg W.whys.name=some (.ref fs)∧PySem.W.keepIn K (.ref fs)=true∧ZnL K mg fw fs fds W.a2):=by
 obtain⟨wok,d,hd,hdf,hkw,hwh,hname,hlen,_,hsp0,_⟩:=Zne ok hw
 obtain⟨b1,b2,b3⟩:=bd.wb W hw
 unfold ZeG.ok at wok
 simp only[Zaa,Zab,Zaj] at wok
 obtain⟨⟨⟨⟨⟨⟨⟨⟨w1,w3⟩,w5⟩,w6⟩,w7⟩,w8⟩,w9⟩,w10⟩,w2⟩:=wok
 obtain⟨fd,F⟩:=Zkp S (ZkH hw (.inl rfl)) w1
 have gm:∀{x:Str},He.Fa.glo x∈W.fa→mg x=some (.ref (He.ga K x)):=fun hx=>He.glo_ok S.inK ns (ZfR S (Zo5 hw hx))
 have nD:∀{y:Str},notD y=true→(y == ("__debug__":Str))=false∧(y == ("__classdict__":Str))=false:=fun hy=>by
  unfold notD at hy
  simpa using hy
 have F':=Zdr S ok hd hsp0
 rw[Zex hdf,ZfC hkw] at F'
 obtain⟨y,hy⟩:=Zm1 hlen
 have hlf:mg W.lf=some (.ref ((Za5 p K).fa p.fld)):=by
  rw[ZfK hd,Zit hwh,← hname]
  exact He.glo_ok S.inK ns (ZfR S (Znc hd hwh))
 have eW:W.why.name=("_law_why":Str):=w3
 have WA:ZpO P w K mg base ((Za5 p K).at pn cells qual lamOk me) p.G (cN p.G m) m (He.ga K W.why.name) fd W.a:=by
  refine⟨?_,gi_xo S ok bd,Zo6 (K:=K) ok,(Zkm (K:=K) ok).1,(Zkm (K:=K) ok).2⟩
  ·refine⟨W.why.qual,W.why.params,W.why.body,W.why.scope,(Za5 p K).fd p.fld,(Za5 p K).fps p.fld,(Za5 p K).fa p.fld,W.e,W.x1,W.x2,W.x3,W.lf,He.ga K W.x1,He.ga K W.x2,He.ga K W.x3,eW ▸ F,Zdy w5,w6,fun s u _=>Zir F b1 s u,w7,w8,fun y hy=>?_,fun y hy=>nD (w10 y hy),gm (by simp[ZeG.fa]),gm (by simp[ZeG.fa]),gm (by simp[ZeG.fa]),hlf,?_,fun c hc=>?_,?_,fun s u _=>?_⟩
   ·have q:=w9 y hy
    unfold gl1 at q
    exact ZaC q
   ·rw[ZfK hd]
    exact F'.kp
   ·have hc:c < p.xs.length:=hc
    have hx:=Zad hc
    have e3:((Za5 p K).at pn cells qual lamOk me).ca c=He.ga K (p.xs[c]).name:=Zkn hx
    rw[e3]
    exact (S.x _ (Zao hx)).2.2.2 W hw
   ·have e4:((Za5 p K).at pn cells qual lamOk me)=((Za5 p K).at pn cells qual lamOk me):=rfl
    rw[spX_at]
    exact Zmi S ns ok bd hw m pr
   ·rw[ZeQ hd]
    obtain⟨oc,od,dV,kV,doc,pm,an,cdv',ct,osl,hfd,lk,hcd,hD,hK⟩:=F'.ex
    have hfd:(Za5 p K).fd p.fld=_:=hfd
    rw[hfd]
    rcases hD with⟨_,rfl⟩ |⟨e,_⟩
    ·exact .of_eq (b3 d hd kV doc pm an cdv' ct u)
    ·exact absurd rfl e
 cases hh:W.hs with
 |false=>exact⟨He.ga K W.why.name,0,fd,default,gm (by simp[ZeG.fa]),F.kp,WA,fun z=>(nomatch z)⟩
 |true=>
  rw[hh] at w2
  have w2:W.okS=true:=w2
  unfold ZeG.okS at w2
  simp only[Zaa,Zab,Zaj] at w2
  obtain⟨⟨⟨⟨⟨⟨⟨w2,w4⟩,w11⟩,w12⟩,w13⟩,w14⟩,w15⟩,w16⟩:=w2
  obtain⟨fds,Fs⟩:=Zkp S (ZkH hw (.inr ⟨hh,rfl⟩)) w2
  have eWs:W.whys.name=("_law_whys":Str):=w4
  refine⟨He.ga K W.why.name,He.ga K W.whys.name,fd,fds,gm (by simp[ZeG.fa]),F.kp,WA,fun _=>⟨gm (by simp[ZeG.fa,hh]),Fs.kp,⟨?_⟩⟩⟩
  split at w16
  rotate_left
  ·cases w16
  rename_i q1 q2 q3 sc hT
  rw[hT] at w12
  simp only[Zaz,Option.some.injEq,Prod.mk.injEq] at w12
  obtain⟨rfl,rfl,rfl⟩:=w12
  simp only[Zaa,Zab] at w16
  exact⟨W.whys.qual,W.whys.params,W.whys.body,W.whys.scope,sc,W.d,W.wy,eWs ▸ Fs,Zdy w11,hT,fun s u _=>Zir Fs (b2 hh) s u,w14,w16.1.1,w16.1.2,w16.2,fun y hy=>nD (w15 y hy),by rw[w13]; exact gm (by simp[ZeG.fa]),F.kp⟩
end
end Rk
/-! Rk.Sv:an f-string whose first part asks which def it stands in (super().told()). -/
namespace Rk
open PySem PySem.Spec PyProof.Rows L2 PySem.W
section
variable {prog:Program} {w:World} {A:Around} {c:Code} {E:Value→Shared→Prop} {s:Shared} {env:PySem.Env}
theorem ZnU {value:Expr} {pos:Pos} {Q:Value→Shared→Prop} (h:PySem.wpAt (model prog w) A c (eval value env) (fun v s₁=>wpAny (model prog w) A (formatField v Str.empty) Q E s₁) E s):
  PySem.wpAt (model prog w) A c (eval (.FormattedValue value (-1) none pos) env) Q E s:=by
 rw[arm_eval_FormattedValue]
 refine PySem.wpAt_bind (ks_wpAt_mono h (fun v s₁ h₁=>PySem.wpAt_of_wpAny ?_) fun _ _ x=>x)
 refine wpAny_bind (wpAny_standAt ?_)
 show wpAny _ _ (do let v' ← holding [v] (pure v); formatField v' Str.empty) Q E s₁
 exact wpAny_bind (wpAny_holding (wpAny_pure h₁))
theorem ZnT {v₁ v₂:Expr} {rest:List Expr} {pos:Pos} {Q:Value→Shared→Prop}
  (h:PySem.wpAt (model prog w) A c (eval v₁ env) (fun v s₁=>∃y t,v=.str y t∧y.length≤sizeLine∧Joins (model prog w) A E (evalEach (v₂::rest) env) (Str.empty++y) (fun out s₁=>out.length≤sizeLine∧Q (.str out s₁.toks) {s₁ with toks:=s₁.toks+1}) s₁) E s):
  PySem.wpAt (model prog w) A c (eval (.JoinedStr (v₁::v₂::rest) pos) env) Q E s:=by
 rw[arm_eval_JoinedStr]
 show PySem.wpAt _ _ _ (joinParts Str.empty (eval v₁ env::evalEach (v₂::rest) env)) Q E s
 rw[joinParts]
 refine PySem.wpAt_bind (ks_wpAt_mono h (fun v s₁ h₁=>PySem.wpAt_of_wpAny ?_) fun _ _ e=>e)
 obtain⟨y,t,rfl,hz,hr⟩:=h₁
 have hz':¬((Str.empty).length+y.length > sizeLine):=by
  have e:(Str.empty).length=0:=rfl
  rw[e,Zbt]
  exact Nat.not_lt.mpr hz
 refine wpAny_bind (wpAny_pure ?_)
 show wpAny (model prog w) A (if (Str.empty).length+y.length > sizeLine then _ else _) Q E s₁
 rw[if_neg hz']
 first
  |exact wpAny_joinPartsRec _ _ Q s₁ hr
  |exact wpAny_bind (wpAny_pure (wpAny_joinPartsRec _ _ Q s₁ hr))
end
section
variable {X:Cx} {g:Gi} {call':Cl} {k kk fm:Nat} {E:SX'} {cc f fB cda L:Addr} {qual nm sx mn:Str} {params:Arguments} {body fbody:List Stmt} {scope:Scope} {N ps:List Str} {oc:Value} {od:Option Addr} {osl:Array (Option Value)} {dV kV doc pm ct:Value} {an:Option Addr} {ocd:Value} {odd:Option Addr} {vs:Array Value} {osd:Array (Option Value)} {file:Str} {tf:Tok}
 {cl:Value} {cld:Option Addr} {csl:Array (Option Value)} {ar:Arg} {cd:ClassData} {p0 p1 p2 p4:Pos}
theorem at_sup (G:GX g true k X) (tk:Zfd false X (fun cls d σ H=>E σ cls d H)) (henv:X.env=ksEnv qual scope L f (.ref cda) cc) (S:Zcw N ps scope)
  (lk:X.K.lookup f=some ⟨oc,od,.func (ksFn nm qual params fbody scope dV kV doc pm an (.ref cda) ct cc),osl⟩) (hcode:X.K.lookup cda=some ⟨ocd,odd,.fields vs,osd⟩) (hvs:vs[2]? =some (.str file tf)) (hfile:((X.prog.main.file:Str) == file)=true)
  (htop:(X.prog.main.scope.names.lookup ("super":Str)).isSome=false) (hcell:X.K.lookup cc=some ⟨cl,cld,.cell (some (.ref (g.cb kk))),csl⟩) (hpar:(params.posonlyargs++params.args).head? =some ar) (har:ar.arg=sx) (hsx:scope.names.lookup sx=some .local)
  (hx0:X.N[0]? =some sx) (hmg:X.mg "super"=none) (opq:nsIn X.K cStatics "thirdparty.any"=some none) (hD:clsIn X.K (g.cb kk)=some cd) (mro:mroIn X.K (g.cb kk) (.ref (g.cb kk))=some true) (C:Cls X.K (g.cb kk))
  (hm:ks_superIn X.K (g.cb kk) (g.cb kk) mn=some (some (.ref fB))) (htB:typeIn X.K (.ref fB)=some (.type "function")) (hfi:fnIn X.K fB=true) (hfB:fB=g.fa fm) (hne:(mn == ("__class__":Str))=false)
  (F:FnG false X.prog X.w X.K X.mg X.base k true (g.fa fm) (g.fd fm) (g.fps fm) (spF g call' true fm)) (hkb:KB g fm 1 [] [0]) (hps:(g.fps fm).length=1) (hl24:(p2.endLine == p4.line)=true)
  {pins:List (Addr × Obj)} {s:Shared} {σ:L2.St} {H:Hp} {Q:VK} (I:Inv X pins σ H s)
  (q:∃w env h fs,RR g w h H∧RE g w h.nx env σ∧env[0]? =some (.v (.ins kk fs))∧Za4 g w h.nx (call'.f true fm [.ins kk fs] h) (E σ) (PV g Q)):
  PySem.wpAt (model X.prog X.w) X.A (.func body X.env) (eval (.Call (.Attribute (.Call (.Name "super" p0) [] [] p1) mn p2) [] [] p4) X.env) (EP X pins σ Q) X.xe s:=by
 obtain⟨w,env,h,fs,rr,re,he0,q⟩:=q
 subst hfB
 obtain⟨m,hns,hloc⟩:=I.loc
 obtain⟨v0,hs0,rv0⟩:=re.at_ _ _ he0
 obtain⟨x,dx,gs,rfl,f1,f2,f3⟩:=ZjD rv0
 have hkS:X.env.scope=scope:=by rw[henv]
 obtain⟨u,ru,lk0⟩:=hloc 0 sx (.ref x) hx0 hs0 (.inl (by rw[hkS]; exact hsx))
 obtain rfl:u=Value.ref x:=ru
 have hself:m sx=some (.ref x):=by
  rcases lk0 with l |⟨z,_⟩
  ·exact l.2
  ·have z:scope.names.lookup sx=some .cell∨scope.names.lookup sx=some .free:=by rw[← hkS]; exact z
   rw[hsx] at z
   rcases z with z |z<;>cases z
 have hH:H x=some (.ins (g.cb kk) dx gs):=rr.sub _ _ f1
 obtain⟨ox,od',J,hdat⟩:=StX.insC_at I (.inr ⟨dx,gs,hH⟩)
 have hno:∀c:ClassData,ox.data≠ .cls c:=fun c z=>by rw[hdat] at z; cases z
 have glob:s.heap.Ns mainGlobals X.mg:=I.mod.glob.keeps I.bk
 obtain⟨mb,hmb,bb⟩:=I.mod.blt
 have bns:s.heap.Ns builtinsNs mb:=hmb.keeps I.bk
 have KX:=I.kIn
 obtain⟨oD,hD1,hD2⟩:∃oD,s.heap.get? (g.cb kk)=some oD∧oD.data=.cls cd:=by
  have hD:=hD
  unfold clsIn at hD
  split at hD
  ·rename_i c d cd' sl ho
   cases hD
   exact⟨_,KX _ _ ho,rfl⟩
  ·cases hD
 obtain⟨of,hof,hofc⟩:∃of,X.K.lookup (g.fa fm)=some of∧of.cls=.type "function":=by
  have z:(X.K.lookup (g.fa fm)).map (·.cls)=some (.type "function"):=htB
  cases e1:X.K.lookup (g.fa fm) with
  |none=>rw[e1] at z; cases z
  |some of=>rw[e1] at z; exact⟨of,rfl,Option.some.inj z⟩
 have hform:methodCallForm (([]:List Expr).length+0) (backTo p4 (starEach [] X.env)) (backToKw p4 (keywordEach [] X.env))=true:=rfl
 refine ks_wpAt_MethodCall (pl:=do return (← importBound (.Call (.Name "super" p0) [] [] p1) X.env).getD true) ?_ (ZhU hl24 hform)
 have lkH:=KX _ _ lk
 have codeH:=KX _ _ hcode
 have cellH:=KX _ _ hcell
 refine ks_wpAt_super_base (env:=X.env) (ar:=ar) (by show X.env.scope.names.lookup _=_; rw[hkS]; exact S.sup) (by show X.env.scope.names.lookup _=_; rw[hkS]; exact S.cls) hne (by rw[henv]) lkH rfl hpar (by rw[henv]) codeH rfl hvs hfile htop ?_
 refine ks_loadName_global (by rw[hkS]; exact S.kind) (by show X.env.scope.names.lookup _=_; rw[hkS]; exact S.sup) (PySem.Calls.loadGlobal_builtin (env:=X.env) (by rw[henv]; exact glob) hmg (by rw[henv]; exact bns) ((bb _ (by decide+kernel)).trans (by decide+kernel:bootBuiltins "super"=some (.type "super"))) ⟨rfl,?_⟩)
 refine wpAny_loadName_free (by rw[hkS]; exact S.kind) (by show X.env.scope.names.lookup _=_; rw[hkS]; exact S.cls) (by rw[henv]; rfl) ⟨_,cellH,rfl⟩ ?_
 rw[har]
 refine wpAny_loadName_local (by rw[hkS]; exact S.kind) (by show X.env.scope.names.lookup _=_; rw[hkS]; exact hsx) hns hself ?_
 refine ks_wpAny_isType_cls hD1 hD2 ⟨rfl,?_⟩
 obtain⟨hp,gg,dr,tk0,os⟩:=s
 refine ks_wpAny_call_super hD1 hD2 J.at_ J.cls hno (looks_mroIn KX mro) (fun h1 e1 k1=>?_)
 have KX1:X.K.In h1:=KX.keeps k1
 have I1:Inv X pins σ H ⟨h1,gg,dr,tk0,os⟩:=I.kept (t':=tk0) k1
 obtain⟨ox1,od1,J1,_⟩:=StX.insC_at I1 (.inr ⟨dx,gs,hH⟩)
 have hm':=hm
 unfold ks_superIn at hm'
 rw[hD] at hm'
 refine ks_wpAny_getMethod_super e1 (looks_opaque KX1 opq) (l₀:=cd.mro) ?_ rfl KX1 hm' (KX1 _ _ hof) hofc (ks_ne KX1 J1 hD) hne ?_
 ·exact fun A Q E s k q=>wpAny_bind ((looks_clsIn KX1 hD) A _ E s k (wpAny_pure q))
 have hq:H h1.objs.size=none:=I1.hok.fresh (Zai _)
 have I2:Inv X pins σ (upd H h1.objs.size (.met (g.fa fm) x)) ⟨h1.push (methodObj (.ref (g.fa fm)) (.ref x)),gg,dr,tk0+1,os⟩:=I1.laid (t':=tk0+1) (a:=h1.objs.size) (o:=.met (g.fa fm) x) (fun b u z=>Heap.get?_push_of_some _ z) (Zai _)
  (show (h1.push (methodObj (.ref (g.fa fm)) (.ref x))).get? h1.objs.size=some (methodObj (.ref (g.fa fm)) (.ref x)) from Heap.get?_push_size h1 rfl)
 obtain⟨rrf,extf⟩:=rr.freeze (o:=.met (g.fa fm) x) hq
 refine callwith_met (X:=X) (q:=h1.objs.size) (a:=x) (g:=g.fa fm) (first:=[]) rfl hfi ?_
 refine PySem.evalArgs_none ?_
 have e3:(upd H h1.objs.size (.met (g.fa fm) x)) h1.objs.size=some (.met (g.fa fm) x):=upd_same
 refine⟨met_P I2 e3,?_⟩
 refine wpAny_call (call_met I2 e3 (codeAny_mono (F.run X.A X.stack _ _ ⟨[.ref x],[]⟩ [.ref x] [.ref x] Q (E σ) G.room (fun _=>I2.ok.hd (G.calm rfl)) I2.env0 (by rw[hps]; rfl) (Zm9 hkb (G.K ▸ I2.kIn)) (.cons rfl .nil) ⟨_,[.ins kk fs],h,rrf,RVs.mk (rv0.ext extf _ _) RVs.nil,Za4.up extf q⟩) fun r s' hr=>?_))
 cases r with
 |error e=>exact tk e s' (L2.XE.of_call I2 (fun cls d H' h=>h) hr)
 |ok fl=>
  cases fl with
  |ret u=>exact I2.after hr
  |next=>exact False.elim hr
  |brk=>exact False.elim hr
  |cont=>exact False.elim hr
theorem Zn6 {env:Env} {h:AH} {w:Wd} {E:XK} {n:Nat} {Q:VK} (q:Za4 g w n (Zji call' kk fm env h) E (PV g Q)):∃fs,env[0]? =some (.v (.ins kk fs))∧Zji call' kk fm env h=call'.f true fm [.ins kk fs] h:=by
 unfold Zji at q⊢
 split at q
 ·rename_i c fs r
  split at q
  ·rename_i hc
   subst hc
   exact⟨fs,rfl,if_pos rfl⟩
  ·exact q.elim
 ·exact q.elim
theorem Zov (G:GX g true k X) (tk:Zfd false X (fun cls d σ H=>E σ cls d H)) (henv:X.env=ksEnv qual scope L f (.ref cda) cc) (S:Zcw N ps scope)
  (lk:X.K.lookup f=some ⟨oc,od,.func (ksFn nm qual params fbody scope dV kV doc pm an (.ref cda) ct cc),osl⟩) (hcode:X.K.lookup cda=some ⟨ocd,odd,.fields vs,osd⟩) (hvs:vs[2]? =some (.str file tf)) (hfile:((X.prog.main.file:Str) == file)=true)
  (htop:(X.prog.main.scope.names.lookup ("super":Str)).isSome=false) (hcell:X.K.lookup cc=some ⟨cl,cld,.cell (some (.ref (g.cb kk))),csl⟩) (hpar:(params.posonlyargs++params.args).head? =some ar) (har:ar.arg=sx) (hsx:scope.names.lookup sx=some .local)
  (hx0:X.N[0]? =some sx) (hmg:X.mg "super"=none) (opq:nsIn X.K cStatics "thirdparty.any"=some none) (hD:clsIn X.K (g.cb kk)=some cd) (mro:mroIn X.K (g.cb kk) (.ref (g.cb kk))=some true) (C:Cls X.K (g.cb kk))
  (hm:ks_superIn X.K (g.cb kk) (g.cb kk) mn=some (some (.ref fB))) (htB:typeIn X.K (.ref fB)=some (.type "function")) (hfi:fnIn X.K fB=true) (hfB:fB=g.fa fm) (hne:(mn == ("__class__":Str))=false)
  (F:FnG false X.prog X.w X.K X.mg X.base k true (g.fa fm) (g.fd fm) (g.fps fm) (spF g call' true fm)) (hkb:KB g fm 1 [] [0]) (hps:(g.fps fm).length=1) (hl24:(p2.endLine == p4.line)=true)
  {v2:Expr} {l:List Expr} {rr':List Nat→Run D} {p5 p6 p7:Pos} (J:FJ X g E (v2::l) rr'):
  PSat X body (.Return (some (.JoinedStr (.FormattedValue (.Call (.Attribute (.Call (.Name "super" p0) [] [] p1) mn p2) [] [] p4) (-1) none p5::v2::l) p6)) p7) (fun D σ H=>tE g E (Zle (Zji call' kk fm) rr' []) σ H fun v H'=>D.rt v H'):=by
 intro pins s σ H D I ⟨w,env,h,rr,re,q⟩
 obtain⟨ts,pj,hh⟩:=J.ex
 have st:tE g E (Zji call' kk fm) σ H (fun x H1=>(∃y:Str,x=.str y∧y.length≤sizeLine∧(stt []++y).length≤sizeLine∧tJs ts (stt []++y) σ H1 fun s H'=>D.rt (.str s) H')∨∃i:Int,x=.int i∧i.natAbs.log2 < 1920∧(Str.ofString (toString i)).length≤sizeLine∧(stt []++Str.ofString (toString i)).length≤sizeLine∧tJs ts (stt []++Str.ofString (toString i)) σ H1 fun s H'=>D.rt (.str s) H'):=by
  refine Zku rr re rfl q fun w1 h1 H1 x v s rr1 re1 rv hf hl ho2 q1=>?_
  have lz:(stt []++stt s).length≤sizeLine:=by rw[Zdm,Zbk,Zcy]; exact hl
  have ls:(stt s).length≤sizeLine:=by
   rw[Zbk,Zcy]
   rw[Zal] at hl
   omega
  have go:tJs ts (stt []++stt s) σ H1 (fun s H'=>D.rt (.str s) H'):=by
   rw[Zdm]
   exact hh _ w1 env h1 σ H1 (fun v H'=>D.rt v H') ho2 rr1 re1 q1
  rcases (ZfO (H:=H1) rv hf).2 with⟨_,rfl⟩ |⟨i,rfl,hi,es⟩
  ·exact .inl ⟨stt s,rfl,ls,lz,go⟩
  ·exact .inr ⟨i,rfl,hi,by rw[es]; exact ls,by rw[es]; exact lz,by rw[es]; exact go⟩
 obtain⟨w1,env1,h1,rr1,re1,q1⟩:=st
 obtain⟨fs,e0,e1⟩:=Zn6 q1
 rw[e1] at q1
 refine ks_wpAt_Return_some (ZnT (ZnU (ks_wpAt_mono (at_sup G tk henv S lk hcode hvs hfile htop hcell hpar har hsx hx0 hmg opq hD mro C hm htB hfi hfB hne F hkb hps hl24 I ⟨w1,env1,h1,fs,rr1,re1,e0,q1⟩) (fun u s1 ⟨x,H1,I1,r1,q2⟩=>?_) fun _ _ z=>z)))
 rcases q2 with⟨y,rfl,hz,hz2,q3⟩ |⟨i,rfl,hi,hz,hz2,q3⟩
 ·obtain⟨t,rfl⟩:=r1
  exact wpAny_formatField_str ⟨y,t,rfl,hz,pj_run pj _ _ H1 (fun s H'=>D.rt (.str s) H') _ hz2 I1 q3 fun out s2 H2 hz3 I2 q4=>⟨hz3,.str out,σ,H2,I2.tok _,⟨_,rfl⟩,q4⟩⟩
   ⟨y,_,rfl,hz,pj_run pj _ _ H1 (fun s H'=>D.rt (.str s) H') _ hz2 (I1.tok _) q3 fun out s2 H2 hz3 I2 q4=>⟨hz3,.str out,σ,H2,I2.tok _,⟨_,rfl⟩,q4⟩⟩ hz
 ·obtain⟨t,rfl⟩:=r1
  exact wpAny_formatField_int hi ⟨_,_,rfl,hz,pj_run pj _ _ H1 (fun s H'=>D.rt (.str s) H') _ hz2 (I1.tok _) q3 fun out s2 H2 hz3 I2 q4=>⟨hz3,.str out,σ,H2,I2.tok _,⟨_,rfl⟩,q4⟩⟩
end
end Rk
/-! Rk.Pd:the law's promise. -/
namespace Rk
open PySem PySem.Spec PyProof.Rows L2
section
variable {P:Program} {w:World} {K:PySem.W.Frag} {h:Heap} {mg:Str→Option Value} {p:Pg} {base:Heap}
theorem ZfB {d:DE} {k:Nat} {L:Zd6} (hk:ZeO p d k L=true):ZpX d.N d.dd.scope L.scope L.params (p.G.lamw k)∧(ZoR L.params).isSome=true∧chE (p.tb true Zb1) d.N (p.G.lam k) ⟨L.scope.names,false,true,false⟩ L.body=true:=by
 unfold ZeO at hk
 split at hk
 ·rename_i t ws hl
  simp only[Zaa] at hk
  have e1:p.G.lamw k=ws:=by show ((p.lams[k]?).map (·.2)).getD []=_; rw[hl]; rfl
  have e2:p.G.lam k=t:=by show ((p.lams[k]?).map (·.1)).getD _=_; rw[hl]; rfl
  rw[e1,e2]
  exact⟨ZlW hk.1.1,hk.1.2,hk.2⟩
 ·cases hk
theorem isRef {v:Value} (h:(match v with
  | .ref _=>true
  |_=>false)=true):∃c,v=.ref c:=by
 cases v<;>first |exact⟨_,rfl⟩ |cases h
theorem ZlN (ok:p.ok P=true) (hw:p.why=none) {d:DE} (hd:d∈p.ds):d.lam=false:=by
 have q:=(Zb6 ok).2.2.2.2.2.2.2
 unfold Pg.whyOk at q
 rw[hw] at q
 have z:=Zaj.mp q d hd
 simpa using z
def All (p:Pg) (P:Program) (w:World) (K:PySem.W.Frag) (mg:Str→Option Value) (base:Heap) (k:Nat):Prop:=Zlf p P w K mg base k∧ZmC p P w K mg base k∧(ZmD p P w K mg base k∧ZmE p P w K mg base k∧ZpQ p P w K mg base k∧ZpR p P w K mg base k)∧PromS p P w K mg base k∧ZmF p P w K mg base k
theorem Zpc {k:Nat} {x qual:Str} {params:Arguments} {body:List Stmt} {scope:Scope} {dvs:List V} {kws:List (Str × V)} {f:Addr} {fd:FuncData} {N ps:List Str} {sp:Sp} (F:FunD K x qual params body scope dvs kws f fd) (S:FnScope N ps scope) (no:∀vs H Q E,sp vs H Q E→False):FnG false P w K mg base k true f fd ps sp:=by
 obtain⟨oc,od,dV,kV,doc,pm,an,cdv,ct,osl,rfl,lk,hcd,_,_⟩:=F.ex
 constructor
 intro A outer s H args Q E G room calm e0 hb hsp
 have inK:K.In s.heap:=e0.mod.kin.keeps fun b o e=>(e0.bs b o e).1
 have hdep:A.depth < recursionLimit:=by have:=room.dp; omega
 refine codeAny_call_function hdep (inK _ _ lk) rfl S.co S.gen rfl (PySem.W.codeRec_of inK hcd) (hb _ _ _ ?_)
 intro s2 H2 vs us e2 un ho hx rel hlen hg
 exact (no _ _ _ _ (hsp _ _ hg)).elim
theorem Zih {k:Nat} {x qual:Str} {params:Arguments} {body:List Stmt} {scope:Scope} {dvs:List V} {kws:List (Str × V)} {f:Addr} {fd:FuncData} {N ps:List Str} {sp:Sp} (F:FunD K x qual params body scope dvs kws f fd) (S:L2.GScope N ps scope) (no:∀vs H Q E,sp vs H Q E→False):FnG false P w K mg base k true f fd ps sp:=by
 obtain⟨oc,od,dV,kV,doc,pm,an,cdv,ct,osl,rfl,lk,hcd,_,_⟩:=F.ex
 constructor
 intro A outer s H args Q E G room calm e0 hb hsp
 have inK:K.In s.heap:=e0.mod.kin.keeps fun b o e=>(e0.bs b o e).1
 have hdep:A.depth < recursionLimit:=by have:=room.dp; omega
 refine codeAny_call_generator hdep (inK _ _ lk) rfl S.co S.gen rfl (PySem.W.codeRec_of inK hcd) (hb _ _ _ ?_)
 intro s2 H2 vs us e2 un ho hx rel hlen hg
 exact (no _ _ _ _ (hsp _ _ hg)).elim
theorem Zmj {k:Nat} {C cc:Addr} {x qual:Str} {params:Arguments} {body:List Stmt} {scope:Scope} {dvs:List V} {kws:List (Str × V)} {f:Addr} {fd:FuncData} {N ps:List Str} {sp:Sp} (F:Zk8 P K C x qual params body scope dvs kws f fd cc) (S:Zcw N ps scope) (no:∀vs H Q E,sp vs H Q E→False):FnG false P w K mg base k true f fd ps sp:=by
 obtain⟨oc,od,dV,kV,doc,pm,an,cda,ct,osl,rfl,lk,hcd,_⟩:=F.ex
 constructor
 intro A outer s H args Q E G room calm e0 hb hsp
 have inK:K.In s.heap:=e0.mod.kin.keeps fun b o e=>(e0.bs b o e).1
 have hdep:A.depth < recursionLimit:=by have:=room.dp; omega
 refine codeAny_call_function hdep (inK _ _ lk) rfl S.co S.gen rfl (PySem.W.codeRec_of inK hcd) (hb _ _ _ ?_)
 intro s2 H2 vs us e2 un ho hx rel hlen hg
 exact (no _ _ _ _ (hsp _ _ hg)).elim
theorem Zg7 {g:G} {call:Cl} {c:Bool} {b:Ss} {env:Env} {h:AH} (e:ZhR b=true):fin (evSs g call c b env h)=.stuck:=by
 unfold ZhR at e
 split at e
 ·rfl
 ·cases e
theorem xeG_cx {N:List Str} {qual:Str} {scope:Scope} {f:Addr} {cd:Value} {A:Around} {outer:List PySem.Env} {s:Shared} {H:Hp} {E:XK} {base:Heap} {mg:Str→Option Value}:XeG (cxOf (L2.CX P w) P w K mg base N qual scope f cd A outer s H E):=fun e s2 Kf hK c z=>
 wpAny_mono (Zjc c z) (fun _ s1 ⟨s3,e1,c3,q⟩=>e1 ▸ Znx hK q) fun _ s1 ⟨s3,e1,c3,q⟩=>e1 ▸ Znx hK q
theorem ZcG {g:Gi} {w:Wd} {n:Nat} {ds:List D} {vs:List V} {N:List Str} {x:Addr} (hx:g.me=some x) (r:RVs g w n ds vs) (m:Nat) (hm:m=N.length - (vs.length+1)):RE g w n (.me::(ds.map .v++List.replicate m .no)) (L2.start N (.ref x::vs)):=by
 unfold L2.start
 refine⟨?_,fun i d o e1 e2=>?_⟩
 ·simp only[Zae,Zal,Zac,ZbQ,r.length,hm]
  omega
 ·cases i with
  |zero=>
   cases e1
   cases e2
   exact⟨x,hx,rfl⟩
  |succ i=>
   rw[Zaq] at e1
   rw[Zap,ZaF,Zaq] at e2
   by_cases hi:i < ds.length
   ·rw[Zbe (by simpa using hi),ZaK] at e1
    obtain⟨d',h1,h2⟩:=Zan.mp e1
    cases h2
    obtain⟨v,h3,h4⟩:=r.get h1
    rw[Zbe (by rw[Zac,r.length]; exact hi),ZaK,h3] at e2
    cases e2
    exact⟨v,rfl,h4⟩
   ·rw[ZdJ (by simpa using hi),Zb8] at e1
    split at e1
    ·cases e1; trivial
    ·cases e1
theorem Zev (S:Zc6 p P w K h) (ok:p.ok P=true) {c:CE} (hc:c∈p.cs') (hsb:c.sb=none):∃fd,FunD K c.dd.name c.dd.qual c.dd.params c.dd.body c.dd.scope (c.dd.dvs K) (c.dd.kws K) (He.ma K (He.ga K c.name) "__init__") fd:=by
 obtain⟨i,hi,e⟩:=ZgI.mp (show c.dd∈p.defs from Zam _ (Zah.mpr ⟨c,Zbj.mpr ⟨hc,by rw[hsb]; rfl⟩,rfl⟩))
 obtain⟨fd,F⟩:=S.d.def_ i (d:=c.dd) (by rw[Zad hi,e])
 have T:=ceT (K:=K) ok hc
 have q:=(Zb6 ok).2.2.2.2.2.1 c hc
 unfold CE.ok at q
 simp only[Zaa,Zab] at q
 have ea:=q.1.1.1.1.1.1.1.2
 have e3:He.fAd K c.dd.at_=He.ma K (He.ga K c.name) "__init__":=by rw[ea]; rfl
 rw[e3] at F
 exact⟨fd,F⟩
theorem ZiH {α:Type} {us ds:List α}:ZbU (List.range us.length) (us++ds)=some us:=by
 have key:∀(m i:Nat),i+m=us.length→ZbU ((List.range m).map (i+ ·)) (us++ds)=some (us.drop i):=by
  intro m
  induction m with
  |zero=>intro i hi; rw[ZeV (by omega)]; rfl
  |succ m ih=>
   intro i hi
   have hlt:i < us.length:=by omega
   rw[List.range_succ_eq_map,Zap,Zb3]
   have e:((fun x=>i+x)∘Nat.succ)=fun x=>(i+1)+x:=by funext x; show i+(x+1)=_; omega
   rw[e]
   unfold ZbU
   rw[Nat.add_zero,Zbe hlt,Zad hlt,ih (i+1) (by omega),Zbm hlt]
 have z:=key us.length 0 (Zbt _)
 rw[List.drop_zero] at z
 rw[← z]
 congr 1
 exact (List.map_id' _).symm.trans (Zdt fun x _=>(Zbt x).symm)
theorem Zjf {g:G} {call:Cl} {c:Bool}:∀{args:Es} {env:Rk.Env} {h:AH} {x:Rk.D} {h':AH},Zlj args=true→evEs g call c args env h≠ .exc x h'
 | .nil,env,h,x,h',_=>by unfold evEs; exact fun z=>nomatch z
 | .cons (.var i) r,env,h,x,h',e=>by
  unfold evEs evE
  have l:∀y h2,ldV env i h≠ .exc y h2:=fun y h2=>by
   unfold ldV
   split<;>exact fun z=>nomatch z
  cases hl:ldV env i h with
  |ok d h2=>
   rw[bind_ok]
   cases hr:evEs g call c r env h2 with
   |ok l h3=>exact fun z=>nomatch z
   |exc y h3=>exact absurd hr (Zjf (args:=r) e)
   |stuck=>exact fun z=>nomatch z
  |exc y h2=>exact absurd hl (l y h2)
  |stuck=>exact fun z=>nomatch z
theorem Zn5 {l:List Stmt} {es:List Expr} {rest:List Stmt} (h:supT l=some (es,rest)):∃p0 p1 p2 p4 p5,l=.Expr (.Call (.Attribute (.Call (.Name "super" p0) [] [] p1) "__init__" p2) es [] p4) p5::rest∧(p2.endLine == p4.line)=true:=by
 unfold supT at h
 split at h
 ·split at h
  ·rename_i hc
   obtain⟨rfl,rfl,hl⟩:=hc
   cases h
   exact⟨_,_,_,_,_,rfl,by rw[hl]; exact ZaB _⟩
  ·cases h
 ·cases h
theorem ZjP {c:CE} {b:Nat} (h:c.okS p b=true):∃args r es rest cb,c.ct.items=.sup b args::r∧supT c.dd.body=some (es,rest)∧p.cs'[b]? =some cb∧Zcw c.N c.ps c.dd.scope∧Zlj args=true∧cb.sb=none∧ZdK es=true∧0 < es.length∧es.length < 29∧
  chEs (p.tb true Zb1) c.N args ⟨c.dd.scope.names,false,false,false⟩ es=true∧chB (p.tb true Zb1) c.N r ⟨c.dd.scope.names,false,false,false⟩ rest=true∧cb.ps.length=es.length+1∧(b,es.length,[],List.range es.length)∈p.kbc∧(∀i∈stos cb.ct.items,c.ats[i]? =some .fld)∧
  ∃ar sx,(c.dd.params.posonlyargs++c.dd.params.args).head? =some ar∧ar.arg=sx∧c.N[0]? =some sx∧c.ps[0]? =some sx:=by
 unfold CE.okS at h
 rw[Zaa] at h
 obtain⟨h1,h2⟩:=h
 split at h2
 ·rename_i b' args r es rest cb e1 e2 e3
  simp only[Zaa,Zab,Zaj] at h2
  obtain⟨⟨⟨⟨⟨⟨⟨⟨⟨⟨⟨rfl,g1⟩,g2⟩,g3⟩,g4⟩,g5⟩,g6⟩,g7⟩,g8⟩,g9⟩,g10⟩,g11⟩:=h2
  split at g11
  ·rename_i ar sx s2 f1 f2 f3
   simp only[Zaa,Zab] at g11
   obtain⟨f4,rfl⟩:=g11
   refine⟨args,r,es,rest,cb,e1,e2,e3,Ze2 h1,g1,Za3.mp g2,g3,g4,g5,g6,g7,g8,Zax.mp g9,fun i hi=>?_,ar,sx,f1,f4,f2,f3⟩
   have z:=g10 i hi
   split at z
   ·rename_i e; exact e
   ·cases z
  ·cases g11
 ·cases h2
theorem Zg9 {p:Pg} {kk:Nat} {c:CE} {z:Nat × Nat × Nat} (hkk:p.cs'[kk]? =some c) (hct:c.ctt=some z) (i:Nat):∀vs h,(cN p.G (i+2)).make kk vs h=.stuck:=fun vs h=>by
 show mkR p.G (cN p.G i) kk vs h=_
 unfold mkR
 rw[Znz hkk hct]
theorem mkc_no {p:Pg} {kk:Nat} {c:CE} {z:Nat × Nat × Nat} (hkk:p.cs'[kk]? =some c) (hct:c.ctt=some z) (i:Nat):∀vs h,(cN p.G (i+2)).mkc kk vs h=.stuck:=fun vs h=>by
 show mkRc p.G (cN p.G i) kk vs h=_
 unfold mkRc
 rw[Znz hkk hct]
theorem Zlr (S:Zc6 p P w K h) (ns:h.Ns mainGlobals mg) (ok:p.ok P=true) (bd:p.bd) (i:Nat) (pr:All p P w K mg base i):PromS p P w K mg base (i+2):=by
 intro kk c b cb hkk hsb hb
 obtain⟨args,r,es,rest,cb',e1,e2,e3,Sc',g1,g2,g3,g4,g5,g6,g7,g8,g9,g10,_⟩:=ZjP ((ceT (K:=K) ok (Za2 hkk)).ss b hsb)
 rw[hb] at e3
 cases e3
 cases hct:cb.ctt with
 |some z=>exact .inl (Zg9 hb hct i)
 |none=>
 have hc:=Za2 hb
 have T:=ceT (K:=K) ok hc
 obtain⟨fd,F⟩:=Zev S ok hc g2
 refine .inr ⟨i+1,fd,rfl,ZeK.of F,?_⟩
 have Sc:=T.sc g2
 refine Zgw F Sc fun cdv A outer s H vs Q E hcdv room calm hlen hsp=>?_
 obtain⟨wd,ds,h1,x,dx,us,rfl,N,rvs,q⟩:=hsp
 let X:Cx:=cxOf (L2.CX P w) P w K mg base cb.N cb.dd.qual cb.dd.scope (He.ma K (He.ga K cb.name) "__init__") cdv A outer s H E
 have hcc:=Za2 hkk
 have cl:Cls X.K (((Za5 p K).at [] X.env.cells X.env.qual (fun _ _=>False) (some x)).cb kk):=by
  have e:((Za5 p K).at [] X.env.cells X.env.qual (fun _ _=>False) (some x)).cb kk=He.ga K c.name:=Zdq hkk
  rw[e]
  exact He.cls_ok (ZfR S (ZcQ hcc (by simp[CE.fa])))
 refine⟨ZhC (FNs ((Za5 p K).at [] X.env.cells X.env.qual (fun _ _=>False) (some x)) kk x dx) ((Za5 p K).at [] X.env.cells X.env.qual (fun _ _=>False) (some x)) E kk x dx fun env fs h=>evB p.G (cN p.G i) true cb.ct.items env fs h,?_,?_⟩
 ·refine ZeA (k:=i) (tb:=p.tb true Zb1) (N:=cb.N) (nm:=⟨cb.dd.scope.names,false,false,false⟩) (X:=X) ZkW rfl rfl cl cb.ct.items ?_ _ (fun j hj=>?_) (T.ck g2 hct)
  ·exact {toCK:=ZkN (X:=X) S ns ok bd pr.1 room Sc.nd rfl rfl Sc.kind (fun _=>rfl) (fun _ z=>absurd z (by simp)) (fun _=>rfl) (fun z=>nomatch z) (Zc4 S ns ok bd (fun _=>pr.1) (fun _=>pr.2.1) (fun _=>pr.2.2.1)) (fun z=>nomatch z)
          fn:=.inl fun _=>rfl
          po:=passes_of rfl
          tk:=takes_of (E:=E) rfl rfl rfl rfl
          xg:=fun z=>nomatch z
          tr:=fun z=>nomatch z}
  ·show ((p.cs'[kk]?).bind fun c=>c.ats[j]?).getD .no=.fld
   rw[hkk]
   simp only[ZaE]
   rw[g10 j hj]
   rfl
 ·have eg:p.G.ctr b=some cb.ct:=ZgB hb hct
  have e1:(cN p.G (i+2)).make b ds h1=if ds.length=cb.ct.np then (evB p.G (cN p.G i) true cb.ct.items (.me::(ds.map .v++List.replicate (cb.ct.nb - (cb.ct.np+1)) .no)) [] h1).bind fun fs h=>.ok (.ins b fs) h else .stuck:=by
   show mkR p.G (cN p.G i) b ds h1=_
   unfold mkR
   rw[eg]
  rw[e1] at q
  obtain⟨hl,q⟩:=Zbx q
  refine⟨wd,_,h1,[],[],by rw[Zg6]; exact N,ZcG rfl (by rw[Zcc]; exact rvs) (cb.ct.nb - (cb.ct.np+1)) ?_,rfl,(by rw[ZcN]; exact Zch.mpr rfl),?_⟩
  ·rw[T.nb,rvs.length,hl]
  ·rw[ZbN]
   refine (Za4.bind q).mono fun w3 h3 H3 fs ext rr3 q3 gs' N' rf' σ'=>?_
   rw[Zg6] at N'
   rw[ZcN] at rf'
   exact q3.now rr3 fs gs' rfl N' rf'
theorem Zma (S:Zc6 p P w K h) (ns:h.Ns mainGlobals mg) (ok:p.ok P=true) (bd:p.bd) (i:Nat) (pr:All p P w K mg base i):ZmE p P w K mg base (i+2):=by
 intro kk c hkk hsb
 cases hct:c.ctt with
 |some z=>exact .inl (Zg9 hkk hct i)
 |none=>
 have hc:=Za2 hkk
 have T:=ceT (K:=K) ok hc
 obtain⟨fd,F⟩:=Zev S ok hc hsb
 refine .inr ⟨i+1,fd,rfl,ZeK.of F,?_⟩
 have Sc:=T.sc hsb
 refine Zgw F Sc fun cdv A outer s H vs Q E hcdv room calm hlen hsp=>?_
 obtain⟨wd,ds,h1,x,dx,us,rfl,N,rvs,q⟩:=hsp
 let X:Cx:=cxOf (L2.CX P w) P w K mg base c.N c.dd.qual c.dd.scope (He.ma K (He.ga K c.name) "__init__") cdv A outer s H E
 have cl:Cls X.K (((Za5 p K).at [] X.env.cells X.env.qual (fun _ _=>False) (some x)).cb kk):=by
  have e:((Za5 p K).at [] X.env.cells X.env.qual (fun _ _=>False) (some x)).cb kk=He.ga K c.name:=Zdq hkk
  rw[e]
  exact He.cls_ok (ZfR S (ZcQ hc (by simp[CE.fa])))
 refine⟨ZhC (FNs ((Za5 p K).at [] X.env.cells X.env.qual (fun _ _=>False) (some x)) kk x dx) ((Za5 p K).at [] X.env.cells X.env.qual (fun _ _=>False) (some x)) E kk x dx fun env fs h=>evB p.G (cN p.G i) true c.ct.items env fs h,?_,?_⟩
 ·refine ZeA (k:=i) (tb:=p.tb true Zb1) (N:=c.N) (nm:=⟨c.dd.scope.names,false,false,false⟩) (X:=X) ZkW rfl rfl cl c.ct.items ?_ _ (fun j hj=>?_) (T.ck hsb hct)
  ·exact {toCK:=ZkN (X:=X) S ns ok bd pr.1 room Sc.nd rfl rfl Sc.kind (fun _=>rfl) (fun _ z=>absurd z (by simp)) (fun _=>rfl) (fun z=>nomatch z) (Zc4 S ns ok bd (fun _=>pr.1) (fun _=>pr.2.1) (fun _=>pr.2.2.1)) (fun z=>nomatch z)
          fn:=.inl fun _=>rfl
          po:=passes_of rfl
          tk:=takes_of (E:=E) rfl rfl rfl rfl
          xg:=fun z=>nomatch z
          tr:=fun z=>nomatch z}
  ·show ((p.cs'[kk]?).bind fun c=>c.ats[j]?).getD .no=.fld
   rw[hkk]
   simp only[ZaE]
   rw[T.st j hj]
   rfl
 ·have eg:p.G.ctr kk=some c.ct:=ZgB hkk hct
  have e1:(cN p.G (i+2)).make kk ds h1=if ds.length=c.ct.np then (evB p.G (cN p.G i) true c.ct.items (.me::(ds.map .v++List.replicate (c.ct.nb - (c.ct.np+1)) .no)) [] h1).bind fun fs h=>.ok (.ins kk fs) h else .stuck:=by
   show mkR p.G (cN p.G i) kk ds h1=_
   unfold mkR
   rw[eg]
  rw[e1] at q
  obtain⟨hl,q⟩:=Zbx q
  refine⟨wd,_,h1,[],[],by rw[Zg6]; exact N,ZcG rfl (by rw[Zcc]; exact rvs) (c.ct.nb - (c.ct.np+1)) ?_,rfl,(by rw[ZcN]; exact Zch.mpr rfl),?_⟩
  ·rw[T.nb,rvs.length,hl]
  ·rw[ZbN]
   refine (Za4.bind q).mono fun w3 h3 H3 fs ext rr3 q3 gs' N' rf' σ'=>?_
   rw[Zg6] at N'
   rw[ZcN] at rf'
   exact q3.now rr3 fs gs' rfl N' rf'
theorem Za4.ok_map {α β:Type} {g:Gi} {w:Wd} {n:Nat} {X:XK} {r:Res α} {f:α→β} {P:Wd→AH→Hp→α→Prop} {P':Wd→AH→Hp→β→Prop} (q:Za4 g w n r X P) (k:∀w' h' H' a,P w' h' H' a→P' w' h' H' (f a)):Za4 g w n (r.bind fun a h=>.ok (f a) h) X P':=by
 cases r with
 |ok a h=>exact fun w' H' e rr=>k _ _ _ _ (q w' H' e rr)
 |exc x h=>exact q
 |stuck=>exact q
theorem Za4.eq_of {α:Type} {g:Gi} {w:Wd} {n:Nat} {X:XK} {r r':Res α} {P:Wd→AH→Hp→α→Prop} (q:Za4 g w n r X P) (e:r'=r):Za4 g w n r' X P:=e ▸ q
theorem inn_sh (r:Res (List (Nat × D))) (e:AH→Res D) (q:List (Nat × D)→D→AH→Res D):(r.bind fun fs h=>(e h).bind fun v h=>(q fs v h).bind fun _ h'=>.ok [((0:Nat),D.ref h.nx)] h')=((r.bind fun fs h=>(e h).bind fun v h=>(q fs v h).bind fun _ h'=>.ok (D.ref h.nx) h').bind fun a h=>.ok [((0:Nat),a)] h):=by
 cases r with
 |ok fs h2=>
  show ((e h2).bind fun v h=>(q fs v h).bind fun _ h'=>.ok [((0:Nat),D.ref h.nx)] h')=(((e h2).bind fun v h=>(q fs v h).bind fun _ h'=>.ok (D.ref h.nx) h').bind fun a h=>.ok [((0:Nat),a)] h)
  cases e h2 with
  |ok v h3=>
   show ((q fs v h3).bind fun _ h'=>.ok [((0:Nat),D.ref h3.nx)] h')=(((q fs v h3).bind fun _ h'=>.ok (D.ref h3.nx) h').bind fun a h=>.ok [((0:Nat),a)] h)
   cases q fs v h3<;>rfl
  |exc _ _=>rfl
  |stuck=>rfl
 |exc _ _=>rfl
 |stuck=>rfl
theorem Zl6 (S:Zc6 p P w K h) (ns:h.Ns mainGlobals mg) (ok:p.ok P=true) (bd:p.bd) (i:Nat) (pr:All p P w K mg base i):ZpR p P w K mg base (i+2):=by
 intro kk c hkk hsb
 cases hct:c.ctt with
 |none=>
  refine .inl fun vs h=>?_
  show mkH p.G (cN p.G i) kk vs h=_
  unfold mkH
  rw[ctt_no hkk hct]
 |some z=>
 have hc:=Za2 hkk
 have T:=ceT (K:=K) ok hc
 obtain⟨fd,F⟩:=Zev S ok hc hsb
 refine .inr ⟨i+1,fd,rfl,ZeK.of F,?_⟩
 have Sc:=T.sc hsb
 refine Zgw F Sc fun cdv A outer s H vs Q E hcdv room calm hlen hsp=>?_
 obtain⟨wd,ds,h1,x,dx,us,rfl,N,rvs,q⟩:=hsp
 let X:Cx:=cxOf (L2.CX P w) P w K mg base c.N c.dd.qual c.dd.scope (He.ma K (He.ga K c.name) "__init__") cdv A outer s H E
 have cl:Cls X.K (((Za5 p K).at [] X.env.cells X.env.qual (fun _ _=>False) (some x)).cb kk):=by
  have e:((Za5 p K).at [] X.env.cells X.env.qual (fun _ _=>False) (some x)).cb kk=He.ga K c.name:=Zdq hkk
  rw[e]
  exact He.cls_ok (ZfR S (ZcQ hc (by simp[CE.fa])))
 have SK:SKx X ((Za5 p K).at [] X.env.cells X.env.qual (fun _ _=>False) (some x)) p.G (p.tb true Zb1) c.N (cN p.G i) i ⟨c.dd.scope.names,false,false,false⟩ (fun cls d _ H=>E cls d H):=
  {toCK:=ZkN (X:=X) S ns ok bd pr.1 room Sc.nd rfl rfl Sc.kind (fun _=>rfl) (fun _ z=>absurd z (by simp)) (fun _=>rfl) (fun z=>nomatch z) (Zc4 S ns ok bd (fun _=>pr.1) (fun _=>pr.2.1) (fun _=>pr.2.2.1)) (fun z=>nomatch z)
   fn:=.inl fun _=>rfl
   po:=passes_of rfl
   tk:=takes_of (E:=E) rfl rfl rfl rfl
   xg:=fun z=>nomatch z
   tr:=fun z=>nomatch z}
 obtain⟨hs,hcb,hlast⟩:=T.cl hsb z hct
 obtain⟨zi,zq,zj⟩:=z
 unfold Zj8 at hlast
 dsimp only at hlast
 split at hlast
 rotate_left
 ·cases hlast
 rename_i s0 p1 at' p3 x0 p2 pos hgl
 simp only[Zaa,Zab] at hlast
 obtain⟨⟨⟨⟨⟨k1,k2⟩,k3⟩,k4⟩,k5⟩,k6⟩:=hlast
 obtain⟨rfl,hlt⟩:=SK.toCK.an zi at' k1
 have A:=SK.toCK.cl.sp rfl zi k2
 have hq:p.G.pst kk zi=some zq:=by
  show ((p.cs'[kk]?).bind fun c=>c.pst.lookup zi)=_
  rw[hkk,ZaE]
  exact k3
 have ev:∀j,evE p.G (cN p.G i) true (.var j)=fun env h=>ldV env j h:=fun j=>by
  funext env h
  conv=>lhs; unfold evE
 have he:=ZaS (.var zj) SK.toCK SK.tk' _ k6
 have ho:=ZaS (.var 0) SK.toCK SK.tk' _ k5
 rw[show (p.tb true Zb1).c=true from rfl,ev] at he ho
 have eb:c.dd.body=c.dd.body.dropLast++[.Assign [.Attribute (.Name s0 p1) (((Za5 p K).at [] X.env.cells X.env.qual (fun _ _=>False) (some x)).an zi) p3] (.Name x0 p2) pos]:=by
  obtain⟨ys,hys⟩:=List.getLast?_eq_some_iff.mp hgl
  rw[hys,List.dropLast_concat]
 refine⟨ZhC (FNn ((Za5 p K).at [] X.env.cells X.env.qual (fun _ _=>False) (some x)) x) ((Za5 p K).at [] X.env.cells X.env.qual (fun _ _=>False) (some x)) E kk x dx fun env fs h=>(evB p.G (cN p.G i) true c.ct.items env fs h).bind fun fs h=>(ldV env zj h).bind fun v h=>((cN p.G i).pr zq [.ref h.nx,v] (h.new (.ins kk fs))).bind fun _ h'=>.ok [(0,.ref h.nx)] h',?_,?_⟩
 ·show PSs X c.dd.body _
  rw[eb]
  refine ZkR (k:=i) (tb:=p.tb true Zb1) (N:=c.N) (nm:=⟨c.dd.scope.names,false,false,false⟩) (X:=X) (ZpH (c:=true) SK.toCK.gx SK.tk rfl A hq he ho rfl k4) rfl rfl cl c.ct.items SK _ hs (fun j hj=>?_) hcb
  show ((p.cs'[kk]?).bind fun c=>c.ats[j]?).getD .no=.fld
  rw[hkk]
  simp only[ZaE]
  rw[T.st j hj]
  rfl
 ·have e1:(cN p.G (i+2)).hm kk ds h1=if ds.length=c.ct.np then (evB p.G (cN p.G i) true c.ct.items (.me::(ds.map .v++List.replicate (c.ct.nb - (c.ct.np+1)) .no)) [] h1).bind fun fs h=>(evE p.G (cN p.G i) true (.var zj) (.me::(ds.map .v++List.replicate (c.ct.nb - (c.ct.np+1)) .no)) h).bind fun v h=>((cN p.G i).pr zq [.ref h.nx,v] (h.new (.ins kk fs))).bind fun _ h'=>.ok (.ref h.nx) h' else .stuck:=by
   show mkH p.G (cN p.G i) kk ds h1=_
   unfold mkH
   rw[ctt_at hkk hct]
  rw[e1] at q
  obtain⟨hl,q⟩:=Zbx q
  refine⟨wd,(.me::(ds.map .v++List.replicate (c.ct.nb - (c.ct.np+1)) .no)),h1,[],[],by rw[Zg6]; exact N,ZcG rfl (by rw[Zcc]; exact rvs) (c.ct.nb - (c.ct.np+1)) ?_,rfl,(by rw[ZcN]; exact Zch.mpr rfl),?_⟩
  ·rw[T.nb,rvs.length,hl]
  ·rw[ZbN]
   rw[ev] at q
   have q2:=Za4.ok_map (f:=fun d:D=>[((0:Nat),d)]) q (P':=FNn (Za5 p K) x {nx:=fun _ H'=>Q .non H',rt:=Q}) fun w' h' H' d k d' e rv σ'=>by
    cases e
    exact k rv
   exact Za4.eq_of (q2.mono fun w' h' H' d _ _ z d' e rv σ'=>z d' e (by rw[ZdP] at rv; exact rv) σ') (inn_sh _ _ _)
theorem Zl9 (S:Zc6 p P w K h) (ns:h.Ns mainGlobals mg) (ok:p.ok P=true) (bd:p.bd) (i:Nat) (pr:All p P w K mg base i) {kk:Nat} {c:CE} (hkk:p.cs'[kk]? =some c) (hsb:c.sb=none) (hct:c.ctt=none):
  ∃j fd,i+2=j+1∧ZeK K c.dd.name c.dd.qual c.dd.params c.dd.body c.dd.scope (c.dd.dvs K) (c.dd.kws K) fd∧FnG false P w K mg base j true (He.ma K (He.ga K c.name) "__init__") fd c.ps (spI (Za5 p K) (cN p.G (i+2)) kk):=by
 have hc:=Za2 hkk
 have T:=ceT (K:=K) ok hc
 obtain⟨fd,F⟩:=Zev S ok hc hsb
 refine⟨i+1,fd,rfl,ZeK.of F,?_⟩
 have Sc:=T.sc hsb
 refine Zgw F Sc fun cdv A outer s H vs Q E hcdv room calm hlen hsp=>?_
 obtain⟨wd,ds,h1,x,dx,us,rfl,fx,fdx,zx,zdx,hne,hac,rr,rvs,q⟩:=hsp
 let X:Cx:=cxOf (L2.CX P w) P w K mg base c.N c.dd.qual c.dd.scope (He.ma K (He.ga K c.name) "__init__") cdv A outer s H E
 have kc:kk < p.cs'.length:=(Zay.mp hkk).1
 have cl:Cls X.K (((Za5 p K).at [] X.env.cells X.env.qual (fun _ _=>False) (some x)).cb kk):=by
  have e:((Za5 p K).at [] X.env.cells X.env.qual (fun _ _=>False) (some x)).cb kk=He.ga K c.name:=Zdq hkk
  rw[e]
  exact He.cls_ok (ZfR S (ZcQ hc (by simp[CE.fa])))
 refine⟨tBI ((Za5 p K).at [] X.env.cells X.env.qual (fun _ _=>False) (some x)) E kk x dx fun env fs h=>evB p.G (cN p.G i) true c.ct.items env fs h,?_,?_⟩
 ·refine ZnC (k:=i) (tb:=p.tb true Zb1) (N:=c.N) (nm:=⟨c.dd.scope.names,false,false,false⟩) (X:=X) rfl rfl cl c.ct.items ?_ _ (fun j hj=>?_) (T.ck hsb hct)
  ·exact {toCK:=ZkN (X:=X) S ns ok bd pr.1 room Sc.nd rfl rfl Sc.kind (fun _=>rfl) (fun _ z=>absurd z (by simp)) (fun _=>rfl) (fun z=>nomatch z) (Zc4 S ns ok bd (fun _=>pr.1) (fun _=>pr.2.1) (fun _=>pr.2.2.1)) (fun z=>nomatch z)
          fn:=.inl fun _=>rfl
          po:=passes_of rfl
          tk:=takes_of (E:=E) rfl rfl rfl rfl
          xg:=fun z=>nomatch z
          tr:=fun z=>nomatch z}
  ·show ((p.cs'[kk]?).bind fun c=>c.ats[j]?).getD .no=.fld
   rw[hkk]
   simp only[ZaE]
   rw[T.st j hj]
   rfl
 ·have eg:p.G.ctr kk=some c.ct:=ZgB hkk hct
  have e1:(cN p.G (i+2)).make kk ds h1=if ds.length=c.ct.np then (evB p.G (cN p.G i) true c.ct.items (.me::(ds.map .v++List.replicate (c.ct.nb - (c.ct.np+1)) .no)) [] h1).bind fun fs h=>.ok (.ins kk fs) h else .stuck:=by
   show mkR p.G (cN p.G i) kk ds h1=_
   unfold mkR
   rw[eg]
  rw[e1] at q
  obtain⟨hl,q⟩:=Zbx q
  refine⟨wd,_,h1,[],[],⟨fx,fdx,zx,zdx,hne,kc,hac,by rw[Zdf]; exact rr⟩,ZcG rfl (by rw[Zcc]; exact rvs) (c.ct.nb - (c.ct.np+1)) ?_,rfl,(by rw[ZcN]; exact Zch.mpr rfl),?_⟩
  ·rw[T.nb,rvs.length,hl]
  ·rw[ZbN]
   refine (Za4.bind q).mono fun w3 h3 H3 fs ext rr3 q3 rv σ'=>?_
   rw[ZdP] at rv
   exact q3.now rr3 _ rv rfl
theorem ini_c (S:Zc6 p P w K h) (ns:h.Ns mainGlobals mg) (ok:p.ok P=true) (bd:p.bd) (i:Nat) (pr:All p P w K mg base i):ZmF p P w K mg base (i+2):=by
 intro kk c hkk
 cases hct:c.ctt with
 |some z=>exact .inl (mkc_no hkk hct i)
 |none=>
 have hc:=Za2 hkk
 have T:=ceT (K:=K) ok hc
 have eg:p.G.ctr kk=some c.ct:=ZgB hkk hct
 have e1:∀ds h1,(cN p.G (i+2)).mkc kk ds h1=if ds.length=c.ct.np then (evC p.G (cN p.G i) c.ct.items (.me::(ds.map .v++List.replicate (c.ct.nb - (c.ct.np+1)) .no)) [] h1).bind fun fs h=>.ok (.ins kk fs) h else .stuck:=fun ds h1=>by
  show mkRc p.G (cN p.G i) kk ds h1=_
  unfold mkRc
  rw[eg]
 cases hsb:c.sb with
 |some b=>
  refine .inl fun vs h1=>?_
  obtain⟨args,r,es,rest,cb',g1,_⟩:=ZjP (T.ss b hsb)
  rw[e1,g1]
  split
  ·unfold evC
   rfl
  ·rfl
 |none=>
 obtain⟨fd,F⟩:=Zev S ok hc hsb
 refine .inr ⟨i+1,fd,rfl,ZeK.of F,?_⟩
 have Sc:=T.sc hsb
 refine Zks (z:=true) F Sc fun cdv A outer s H vs Q E hcdv room calm hlen hsp=>?_
 obtain⟨wd,ds,h1,x,dx,us,rfl,fx,fdx,zx,zdx,hne,hac,rr,rvs,q⟩:=hsp
 let X:Cx:=cxOf (L2N.CX P w) P w K mg base c.N c.dd.qual c.dd.scope (He.ma K (He.ga K c.name) "__init__") cdv A outer s H E
 have kc:kk < p.cs'.length:=(Zay.mp hkk).1
 have cl:Cls X.K (((Za5 p K).at [] X.env.cells X.env.qual (fun _ _=>False) (some x)).cb kk):=by
  have e:((Za5 p K).at [] X.env.cells X.env.qual (fun _ _=>False) (some x)).cb kk=He.ga K c.name:=Zdq hkk
  rw[e]
  exact He.cls_ok (ZfR S (ZcQ hc (by simp[CE.fa])))
 refine⟨tBI ((Za5 p K).at [] X.env.cells X.env.qual (fun _ _=>False) (some x)) E kk x dx fun env fs h=>evC p.G (cN p.G i) c.ct.items env fs h,?_,?_⟩
 ·refine ZkQ (k:=i) (tb:=p.tb true Zb1) (N:=c.N) (nm:=⟨c.dd.scope.names,false,false,false⟩) (X:=X) rfl rfl cl (L2N.takes_of (E:=E) rfl rfl rfl rfl) c.ct.items ?_ _ (fun j hj=>?_) (T.ck hsb hct)
  ·exact ZkN (X:=X) S ns ok bd pr.1 room Sc.nd rfl rfl Sc.kind (fun _=>rfl) (fun _ z=>absurd z (by simp)) (fun _=>rfl) (fun z=>nomatch z) (Zc4 S ns ok bd (fun _=>pr.1) (fun _=>pr.2.1) (fun _=>pr.2.2.1)) (fun z=>nomatch z)
  ·show ((p.cs'[kk]?).bind fun c=>c.ats[j]?).getD .no=.fld
   rw[hkk]
   simp only[ZaE]
   rw[T.st j hj]
   rfl
 ·have e2:(clnC (cN p.G (i+2))).make kk ds h1=_:=e1 ds h1
  rw[e2] at q
  obtain⟨hl,q⟩:=Zbx q
  refine⟨wd,_,h1,[],[],⟨fx,fdx,zx,zdx,hne,kc,hac,by rw[Zdf]; exact rr⟩,ZcG rfl (by rw[Zcc]; exact rvs) (c.ct.nb - (c.ct.np+1)) ?_,rfl,(by rw[ZcN]; exact Zch.mpr rfl),?_⟩
  ·rw[T.nb,rvs.length,hl]
  ·rw[ZbN]
   refine (Za4.bind q).mono fun w3 h3 H3 fs ext rr3 q3 rv σ'=>?_
   rw[ZdP] at rv
   exact q3.now rr3 _ rv rfl
theorem Zl8 (S:Zc6 p P w K h) (ns:h.Ns mainGlobals mg) (ok:p.ok P=true) (bd:p.bd) (i:Nat) (pr:All p P w K mg base i) {kk:Nat} {c:CE} (hkk:p.cs'[kk]? =some c) {b:Nat} (hsb:c.sb=some b) (hct:c.ctt=none):
  ∃j fd,i+2=j+1∧ZeK K c.dd.name c.dd.qual c.dd.params c.dd.body c.dd.scope (c.dd.dvs K) (c.dd.kws K) fd∧FnG false P w K mg base j true (He.ma K (He.ga K c.name) "__init__") fd c.ps (spI (Za5 p K) (cN p.G (i+2)) kk):=by
 have hc:=Za2 hkk
 have T:=ceT (K:=K) ok hc
 obtain⟨args,r,es,rest,cb,e1,e2,e3,Sc,g1,g2,g3,g4,g5,g6,g7,g8,g9,g10,ar,sx,f1,f2,f3,f4⟩:=ZjP (T.ss b hsb)
 have SO:=S.su c hc b cb hsb e3
 obtain⟨fd,cc,FS⟩:=SO.fn
 obtain⟨p0,p1,p2,p4,p5,eb,hl24⟩:=Zn5 e2
 refine⟨i+1,fd,rfl,ZeK.ofS FS,?_⟩
 have FS2:=FS
 rw[eb] at FS2
 refine Znd FS2 Sc fun cdv A outer s H vs Q E hcdv room calm hlen hsp=>?_
 obtain⟨wd,ds,h1,x,dx,us,rfl,fx,fdx,zx,zdx,hne,hac,rr,rvs,q⟩:=hsp
 let X:Cx:=cxS (L2.CX P w) P w K mg base c.N c.dd.qual c.dd.scope (c.ini K) cdv cc A outer s H E
 have kc:kk < p.cs'.length:=(Zay.mp hkk).1
 have ecb:((Za5 p K).at [] X.env.cells X.env.qual (fun _ _=>False) (some x)).cb kk=He.ga K c.name:=Zdq hkk
 have cl:Cls X.K (((Za5 p K).at [] X.env.cells X.env.qual (fun _ _=>False) (some x)).cb kk):=by
  rw[ecb]
  exact He.cls_ok (ZfR S (ZcQ hc (by simp[CE.fa])))
 have hps1:c.ct.np+1=c.ps.length:=T.np
 have SKx:SKx X ((Za5 p K).at [] X.env.cells X.env.qual (fun _ _=>False) (some x)) p.G (p.tb true Zb1) c.N (cN p.G i) i ⟨c.dd.scope.names,false,false,false⟩ (fun cls d _ H=>E cls d H):=
  {toCK:=ZkN (X:=X) S ns ok bd pr.1 room Sc.nd rfl rfl Sc.kind (fun _=>rfl) (fun _ z=>absurd z (by simp)) (fun _=>rfl) (fun z=>nomatch z) (Zc4 S ns ok bd (fun _=>pr.1) (fun _=>pr.2.1) (fun _=>pr.2.2.1)) (fun z=>nomatch z)
   fn:=.inr fun y hy=>Sc.noc _ (PySem.mem_of_lookup hy) rfl
   po:=passes_of rfl
   tk:=takes_of (E:=E) rfl rfl rfl rfl
   xg:=fun z=>nomatch z
   tr:=fun z=>nomatch z}
 refine⟨tSup ((Za5 p K).at [] X.env.cells X.env.qual (fun _ _=>False) (some x)) E b kk x dx fun env h=>(evEs p.G (cN p.G i) true args env h).bind fun l h=>(cN p.G i).make b l h,
  tBI ((Za5 p K).at [] X.env.cells X.env.qual (fun _ _=>False) (some x)) E kk x dx fun env fs h=>evB p.G (cN p.G i) true r env fs h,?_,?_,?_⟩
 ·rcases pr.2.2.2.1 kk c b cb hkk hsb e3 with st |⟨j,fdB,ej,FB,FG⟩
  ·intro pins s σ H D I ⟨w,env,h,NN,re,hm,q⟩
   exfalso
   dsimp only at q
   cases hr:evEs p.G (cN p.G i) true args env h with
   |ok l h2=>
    rw[hr,bind_ok,st] at q
    exact q
   |exc y h2=>exact absurd hr (Zjf g1)
   |stuck=>rw[hr] at q; exact q
  ·cases es with
   |nil=>exact absurd g4 (by decide)
   |cons e es=>
    obtain⟨oc,od,dV,kV,doc,pm,an,cda,ct,osl,efd,lk,hcd,hD,hK,ocd,odd,vs,osd,file,tf,hcda,hvs,hfile⟩:=FS.ex
    obtain⟨cl',cld,csl,hcell⟩:=FS.cell
    obtain⟨cd,hcd2⟩:=SO.cl
    have ecdv:cdv=.ref cda:=by rw[← hcdv,efd]
    subst ecdv
    rw[efd] at lk
    rw[← Zjq (pn:=[]) (cells:=X.env.cells) (qual:=X.env.qual) (lamOk:=fun _ _=>False) (me:=some x)] at FG
    obtain⟨b1,b2⟩:=bd.cl.mkk _ g9 cb e3
    obtain⟨dds,vd,qb⟩:=b2 _ _ FB
    have hsx:c.dd.scope.names.lookup sx=some .local:=Sc.par sx (Zao f4)
    refine ps_sup (j:=j) (L:=s.heap.objs.size) (f:=c.ini K) (cda:=cda) (cc:=cc) (qual:=c.dd.qual) (scope:=c.dd.scope) (N:=c.N) (ps:=c.ps) (ar:=ar) (sx:=sx) SKx.gx SKx.tk rfl Sc lk hcda hvs hfile FS.top (by rw[ecb]; exact hcell) f1 f2 hsx f3 rfl (PySem.W.mg_none_of S.inK ns SO.ns) SO.opq (by rw[ecb]; exact hcd2) (by rw[ecb]; exact SO.mro) (by rw[ecb]; exact SO.su) SO.ty SO.fi (by omega) FG g8 (fun s a us inK hu=>?_) (chEs_ok args SKx.toCK SKx.tk' _ g3 g6) g3 g5 hl24 (fun env h l h' z=>by rw[Zee _ _ _ _ _ _ _ z,ZfY g6])
    have pk:ZbU (List.range (e::es).length) (us++[]++dds)=some us:=by
     rw[Zaw,← hu]
     exact ZiH
    exact qb s [a] us [] us inK rfl hu rfl pk
 ·refine ZnC (k:=i) (tb:=p.tb true Zb1) (N:=c.N) (nm:=⟨c.dd.scope.names,false,false,false⟩) (X:=X) rfl rfl cl r SKx rest (fun j hj=>?_) g7
  show ((p.cs'[kk]?).bind fun c=>c.ats[j]?).getD .no=.fld
  rw[hkk]
  simp only[ZaE]
  rw[T.st j (by rw[e1]; unfold stos; exact hj)]
  rfl
 ·have eg:p.G.ctr kk=some c.ct:=ZgB hkk hct
  have em:(cN p.G (i+2)).make kk ds h1=if ds.length=c.ct.np then (evB p.G (cN p.G i) true c.ct.items (.me::(ds.map .v++List.replicate (c.ct.nb - (c.ct.np+1)) .no)) [] h1).bind fun fs h=>.ok (.ins kk fs) h else .stuck:=by
   show mkR p.G (cN p.G i) kk ds h1=_
   unfold mkR
   rw[eg]
  rw[em] at q
  obtain⟨hl,q⟩:=Zbx q
  rw[e1] at q
  have ev:evB p.G (cN p.G i) true (.sup b args::r) (.me::(ds.map .v++List.replicate (c.ct.nb - (c.ct.np+1)) .no)) [] h1=((evEs p.G (cN p.G i) true args (.me::(ds.map .v++List.replicate (c.ct.nb - (c.ct.np+1)) .no)) h1).bind fun l h=>(cN p.G i).make b l h).bind fun v h=>(match v with
    | .ins b' fs'=>if b'=b then evB p.G (cN p.G i) true r (.me::(ds.map .v++List.replicate (c.ct.nb - (c.ct.np+1)) .no)) fs' h else .stuck
    |_=>.stuck):=by
   rw[Zbh]
   conv=>lhs; unfold evB
   rfl
  rw[ev,Zbh] at q
  refine⟨wd,_,h1,⟨fx,fdx,zx,zdx,hne,kc,hac,by rw[Zdf]; exact rr⟩,ZcG rfl (by rw[Zcc]; exact rvs) (c.ct.nb - (c.ct.np+1)) ?_,rfl,?_⟩
  ·rw[T.nb,rvs.length,hl]
  ·rw[ZbN]
   refine (Za4.bind q).mono fun w3 h3 H3 v ext rr3 q3 fs gs evv N3 rf3 re3=>?_
   subst evv
   dsimp only at q3
   rw[if_pos rfl] at q3
   refine⟨w3,_,h3,fs,gs,N3,re3,rfl,rf3,?_⟩
   rw[ZbN]
   refine (Za4.bind q3).mono fun w4 h4 H4 fs4 ext4 rr4 q4 rv σ'=>?_
   rw[ZdP] at rv
   exact q4.now rr4 _ rv rfl
theorem Zl7 (S:Zc6 p P w K h) (ns:h.Ns mainGlobals mg) (ok:p.ok P=true) (bd:p.bd) (i:Nat) (pr:All p P w K mg base i):ZmD p P w K mg base (i+2):=fun kk c hkk=>by
 cases hct:c.ctt with
 |some z=>exact .inl (Zg9 hkk hct i)
 |none=>
 cases hsb:c.sb with
 |none=>exact .inr (Zl9 S ns ok bd i pr hkk hsb hct)
 |some b=>exact .inr (Zl8 S ns ok bd i pr hkk hsb hct)
theorem Zn7 {l:List Stmt} {i:Str} {r:List Expr} (h:supF l=some (i,r)):∃p0 p1 p2 p4 p5 p6 p7,l=[.Return (some (.JoinedStr (.FormattedValue (.Call (.Attribute (.Call (.Name "super" p0) [] [] p1) i p2) [] [] p4) (-1) none p5::r) p6)) p7]∧(p2.endLine == p4.line)=true:=by
 unfold supF at h
 split at h
 ·split at h
  ·rename_i hc
   obtain⟨rfl,hl,rfl⟩:=hc
   cases h
   exact⟨_,_,_,_,_,_,_,rfl,by rw[hl]; exact ZaB _⟩
  ·cases h
 ·cases h
theorem Zpd {g:G} {call:Cl} {k m:Nat} {es:Es} {env:Env} {h:AH}:fin (evSs g call true (.cons (.rsf k m es) .nil) env h)=Zle (Zji call k m) (fun acc=>evFs g call true es acc) [] env h:=by
 unfold evSs evS Zle
 show fin ((Res.bindX (Res.bind (Zji call k m env h) _) env _).bind _)=_
 generalize hr:(Res.bind (Zji call k m env h) fun x h=>match Zmk x with
  |some s=>if s.length≤line then evFs g call true es s env h else .stuck
  |none=>.stuck)=r
 have e:(Res.bind (Zji call k m env h) fun x h=>match Zmk x with
  |some s=>if ([]++s).length≤line then evFs g call true es ([]++s) env h else .stuck
  |none=>.stuck)=r:=hr
 exact Eq.trans (by cases r<;>rfl) e.symm
theorem okSp {d:DE} {q:Nat × Nat × Nat × Nat} (h:d.okS p q=true):∃es i v l,d.fn.body=.cons (.rsf q.1 q.2.2.2 es) .nil∧supF d.dd.body=some (i,v::l)∧p.mn[q.2.2.1]? =some i∧(i == ("__class__":Str))=false∧d.tl=false∧d.gn=none∧Zcw d.N d.ps d.dd.scope∧d.fn.np=d.ps.length∧d.fn.nb=d.N.length∧
  p.mtd q.2.2.1 q.2.2.2∧(q.2.2.1,0,[],[0])∈p.kbm∧(∃e,p.ds[q.2.2.2]? =some e∧e.fn.np=1)∧ZpC (p.tb true Zb1) d.N es ⟨d.dd.scope.names,false,false,false⟩ (v::l)=true∧∃ar sx,(d.dd.params.posonlyargs++d.dd.params.args).head? =some ar∧ar.arg=sx∧d.N[0]? =some sx∧d.ps[0]? =some sx:=by
 unfold DE.okS at h
 simp only[Zaa,Zab,Zbz] at h
 obtain⟨⟨⟨⟨⟨h1,h2⟩,h3⟩,h4⟩,h5⟩,h6⟩:=h
 split at h6
 ·rename_i k f es i v l e1 e2
  simp only[Zaa,Zab,Zbz] at h6
  obtain⟨⟨⟨⟨⟨⟨⟨⟨⟨rfl,rfl⟩,g3⟩,g4⟩,g5⟩,g6⟩,g7⟩,g8⟩,g9⟩,g10⟩:=h6
  split at g6
  ·rename_i cb hcb
   split at g10
   ·rename_i ar sx s2 f1 f2 f3
    simp only[Zaa,Zab] at g10
    obtain⟨f4,rfl⟩:=g10
    exact⟨es,i,v,l,e1,e2,g3,g4,h1,Za3.mp h2,Ze2 h3,h4,h5,⟨cb,Za2 hcb,ZaC g6⟩,Zax.mp g7,(by
     cases z:p.ds[q.2.2.2]? with
     |none=>rw[z] at g8; cases g8
     |some e=>rw[z] at g8; exact⟨e,rfl,ZaC g8⟩),g9,ar,sx,f1,f4,f2,f3⟩
   ·cases g10
  ·cases g6
 ·cases h6
theorem ZlH (S:Zc6 p P w K h) (ns:h.Ns mainGlobals mg) (ok:p.ok P=true) (bd:p.bd) (n:Nat) (pr:All p P w K mg base n) {f:Nat} {d:DE} (hd:p.ds[f]? =some d) {q:Nat × Nat × Nat × Nat} (hs:d.sp=some q):FnG false P w K mg base (n+1) true ((Za5 p K).fa f) ((Za5 p K).fd f) ((Za5 p K).fps f) (spF (Za5 p K) (cN p.G (n+1)) true f):=by
 obtain⟨c,mn,cc,hc,hm,SO,FS⟩:=ZfQ S ok hd hs
 obtain⟨es,i,v,l,e1,e2,e3,e4,_,_,Sc,hnp,hnb,hmt,hkb,⟨dB,hdB,hnB⟩,hch,ar,sx,f1,f2,f3,f4⟩:=okSp (deOkS ok hd hs)
 rw[hm] at e3
 obtain rfl:=Option.some.inj e3
 obtain⟨p0,p1,p2,p4,p5,p6,p7,eb,hl24⟩:=Zn7 e2
 rw[ZfK hd,ZeQ hd]
 have FS2:=FS
 rw[eb] at FS2
 refine Znd FS2 Sc fun cdv A outer s H vs Q E hcdv room calm hlen hsp=>?_
 obtain⟨wd,ds,h1,rr,rvs,q1⟩:=hsp
 let X:Cx:=cxS (L2.CX P w) P w K mg base d.N d.dd.qual d.dd.scope (d.ad K) cdv cc A outer s H E
 have ecb:((Za5 p K).at [] X.env.cells X.env.qual (fun _ _=>False)).cb q.1=He.ga K c.name:=Zdq hc
 have hcc:=Za2 hc
 have cl:Cls X.K (((Za5 p K).at [] X.env.cells X.env.qual (fun _ _=>False)).cb q.1):=by
  rw[ecb]
  exact He.cls_ok (ZfR S (ZcQ hcc (by simp[CE.fa])))
 have CKx:CK X ((Za5 p K).at [] X.env.cells X.env.qual (fun _ _=>False)) p.G (p.tb true Zb1) d.N (cN p.G n) n ⟨d.dd.scope.names,false,false,false⟩:=
  ZkN (X:=X) S ns ok bd pr.1 room Sc.nd rfl rfl Sc.kind (fun _=>rfl) (fun _ z=>absurd z (by simp)) (fun _=>rfl) (fun z=>nomatch z) (Zc4 S ns ok bd (fun _=>pr.1) (fun _=>pr.2.1) (fun _=>pr.2.2.1)) (fun z=>nomatch z)
 have tk:Zfd false X (fun cls d _ H=>E cls d H):=takes_of (E:=E) rfl rfl rfl rfl
 refine⟨fun D σ H=>tE ((Za5 p K).at [] X.env.cells X.env.qual (fun _ _=>False)) (fun _=>E) (Zle (Zji (cN p.G n) q.1 q.2.2.2) (fun acc=>evFs p.G (cN p.G n) true es acc) []) σ H fun v H'=>D.rt v H',fun D σ H=>D.nx σ H,?_,pss_nil,?_⟩
 ·obtain⟨oc,od,dV,kV,doc,pm,an,cda,ct,osl,efd,lk,hcd,hD,hK,ocd,odd,vs,osd,file,tf,hcda,hvs,hfile⟩:=FS.ex
  obtain⟨cl',cld,csl,hcell⟩:=FS.cell
  obtain⟨cd,hcd2⟩:=SO.cl
  have ecdv:cdv=.ref cda:=by rw[← hcdv]; show (Zng p K f).code=_; rw[efd]
  subst ecdv
  rw[efd] at lk
  have hsx:d.dd.scope.names.lookup sx=some .local:=Sc.par sx (Zao f4)
  obtain⟨b1,b2⟩:=Zho (f:=q.2.2.2) S ok hdB (bd.cl.mt _ hkb _ _ hmt hdB hnB)
  have FG:=pr.1 q.2.2.2 dB hdB
  rw[← Zjr (pn:=[]) (cells:=X.env.cells) (qual:=X.env.qual) (lamOk:=fun _ _=>False) (me:=none)] at FG
  exact Zov (L:=s.heap.objs.size) (f:=d.ad K) (cda:=cda) (cc:=cc) (qual:=d.dd.qual) (scope:=d.dd.scope) (N:=d.N) (ps:=d.ps) (ar:=ar) (sx:=sx) CKx.gx tk rfl Sc lk hcda hvs hfile FS.top (by rw[ecb]; exact hcell) f1 f2 hsx f3 (PySem.W.mg_none_of S.inK ns SO.ns) SO.opq (by rw[ecb]; exact hcd2) (by rw[ecb]; exact SO.mro) cl (by rw[ecb]; exact SO.su) SO.ty SO.fi rfl e4 FG (ZoU b1) b2 hl24 (Zhn es CKx tk _ hch)
 ·have eg:p.G.fn f=some d.fn:=by show (p.ds[f]?).map (·.fn)=_; rw[hd]; rfl
  have eF:(cN p.G (n+1)).f true f ds h1=if ds.length=d.fn.np then fin (evSs p.G (cN p.G n) true d.fn.body (ds.map Sl.v++List.replicate (d.fn.nb - d.fn.np) Sl.no) h1) else .stuck:=by
   show (match p.G.fn f with
    |some fd=>if ds.length=fd.np then fin (evSs p.G (cN p.G n) true fd.body (ds.map Sl.v++List.replicate (fd.nb - fd.np) Sl.no) h1) else .stuck
    |none=>.stuck)=_
   rw[eg]
  rw[eF] at q1
  obtain⟨hl,q1⟩:=Zbx q1
  rw[e1] at q1
  refine⟨wd,ds.map Sl.v++List.replicate (d.fn.nb - d.fn.np) Sl.no,h1,by rw[Zdf]; exact rr,ZhK (by rw[Zcc]; exact rvs) (d.fn.nb - d.fn.np) ?_,?_⟩
  ·rw[hnb,hnp,hlen]
  ·rw[ZbN,ZlF]
   refine cast ?_ q1
   congr 1
   exact Zpd
theorem ZjL (S:Zc6 p P w K h) (ns:h.Ns mainGlobals mg) (ok:p.ok P=true) (bd:p.bd) (tb:∀q∈p.cs K,LamX.TabB base mg q.1 q.2) (n:Nat) (pr:∀j,j≤n→All p P w K mg base j) (prg:∀j,j≤n→ZiY p P w K mg base j):Zlf p P w K mg base (n+1):=by
 intro f d hd
 cases hs:d.sp with
 |some q=>exact ZlH S ns ok bd n (pr n (Zai n)) hd hs
 |none=>
 have F:=Zdr S ok hd hs
 cases hgn:d.gn with
 |some gd=>
  rw[ZfK hd,ZeQ hd]
  refine Zih F (Zpq ok hd hgn hs).2.1.1 fun vs H Q E hsp=>?_
  obtain⟨wd,ds,h1,rr,rvs,q⟩:=hsp
  have eg:p.G.fn f=some d.fn:=by show (p.ds[f]?).map (·.fn)=_; rw[hd]; rfl
  have e1:(cN p.G (n+1)).f true f ds h1=.stuck:=by
   show (match p.G.fn f with
    |some fd=>if ds.length=fd.np then fin (evSs p.G (cN p.G n) true fd.body (ds.map Sl.v++List.replicate (fd.nb - fd.np) Sl.no) h1) else .stuck
    |none=>.stuck)=_
   rw[eg]
   dsimp only
   split
   ·exact Zg7 (Zpq ok hd hgn hs).2.2.2.2.1
   ·rfl
  rw[e1] at q
  exact q.elim
 |none=>
 obtain⟨hpl,Sc,hnp,hnb,hch⟩:=deOk ok hd hgn hs
 rw[ZfK hd,ZeQ hd]
 refine Zgw F Sc fun cdv A outer s H vs Q E hcdv room calm hlen hsp=>?_
 obtain⟨wd,ds,h1,rr,rvs,q⟩:=hsp
 have hX:∃X:Cx,X=cxOf (L2.CX P w) P w K mg base d.N d.dd.qual d.dd.scope (d.ad K) cdv A outer s H E:=⟨_,rfl⟩
 let X:Cx:=cxOf (L2.CX P w) P w K mg base d.N d.dd.qual d.dd.scope (d.ad K) cdv A outer s H E
 let lo:Nat→Zd6→Prop:=fun k L=>ZeO p d k L=true
 have lk:d.tl=true→LamK X ((Za5 p K).at [] X.env.cells X.env.qual lo):=fun hl=>by
  have hm:=Zao hd
  refine⟨⟨Zc3 K d.dd.at_,Zix K (Zc3 K d.dd.at_),?_,?_,fun q hq e=>?_,?_⟩,rfl,rfl⟩
  ·have cr:=S.cref d hm hl
   obtain⟨_,e3⟩:=Zgk hpl
   obtain⟨hwh,e3⟩:=e3 hl
   obtain⟨oc,od,dV,kV,doc,pm,an,cdv',ct,osl,hfd,lk,_,_,_⟩:=F.ex
   have e4:He.fAd K d.dd.at_=d.ad K:=by rw[e3,Zit hwh]; rfl
   unfold Zpv at cr
   unfold Zc3
   rw[e4,lk] at cr⊢
   show cdv=_
   dsimp only at cr⊢
   have hc:(Zng p K f).code=cdv:=hcdv
   rw[hc] at cr⊢
   obtain⟨cc,hcc⟩:=isRef cr
   rw[hcc]
  ·exact Zah.mpr ⟨d,Zbj.mpr ⟨hm,hl⟩,rfl⟩
  ·exact S.tnd q hq (Zix K (Zc3 K d.dd.at_),(d.dd.qual++".<locals>.")++"<lambda>") (Zah.mpr ⟨d,Zbj.mpr ⟨hm,hl⟩,rfl⟩) e
  ·exact tb (Zc3 K d.dd.at_,Zix K (Zc3 K d.dd.at_)) (Zah.mpr ⟨d,Zbj.mpr ⟨hm,hl⟩,rfl⟩)
 have lm:d.lam=true→true=true→ZpY X ((Za5 p K).at [] X.env.cells X.env.qual lo) (ZeO p d)∧ZpN X ((Za5 p K).at [] X.env.cells X.env.qual lo) p.G (cN p.G n) n (p.tb true (ZeO p d)).wx (p.tb true (ZeO p d)).wsx:=fun hl _=>by
  have hm:=Zao hd
  refine⟨⟨lk (by unfold DE.tl; rw[hl]; rfl),fun k L hk=>hk,fun k L hk=>(ZfB hk).1.free,fun k L hk=>(ZfB hk).2.1⟩,⟨?_⟩⟩
  ·cases n with
   |zero=>exact .inl fun _ _ _=>rfl
   |succ m=>
    refine .inr ?_
    cases hw:p.why with
    |none=>rw[ZlN ok hw hm] at hl; cases hl
    |some W=>
     obtain⟨fw,fs,fd,fds,m1,k1,WA,WS⟩:=why_at (w:=w) (base:=base) S ns ok bd hw (m:=m) (fun j hj=>(pr j (by omega)).1) [] X.env.cells X.env.qual lo none
     refine⟨m,cN p.G m,fw,fs,fd,fds,W.a,W.a2,rfl,rfl,?_,k1,WA,fun hne=>?_,fun kl L hk=>?_⟩
     ·show mg ((p.why.map (·.why.name)).getD "")=_
      rw[hw]
      exact m1
     ·have e:(p.tb true (ZeO p d)).wsx=if W.hs then W.whys.name else ("":Str):=by
       show (p.why.map fun w=>(if w.hs then w.whys.name else ("":Str):Str)).getD ("":Str)=_
       rw[hw]
       rfl
      rw[e] at hne⊢
      cases hh:W.hs with
      |false=>rw[hh] at hne; exact absurd rfl hne
      |true=>exact WS hh
     ·obtain⟨l1,l2,l3⟩:=ZfB (p:=p) (d:=d) hk
      refine⟨l1,rfl,rfl,fun A' outer' s1 H1 E' f' c' room' calm'=>?_⟩
      exact (ZaS (tb:=p.tb true Zb1) (N:=d.N) (nm:=⟨L.scope.names,false,true,false⟩) (p.G.lam kl) (ZkN (X:=Zm6 X A' outer' s1 H1 E' L.scope f' c') S ns ok bd (pr m (by omega)).1 room' Sc.nd rfl rfl l1.kind (fun _=>rfl) (fun _ z=>absurd z (by simp)) (fun _=>rfl) (fun z=>nomatch z) (Zc4 S ns ok bd (fun _=>(pr m (by omega)).1) (fun _=>(pr m (by omega)).2.1) (fun _=>(pr m (by omega)).2.2.1)) (fun _ _=>genCx S (fun j hj=>prg j (by omega)) room' rfl rfl rfl)) (E:=fun _=>E') (takes_of (E:=E') rfl rfl rfl rfl) _ l3).pe
 refine⟨tS ((Za5 p K).at [] X.env.cells X.env.qual lo) (fun cls d _ H=>E cls d H) (evSs p.G (cN p.G n) true d.fn.body),?_,?_⟩
 ·refine chSs_ok (k:=n) (tb:=p.tb true (ZeO p d)) (N:=d.N) (nm:=⟨d.dd.scope.names,d.lam,true,d.kl⟩) d.fn.body ?_ _ hch
  exact {toCK:=ZkN (X:=X) S ns ok bd (pr n (Zai n)).1 room Sc.nd rfl rfl Sc.kind (fun _=>rfl) (fun _ z=>absurd z (by simp)) (fun _=>rfl) lm (Zc4 S ns ok bd (fun _=>(pr n (Zai n)).1) (fun _=>(pr n (Zai n)).2.1) (fun _=>(pr n (Zai n)).2.2.1)) (fun _ _=>genCx S (fun j hj=>prg j (Nat.le_of_lt hj)) room rfl rfl rfl) (fun hk _=>lk (by unfold DE.tl; rw[show d.kl=true from hk]; exact Bool.or_true _))
         fn:=.inl fun _=>rfl
         po:=passes_of rfl
         tk:=takes_of (E:=E) rfl rfl rfl rfl
         xg:=fun _=>xeG_cx
         tr:=fun _ _=>tr_cx (X:=X) S ns ok bd (pr n (Zai n)).2.2.2.2 rfl}
 ·have eg:p.G.fn f=some d.fn:=by show (p.ds[f]?).map (·.fn)=_; rw[hd]; rfl
  have e1:(cN p.G (n+1)).f true f ds h1=if ds.length=d.fn.np then fin (evSs p.G (cN p.G n) true d.fn.body (ds.map Sl.v++List.replicate (d.fn.nb - d.fn.np) Sl.no) h1) else .stuck:=by
   show (match p.G.fn f with
    |some fd=>if ds.length=fd.np then fin (evSs p.G (cN p.G n) true fd.body (ds.map Sl.v++List.replicate (fd.nb - fd.np) Sl.no) h1) else .stuck
    |none=>.stuck)=_
   rw[eg]
  rw[e1] at q
  obtain⟨hl,q⟩:=Zbx q
  refine⟨wd,_,h1,by rw[Zdf]; exact rr,ZhK (by rw[Zcc]; exact rvs) _ ?_,ZfP (by rw[ZbN,ZlF]; exact q)⟩
  rw[hnb,hnp,hlen]
theorem Zmb (S:Zc6 p P w K h) (ns:h.Ns mainGlobals mg) (ok:p.ok P=true) (bd:p.bd) (n:Nat) (pr:All p P w K mg base n) (prg:∀j,j≤n→ZiY p P w K mg base j):ZiY p P w K mg base (n+1):=trivial
theorem ZhL (S:Zc6 p P w K h) (ns:h.Ns mainGlobals mg) (ok:p.ok P=true) (bd:p.bd) (tb:∀q∈p.cs K,LamX.TabB base mg q.1 q.2):∀n j,j≤n→All p P w K mg base j∧ZiY p P w K mg base j
 |0,j,hj=>by
  obtain rfl:j=0:=by omega
  refine⟨⟨fun f d hd=>?_,low0,⟨ini0,inh0,fun _ _ _ _=>.inl fun _ _=>rfl,fun _ _ _ _=>.inl fun _ _=>rfl⟩,fun _ _ _ _ _ _ _=>.inl fun _ _=>rfl,iniC0⟩,promG0⟩
  rw[ZfK hd,ZeQ hd]
  have no:∀vs H Q E,spF (Za5 p K) (cN p.G 0) true f vs H Q E→False:=fun vs H Q E hsp=>by
   obtain⟨w,ds,h,_,_,q⟩:=hsp
   exact q.elim
  cases hs:d.sp with
  |some q=>
   obtain⟨_,_,_,_,_,_,F⟩:=ZfQ S ok hd hs
   obtain⟨_,_,_,_,_,_,_,_,_,_,Sc,_⟩:=okSp (deOkS ok hd hs)
   exact Zmj F Sc no
  |none=>
  cases hgn:d.gn with
  |none=>exact Zpc (Zdr S ok hd hs) (deOk ok hd hgn hs).2.1 no
  |some gd=>exact Zih (Zdr S ok hd hs) (Zpq ok hd hgn hs).2.1.1 no
 |n+1,j,hj=>by
  have ih:=ZhL S ns ok bd tb n
  by_cases hj':j≤n
  ·exact ih j hj'
  ·obtain rfl:j=n+1:=by omega
   refine⟨⟨ZjL S ns ok bd tb n (fun j hj=>(ih j hj).1) (fun j hj=>(ih j hj).2),lowS (ih n (Zai n)).1.1,?_,?_,?_⟩,Zmb S ns ok bd n (ih n (Zai n)).1 fun j hj=>(ih j hj).2⟩
   cases n with
   |zero=>exact⟨fun _ _ _=>.inl fun _ _=>rfl,fun _ _ _ _=>.inl fun _ _=>rfl,promY S ns ok bd _ (fun j hj=>(ih j (by omega)).1.1),fun _ _ _ _=>.inl fun _ _=>rfl⟩
   |succ i=>exact⟨Zl7 S ns ok bd i (ih i (ZbE i)).1,Zma S ns ok bd i (ih i (ZbE i)).1,promY S ns ok bd _ (fun j hj=>(ih j (by omega)).1.1),Zl6 S ns ok bd i (ih i (ZbE i)).1⟩
   cases n with
   |zero=>exact fun _ _ _ _ _ _ _=>.inl fun _ _=>rfl
   |succ i=>exact Zlr S ns ok bd i (ih i (ZbE i)).1
   cases n with
   |zero=>exact fun _ _ _=>.inl fun _ _=>rfl
   |succ i=>exact ini_c S ns ok bd i (ih i (ZbE i)).1
theorem prog_fn (S:Zc6 p P w K h) (ns:h.Ns mainGlobals mg) (ok:p.ok P=true) (bd:p.bd) (tb:∀q∈p.cs K,LamX.TabB base mg q.1 q.2) (n j:Nat) (hj:j≤n):Zlf p P w K mg base j:=(ZhL S ns ok bd tb n j hj).1.1
theorem law_sp {n f:Nat} (hv:∀l:List Int,l.length≤63→∃h',callN p.G n true f [.scr l] ⟨0,fun _=>.no⟩=.ok (.bl true) h') (S:Zc6 p P w K h) (H:Hp) (a:Addr) (l:List Int) (hl:l.length≤63) (hT:∀q∈p.cs K,H q.2=some (.tbl #[])) (hS:SqL K H a (l.map V.int)):
  spF (Za5 p K) (cN p.G n) true f [.ref a] H (fun v _=>v=.bl true) fun _ _ _=>False:=by
 obtain⟨h',e⟩:=hv l hl
 have tm:∀q∈p.tabs K,H q.1=some (.tbl #[]):=fun q hq=>by
  obtain⟨d,hd,e⟩:=Zah.mp hq
  rw[← e]
  exact hT (Zc3 K d.dd.at_,Zix K (Zc3 K d.dd.at_)) (Zah.mpr ⟨d,hd,rfl⟩)
 have nt:∀{b:Addr} {o:HO},H b=some o→(∀ps,o≠ .tbl ps)→b∉(p.tabs K).map (·.1):=fun {b o} hb n z=>by
  obtain⟨q,hq,e⟩:=Zah.mp z
  have:=tm q hq
  rw[e,hb] at this
  exact n _ (Option.some.inj this)
 have keep:∀{b:Addr} {o:HO},H b=some o→(∀ps,o≠ .tbl ps)→(fun b=>if b∈(p.tabs K).map (·.1) then none else H b) b=some o:=fun {b o} hb n=>by
  show (if b∈(p.tabs K).map (·.1) then none else H b)=some o
  rw[if_neg (nt hb n)]
  exact hb
 refine⟨⟨fun _=>0,fun b=>if b∈(p.tabs K).map (·.1) then none else H b,fun _=>none⟩,[.scr l],⟨0,fun _=>.no⟩,⟨fun b o e=>?_,fun _ _ e=>(nomatch e),fun k hk=>absurd hk (ZcF k),fun j _ hj=>absurd hj (ZcF j),fun k hk=>absurd hk (ZcF k),fun q hq=>⟨if_pos (Zah.mpr ⟨q,hq,rfl⟩),rfl,#[],tm q hq,?_,fun pos cv hc=>?_⟩⟩,RVs.mk (ZmU.mpr ⟨a,rfl,?_⟩) RVs.nil,?_⟩
 ·have e:(if b∈(p.tabs K).map (·.1) then none else H b)=some o:=e
  split at e
  ·cases e
  ·exact e
 ·trivial
 ·cases hc
 ·rcases hS with hS |hS
  ·refine .inl ?_
   rcases hS with hS |⟨o,hS⟩
   ·exact .inl (keep hS fun _ z=>nomatch z)
   ·exact .inr ⟨o,keep hS fun _ z=>nomatch z⟩
  ·exact .inr hS
 ·have e:(cN p.G n).f true f [.scr l] ⟨0,fun _=>.no⟩=.ok (.bl true) h':=e
  rw[e]
  exact fun w' H' _ _ x rv=>Zde.mp rv
end
end Rk
/-! Rk.Pg:the head's run,told in parts (each a theorem of its own:less memory at once). -/
namespace Rk
open PySem PySem.W PySem.Calls PyProof.Rows HandSHeadRun
def Zi6 {β:Type} (r:OpenRow) (M:Nat) (w:World) (f:SharedT→β) (x:β):Prop:=∀os:OsState,(endF (stepQ (denQ tabQ) r.prog w) M r.prog w os).map f=some x
noncomputable def seenS (r:OpenRow) (q:Program) (loose:List PySem.Str) (w:World) (s:SharedT):=(looksF r.prog (boot_heap w.params) s.abs,seenQ q loose (importedModules r.prog.main.body) (fun s=>xlAt q [] s&&recOk r.toRowW.records s) s.abs)
theorem Zes {α β γ:Type} {o:Option α} {f:α→β} {g:α→γ} {x:β} {y:γ} (h1:o.map f=some x) (h2:o.map g=some y):o.map (fun s=>(f s,g s))=some (x,y):=by
 cases o with
 |none=>cases h1
 |some s=>
  injection h1 with h1
  injection h2 with h2
  show some (f s,g s)=_
  rw[h1,h2]
theorem Zg0 {r:OpenRow} {q:Program} {n:Nat} {p:Pg} {pr:Program} {ob:SharedT→AlF} {M:Nat} {loose:List PySem.Str} {w:World}
  (h1:Zi6 r M w (seenS r q loose w) (true,openGood q loose)) (h2:Zi6 r M w (fun s=>(ob s).1) (Zlk p w).1) (h3:Zi6 r M w (fun s=>(ob s).2.1) true)
  (h4:Zi6 r M w (fun s=>(ob s).2.2.1) (Zlk p w).2.2.1) (h5:Zi6 r M w (fun s=>(ob s).2.2.2.1) true) (h6:Zi6 r M w (fun s=>(ob s).2.2.2.2) (Zlk p w).2.2.2.2):
  HandSHeadRun.RunEq r q (Zo2 n p pr) ob M loose w:=fun os=>by
 have a:=Zes (h1 os) (Zes (h2 os) (Zes (h3 os) (Zes (h4 os) (Zes (h5 os) (h6 os)))))
 have g:=congrArg (Option.map fun z:(Bool × _) × AlF=>(z.1.1,z.1.2,z.2)) a
 rw[Option.map_map] at g
 exact g
/-! .. each part by itself,not by way of the tuple -/
end Rk
/-! the program of law k56,printed by gen.py -/
namespace K56
open PySem PySem.Spec PyProof.Rows L2 Rk
def top (i:Nat):Stmt:=PySem.Challenge.pw_rivalkeys_k56_keys_that_are_near.main.body.getD i (.Pass ⟨0,0,0,0⟩)
def b0:Ss:=(.cons (.ret (.bi .any (.cmpr (.cmp .Eq (.bin .Add (.slc (.var 1) .no (.so (.var 2))) (.slc (.var 1) (.so (.bin .Add (.var 2) (.cst (.int 1)))) .no)) (.var 0)) [2] (.rng (.bi .len (.var 1))) .nil)))
 .nil)
def d0:DE:=⟨⟨("is_left_out",none),"is_left_out","is_left_out",defArgs (top 1),defBody (top 1),defScope (top 1),[],[]⟩,["short","long","at"],["short","long"],⟨2,3,b0⟩,false,.glo,none,false,none⟩
def b1_1:Ss:=(.cons (.ret (.and (.cons (.cmp .Eq (.var 4) (.bin .Add (.var 3) (.cst (.int 1)))) (.cons (.cmp .Eq (.idx (.var 0) (.var 3)) (.idx (.var 1) (.var 4))) (.cons (.cmp .Eq (.idx (.var 0) (.var 4)) (.idx (.var 1) (.var 3))) .nil)))))
 .nil)
def b1_2:Ss:=(.cons (.asgt [3,4] (.var 2))
 b1_1)
def b1_3:Ss:=(.cons (.ifs (.cmp .NotEq (.bi .len (.var 2)) (.cst (.int 2))) (.cons (.ret (.cmp .Eq (.bi .len (.var 2)) (.cst (.int 1))))
 .nil) .nil)
 b1_2)
def b1_4:Ss:=(.cons (.asg 2 (.cmpr (.var 5) [5] (.rng (.bi .len (.var 0))) (.cons (.cmp .NotEq (.idx (.var 0) (.var 5)) (.idx (.var 1) (.var 5))) .nil)))
 b1_3)
def b1_5:Ss:=(.cons (.ifs (.cmp .NotEq (.bi .len (.var 0)) (.bi .len (.var 1))) (.cons (.ret (.cst (.bl false)))
 .nil) .nil)
 b1_4)
def b1_6:Ss:=(.cons (.ifs (.cmp .Eq (.bi .len (.var 1)) (.bin .Add (.bi .len (.var 0)) (.cst (.int 1)))) (.cons (.ret (.cal 0 (.cons (.var 0) (.cons (.var 1) .nil)) .nil [0,1]))
 .nil) .nil)
 b1_5)
def b1:Ss:=(.cons (.ifs (.cmp .Eq (.bi .len (.var 0)) (.bin .Add (.bi .len (.var 1)) (.cst (.int 1)))) (.cons (.ret (.cal 0 (.cons (.var 1) (.cons (.var 0) .nil)) .nil [0,1]))
 .nil) .nil)
 b1_6)
def d1:DE:=⟨⟨("is_slip",none),"is_slip","is_slip",defArgs (top 2),defBody (top 2),defScope (top 2),[],[]⟩,["one","other","spots","first","second","at"],["one","other"],⟨2,6,b1⟩,false,.glo,none,false,none⟩
def b2:Ss:=(.cons (.ret (.hst (.cmp true (.var 2) [2] (.seq (.var 0)) (.cons (.cal 1 (.cons (.var 2) (.cons (.var 1) .nil)) .nil [0,1]) .nil))))
 .nil)
def d2:DE:=⟨⟨("near",none),"near","near",defArgs (top 3),defBody (top 3),defScope (top 3),[],[]⟩,["keys","text","key"],["keys","text"],⟨2,3,b2⟩,false,.glo,none,false,none⟩
def b3:Ss:=(.cons (.ifs (.cmp .In (.var 1) (.var 0)) (.cons (.ret (.var 1))
 .nil) .nil)
 (.cons (.asg 2 (.frz (.cal 2 (.cons (.var 0) (.cons (.var 1) .nil)) .nil [0,1])))
 (.cons (.ret (.ife (.cmp .Eq (.bi .len (.var 2)) (.cst (.int 1))) (.idx (.var 2) (.cst (.int 0))) (.cst .non)))
 .nil)))
def d3:DE:=⟨⟨("surely",none),"surely","surely",defArgs (top 4),defBody (top 4),defScope (top 4),[],[]⟩,["keys","text","found"],["keys","text"],⟨2,3,b3⟩,false,.glo,none,false,none⟩
def b4:Ss:=(.cons (.asg 1 (.cmpr (.bi .int (.var 3)) [3] (.seq (.slc (.var 0) .no (.so (.cst (.int 63))))) .nil))
 (.cons (.asg 2 (.bin .Add (.cst (.int 10028)) (.bin .Mult (.cst (.int 89)) (.bi .len (.var 1)))))
 (.cons (.for [3] (.seq (.var 1)) (.cons (.asg 2 (.bin .Mod (.bi .int (.bin .Add (.bin .Mult (.var 2) (.cst (.int 7919))) (.var 3))) (.cst (.int 2147483497))))
 .nil))
 (.cons (.ret (.hls (.cons (.var 1) (.cons (.cst (.int 0)) (.cons (.cst (.int 0)) (.cons (.var 2) .nil))))))
 .nil))))
def d4:DE:=⟨⟨("_law_deal",none),"_law_deal","_law_deal",defArgs (top 6),defBody (top 6),defScope (top 6),[],[]⟩,["_law_script","_law_cells","_law_mark","_law_cell"],["_law_script"],⟨1,4,b4⟩,false,.glo,none,false,none⟩
def b5:Ss:=(.cons (.ifs (.cmp .Lt (.idx (.var 0) (.cst (.int 2))) (.cst (.int 2))) (.cons (.seti (.var 0) (.cst (.int 1)) (.bin .Add (.idx (.var 0) (.cst (.int 1))) (.cst (.int 1))))
 (.cons (.asg 3 (.bin .Add (.idx (.var 0) (.cst (.int 3))) (.bin .Mult (.idx (.var 0) (.cst (.int 1))) (.cst (.int 9343)))))
 (.cons (.ifs (.cmp .LtE (.idx (.var 0) (.cst (.int 1))) (.bi .len (.idx (.var 0) (.cst (.int 0))))) (.cons (.asg 3 (.idx (.idx (.var 0) (.cst (.int 0))) (.bin .Sub (.idx (.var 0) (.cst (.int 1))) (.cst (.int 1)))))
 .nil) .nil)
 (.cons (.ifs (.or (.cons (.cmp .Gt (.idx (.var 0) (.cst (.int 1))) (.bi .len (.idx (.var 0) (.cst (.int 0))))) (.cons (.cmp .Lt (.var 3) (.bin .Pow (.cst (.int 10)) (.cst (.int 18)))) .nil))) (.cons (.asg 4 (.bin .Mod (.bi .int (.bin .Add (.bin .Add (.bin .Mult (.var 3) (.cst (.int 47303))) (.bin .Mult (.idx (.var 0) (.cst (.int 1))) (.cst (.int 38219)))) (.idx (.var 0) (.cst (.int 3))))) (.cst (.int 2147483647))))
 (.cons (.asg 5 (.bin .Mod (.bi .int (.bin .Add (.bin .Mult (.var 4) (.var 4)) (.bin .Mult (.idx (.var 0) (.cst (.int 1))) (.cst (.int 51041))))) (.cst (.int 998244353))))
 (.cons (.ret (.bin .Mod (.bin .FloorDiv (.bin .Mod (.bi .int (.bin .Add (.bin .Mult (.var 5) (.cst (.int 46643))) (.var 4))) (.cst (.int 2147483563))) (.cst (.int 17))) (.var 1)))
 .nil))) .nil)
 (.cons (.seti (.var 0) (.cst (.int 2)) (.var 3))
 .nil))))) .nil)
 (.cons (.asg 2 (.bin .Mod (.bi .int (.idx (.var 0) (.cst (.int 2)))) (.var 1)))
 (.cons (.seti (.var 0) (.cst (.int 2)) (.bin .FloorDiv (.bi .int (.idx (.var 0) (.cst (.int 2)))) (.var 1)))
 (.cons (.ret (.var 2))
 .nil))))
def d5:DE:=⟨⟨("_law_pick",none),"_law_pick","_law_pick",defArgs (top 7),defBody (top 7),defScope (top 7),[],[]⟩,["_law_deal_here","_law_many","_law_drawn","_law_cell","_law_early","_law_late"],["_law_deal_here","_law_many"],⟨2,6,b5⟩,false,.glo,none,false,none⟩
def b6:Ss:=(.cons (.ret (.idx (.var 1) (.cal 5 (.cons (.var 0) (.cons (.bi .len (.var 1)) .nil)) .nil [0,1])))
 .nil)
def d6:DE:=⟨⟨("_law_of",none),"_law_of","_law_of",defArgs (top 8),defBody (top 8),defScope (top 8),[],[]⟩,["_law_deal_here","_law_items"],["_law_deal_here","_law_items"],⟨2,2,b6⟩,false,.glo,none,false,none⟩
def b7:Ss:=(.cons (.ret (.same 0 1))
 .nil)
def d7:DE:=⟨⟨("_law_same",none),"_law_same","_law_same",defArgs (top 9),defBody (top 9),defScope (top 9),[],[]⟩,["_law_found","_law_due"],["_law_found","_law_due"],⟨2,2,b7⟩,false,.glo,none,false,none⟩
def b8:Ss:=(.cons (.ret (.mt .join (.cst (.str [])) (.cmpr (.cal 6 (.cons (.var 0) (.cons (.cst (.str [97,97,98,46,49,57,95])) .nil)) .nil [0,1]) [1] (.rng (.cal 5 (.cons (.var 0) (.cons (.cst (.int 7)) .nil)) .nil [0,1])) .nil)))
 .nil)
def d8:DE:=⟨⟨("_law_ordinary",none),"_law_ordinary","_law_ordinary",defArgs (top 10),defBody (top 10),defScope (top 10),[],[]⟩,["_law_deal_here","_law_k"],["_law_deal_here"],⟨1,2,b8⟩,false,.glo,none,false,none⟩
def b9_1:Ss:=(.cons (.ret (.srt (.of (.var 2))))
 .nil)
def b9_2:Ss:=(.cons (.ifs (.and (.cons (.cmp .Lt (.bin .Add (.var 3) (.cst (.int 1))) (.bi .len (.var 0))) (.cons (.cmp .NotEq (.idx (.var 0) (.var 3)) (.idx (.var 0) (.bin .Add (.var 3) (.cst (.int 1))))) .nil))) (.cons (.asg 2 (.bin .Add (.var 2) (.lst (.cons (.bin .Add (.bin .Add (.bin .Add (.slc (.var 0) .no (.so (.var 3))) (.idx (.var 0) (.bin .Add (.var 3) (.cst (.int 1))))) (.idx (.var 0) (.var 3))) (.slc (.var 0) (.so (.bin .Add (.var 3) (.cst (.int 2)))) .no)) .nil))))
 .nil) .nil)
 .nil)
def b9_3:Ss:=(.cons (.asg 2 (.bin .Add (.var 2) (.cmpr (.bin .Add (.bin .Add (.slc (.var 0) .no (.so (.var 3))) (.var 4)) (.slc (.var 0) (.so (.bin .Add (.var 3) (.cst (.int 1)))) .no)) [4] (.seq (.var 1)) (.cons (.cmp .NotEq (.var 4) (.idx (.var 0) (.var 3))) .nil))))
 .nil)
def b9_4:Ss:=(.cons (.asg 2 (.bin .Add (.var 2) (.lst (.cons (.bin .Add (.slc (.var 0) .no (.so (.var 3))) (.slc (.var 0) (.so (.bin .Add (.var 3) (.cst (.int 1)))) .no)) .nil))))
 b9_3)
def b9_5:Ss:=(.cons (.ifs (.cmp .Lt (.var 3) (.bi .len (.var 0))) b9_4 .nil)
 b9_2)
def b9_6:Ss:=(.cons (.asg 2 (.bin .Add (.var 2) (.cmpr (.bin .Add (.bin .Add (.slc (.var 0) .no (.so (.var 3))) (.var 4)) (.slc (.var 0) (.so (.var 3)) .no)) [4] (.seq (.var 1)) .nil)))
 b9_5)
def b9_7:Ss:=(.cons (.for [3] (.rng (.bin .Add (.bi .len (.var 0)) (.cst (.int 1)))) b9_6)
 b9_1)
def b9:Ss:=(.cons (.asg 2 (.lst .nil))
 b9_7)
def d9:DE:=⟨⟨("_law_all_slips",none),"_law_all_slips","_law_all_slips",defArgs (top 11),defBody (top 11),defScope (top 11),[],[]⟩,["_law_word","_law_signs","_law_found","_law_at","_law_sign"],["_law_word","_law_signs"],⟨2,5,b9⟩,false,.glo,none,false,none⟩
def b10_1:Ss:=(.cons (.ret (.cal 7 (.cons (.lst (.cons (.frz (.cal 2 (.cons (.lst .nil) (.cons (.cst (.str [97])) .nil)) .nil [0,1])) (.cons (.cal 3 (.cons (.lst .nil) (.cons (.cst (.str [97])) .nil)) .nil [0,1]) (.cons (.cal 3 (.cons (.lst (.cons (.cst (.str [97,98])) (.cons (.cst (.str [97,99])) .nil))) (.cons (.cst (.str [97])) .nil)) .nil [0,1]) (.cons (.cal 3 (.cons (.lst (.cons (.cst (.str [97,98])) (.cons (.cst (.str [97,98])) .nil))) (.cons (.cst (.str [97])) .nil)) .nil [0,1]) .nil))))) (.cons (.lst (.cons (.lst .nil) (.cons (.cst .non) (.cons (.cst .non) (.cons (.cst (.str [97,98])) .nil))))) .nil)) .nil [0,1]))
 .nil)
def b10_2:Ss:=(.cons (.ifs (.not (.cal 7 (.cons (.frz (.cal 2 (.cons (.var 4) (.cons (.var 6) .nil)) .nil [0,1])) (.cons (.var 7) .nil)) .nil [0,1])) (.cons (.ret (.cst (.bl false)))
 .nil) .nil)
 .nil)
def b10_3:Ss:=(.cons (.expr (.mm .append (.idx (.var 10) (.cst (.int 0))) (.cons (.cst (.str [113])) .nil)))
 b10_2)
def b10_4:Ss:=(.cons (.ifs (.or (.cons (.not (.cal 7 (.cons (.var 10) (.cons (.lst (.cons (.var 7) (.cons (.var 7) (.cons (.var 8) (.cons (.var 8) .nil))))) .nil)) .nil [0,1])) (.cons (.cmp .NotEq (.var 9) (.var 4)) .nil))) (.cons (.ret (.cst (.bl false)))
 .nil) .nil)
 b10_3)
def b10_5:Ss:=(.cons (.asg 10 (.lst (.cons (.cal 2 (.cons (.var 9) (.cons (.var 6) .nil)) .nil [0,1]) (.cons (.frz (.cal 2 .nil (.cons (.var 6) (.cons (.bi .tuple (.var 4)) .nil)) [1,0])) (.cons (.cal 3 (.cons (.var 9) (.cons (.var 6) .nil)) .nil [0,1]) (.cons (.cal 3 .nil (.cons (.var 6) (.cons (.var 4) .nil)) [1,0]) .nil))))))
 b10_4)
def b10_6:Ss:=(.cons (.asg 9 (.bi .list (.var 4)))
 b10_5)
def b10_7:Ss:=(.cons (.asg 8 (.ife (.cmp .In (.var 6) (.var 4)) (.var 6) (.ife (.cmp .Eq (.bi .len (.var 7)) (.cst (.int 1))) (.idx (.var 7) (.cst (.int 0))) (.cst .non))))
 b10_6)
def ZmA:Ss:=(.cons (.asg 7 (.srt (.of (.cmpr (.var 11) [11] (.seq (.var 4)) (.cons (.cmp .In (.var 11) (.cal 9 (.cons (.var 6) (.cons (.srt (.of (.bi .list (.var 11)))) .nil)) .nil [0,1])) .nil)))))
 b10_7)
def ZpI:Ss:=(.cons (.asg 6 (.cal 6 (.cons (.var 1) (.cons (.bin .Add (.bin .Add (.lst (.cons (.var 3) .nil)) (.var 4)) (.cal 9 (.cons (.var 3) (.cons (.lst (.cons (.cst (.str [98])) .nil)) .nil)) .nil [0,1])) .nil)) .nil [0,1]))
 ZmA)
def ZnH:Ss:=(.cons (.asg 4 (.slc (.var 4) (.so (.cal 5 (.cons (.var 1) (.cons (.cst (.int 2)) .nil)) .nil [0,1])) .no))
 ZpI)
def Zk0:Ss:=(.cons (.for [5] (.rng (.cal 5 (.cons (.var 1) (.cons (.cst (.int 6)) .nil)) .nil [0,1])) (.cons (.expr (.mm .append (.var 4) (.cons (.cal 6 (.cons (.var 1) (.cons (.bin .Add (.cal 9 (.cons (.cal 6 (.cons (.var 1) (.cons (.var 4) .nil)) .nil [0,1]) (.cons (.lst (.cons (.cst (.str [97])) (.cons (.cst (.str [57])) .nil))) .nil)) .nil [0,1]) (.lst (.cons (.var 3) .nil))) .nil)) .nil [0,1]) .nil)))
 .nil))
 ZnH)
def ZkZ:Ss:=(.cons (.asg 4 (.hls (.cons (.var 3) .nil)))
 Zk0)
def Zis:Ss:=(.cons (.asg 3 (.cal 8 (.cons (.var 1) .nil) .nil [0]))
 ZkZ)
def ZkY:Ss:=(.cons (.for [2] (.rng (.cst (.int 4))) Zis)
 b10_1)
def b10:Ss:=(.cons (.asg 1 (.cal 4 (.cons (.var 0) .nil) .nil [0]))
 ZkY)
def d10:DE:=⟨⟨("law",none),"law","law",defArgs (top 12),defBody (top 12),defScope (top 12),[],[]⟩,["_law_script","_law_deal_here","_law_turn","_law_word","_law_keys_z","_law_k","_law_text_in","_law_due","_law_sure","_law_handed","_law_told","_law_key"],["_law_script"],⟨1,12,b10⟩,false,.glo,none,false,none⟩
def p:Pg:=⟨[d0,d1,d2,d3,d4,d5,d6,d7,d8,d9,d10],[],["any","range","len","sorted","int","repr","set","tuple","list"],[(0,2,[],[0,1]),(1,2,[],[0,1]),(2,2,[],[0,1]),(5,2,[],[0,1]),(6,2,[],[0,1]),(7,2,[],[0,1]),(3,2,[],[0,1]),(2,0,[("text":PySem.Str),("keys":PySem.Str)],[1,0]),(3,0,[("text":PySem.Str),("keys":PySem.Str)],[1,0]),(9,2,[],[0,1]),(8,1,[],[0]),(4,1,[],[0])],["code","given","at","name","limit","word","line"],[],[],none,0,[],[],[],[],[],[],[],[]⟩
abbrev pr:Program:=PySem.Challenge.rw_rivalkeys_k56_keys_that_are_near.prog
theorem pok:p.ok pr=true:=by decide+kernel
theorem kb0:∃d,p.ds[0]? =some d∧KBd d 2 [] [0,1]:=⟨d0,rfl,Zb2 rfl rfl rfl (fun _ _ _ _ _ _ pre us ws h0 h1 h2=>match pre,us,ws,h0,h1,h2 with |[],[u0,u1],[],_,_,_=>⟨[u0,u1],rfl,rfl⟩)⟩
theorem kb1:∃d,p.ds[1]? =some d∧KBd d 2 [] [0,1]:=⟨d1,rfl,Zb2 rfl rfl rfl (fun _ _ _ _ _ _ pre us ws h0 h1 h2=>match pre,us,ws,h0,h1,h2 with |[],[u0,u1],[],_,_,_=>⟨[u0,u1],rfl,rfl⟩)⟩
theorem kb2:∃d,p.ds[2]? =some d∧KBd d 2 [] [0,1]:=⟨d2,rfl,Zb2 rfl rfl rfl (fun _ _ _ _ _ _ pre us ws h0 h1 h2=>match pre,us,ws,h0,h1,h2 with |[],[u0,u1],[],_,_,_=>⟨[u0,u1],rfl,rfl⟩)⟩
theorem kb3:∃d,p.ds[5]? =some d∧KBd d 2 [] [0,1]:=⟨d5,rfl,Zb2 rfl rfl rfl (fun _ _ _ _ _ _ pre us ws h0 h1 h2=>match pre,us,ws,h0,h1,h2 with |[],[u0,u1],[],_,_,_=>⟨[u0,u1],rfl,rfl⟩)⟩
theorem kb4:∃d,p.ds[6]? =some d∧KBd d 2 [] [0,1]:=⟨d6,rfl,Zb2 rfl rfl rfl (fun _ _ _ _ _ _ pre us ws h0 h1 h2=>match pre,us,ws,h0,h1,h2 with |[],[u0,u1],[],_,_,_=>⟨[u0,u1],rfl,rfl⟩)⟩
theorem kb5:∃d,p.ds[7]? =some d∧KBd d 2 [] [0,1]:=⟨d7,rfl,Zb2 rfl rfl rfl (fun _ _ _ _ _ _ pre us ws h0 h1 h2=>match pre,us,ws,h0,h1,h2 with |[],[u0,u1],[],_,_,_=>⟨[u0,u1],rfl,rfl⟩)⟩
theorem kb6:∃d,p.ds[3]? =some d∧KBd d 2 [] [0,1]:=⟨d3,rfl,Zb2 rfl rfl rfl (fun _ _ _ _ _ _ pre us ws h0 h1 h2=>match pre,us,ws,h0,h1,h2 with |[],[u0,u1],[],_,_,_=>⟨[u0,u1],rfl,rfl⟩)⟩
theorem kb7:∃d,p.ds[2]? =some d∧KBd d 0 ["text","keys"] [1,0]:=⟨d2,rfl,Zb2 rfl rfl rfl (fun _ _ _ _ _ _ pre us ws h0 h1 h2=>match pre,us,ws,h0,h1,h2 with |[],[],[w0,w1],_,_,_=>⟨[w1,w0],rfl,rfl⟩)⟩
theorem kb8:∃d,p.ds[3]? =some d∧KBd d 0 ["text","keys"] [1,0]:=⟨d3,rfl,Zb2 rfl rfl rfl (fun _ _ _ _ _ _ pre us ws h0 h1 h2=>match pre,us,ws,h0,h1,h2 with |[],[],[w0,w1],_,_,_=>⟨[w1,w0],rfl,rfl⟩)⟩
theorem kb9:∃d,p.ds[9]? =some d∧KBd d 2 [] [0,1]:=⟨d9,rfl,Zb2 rfl rfl rfl (fun _ _ _ _ _ _ pre us ws h0 h1 h2=>match pre,us,ws,h0,h1,h2 with |[],[u0,u1],[],_,_,_=>⟨[u0,u1],rfl,rfl⟩)⟩
theorem kb10:∃d,p.ds[8]? =some d∧KBd d 1 [] [0]:=⟨d8,rfl,Zb2 rfl rfl rfl (fun _ _ _ _ _ _ pre us ws h0 h1 h2=>match pre,us,ws,h0,h1,h2 with |[],[u0],[],_,_,_=>⟨[u0],rfl,rfl⟩)⟩
theorem kb11:∃d,p.ds[4]? =some d∧KBd d 1 [] [0]:=⟨d4,rfl,Zb2 rfl rfl rfl (fun _ _ _ _ _ _ pre us ws h0 h1 h2=>match pre,us,ws,h0,h1,h2 with |[],[u0],[],_,_,_=>⟨[u0],rfl,rfl⟩)⟩
theorem kbok:p.kbOk:=ZaX.mpr ⟨kb0,ZaX.mpr ⟨kb1,ZaX.mpr ⟨kb2,ZaX.mpr ⟨kb3,ZaX.mpr ⟨kb4,ZaX.mpr ⟨kb5,ZaX.mpr ⟨kb6,ZaX.mpr ⟨kb7,ZaX.mpr ⟨kb8,ZaX.mpr ⟨kb9,ZaX.mpr ⟨kb10,ZaX.mpr ⟨kb11,fun _ h=>(nomatch h)⟩⟩⟩⟩⟩⟩⟩⟩⟩⟩⟩⟩
theorem cb1:∀q∈p.kbm,∀f d,p.mtd q.1 f→p.ds[f]? =some d→d.fn.np=q.2.2.2.length→ZgD d.dd d.ps (q.2.1+1) q.2.2.1 q.2.2.2:=fun _ h=>(nomatch h)
theorem cb2:∀q∈p.kbc,∀c,p.cs'[q.1]? =some c→bndC c.dd c.ps q.2.1 q.2.2.1 q.2.2.2:=fun _ h=>(nomatch h)
theorem cb3:∀c∈p.cs',c.va=true→ZpF c.dd c.ps 1:=fun _ h=>(nomatch h)
theorem cb4:∀q∈p.kva,∃d,p.ds[q.1]? =some d∧ZpF d.dd d.ps q.2:=fun _ h=>(nomatch h)
theorem cb5:∀q∈p.kst,∀c f d,p.cs'[q.1]? =some c→c.sts[q.2.1]? =some (some f)→p.ds[f]? =some d→ZgD d.dd d.ps q.2.2.1 q.2.2.2.1 q.2.2.2.2:=fun _ h=>(nomatch h)
theorem cb6:∀q∈p.kca,∀c∈p.cs',∀f d,c.dms.lookup .call=some f→p.ds[f]? =some d→ZgD d.dd d.ps (q.1+1) q.2.1 q.2.2:=fun _ h=>(nomatch h)
theorem cb7:∀c∈p.cs',∀f d,(c.dms.lookup .len=some f∨c.dms.lookup .repr=some f∨c.dms.lookup .bool=some f∨At.prp f∈c.ats∨c.dms.lookup .enter=some f)→p.ds[f]? =some d→ZgD d.dd d.ps 1 [] [0]:=fun _ h=>(nomatch h)
theorem cb8:∀c∈p.cs',∀f d,(c.dms.lookup .eq=some f∨c.dms.lookup .ne=some f∨c.dms.lookup .has=some f)→p.ds[f]? =some d→ZgD d.dd d.ps 2 [] [0,1]:=fun _ h=>(nomatch h)
theorem cb9:∀c∈p.cs',∀f d,c.dms.lookup .exit=some f→p.ds[f]? =some d→ZgD d.dd d.ps 4 [] [0,1,2,3]:=fun _ h=>(nomatch h)
theorem cb10:∀c∈p.cs',∀i f d,c.pst.lookup i=some f→p.ds[f]? =some d→ZgD d.dd d.ps 2 [] [0,1]:=fun _ h=>(nomatch h)
theorem cb11:∀q∈p.kmv,∀f d,p.mtd q.1 f→p.ds[f]? =some d→ZpF d.dd d.ps (q.2+1):=fun _ h=>(nomatch h)
theorem pbd:p.bd:=⟨kbok,⟨cb1,cb2,cb3,cb4,cb5,cb6,cb7,cb8,cb9,cb10,cb11⟩,fun _ h=>(nomatch h),fun w h=>(nomatch (show (none:Option ZeG)=some w from h))⟩
abbrev R:PySem.W.OpenRow:=PySem.W.OpenLaw.row PySem.Challenge.rw_rivalkeys_k56_keys_that_are_near
abbrev hk:PySem.W.Hook:=Zo2 5 p pr
def ob (s:PySem.W.SharedT):AlF:=ZjR 5 p pr (HandSHeadRun.getT s)
theorem ob_eq (s:PySem.W.SharedT):ob s=hk.obs s.abs:=ZlL (HandSHeadRun.getT_eq s)
abbrev lo0:List PySem.Str:=[("is_left_out":PySem.Str),("is_slip":PySem.Str),("near":PySem.Str),("surely":PySem.Str),("_law_deal":PySem.Str),("_law_pick":PySem.Str),("_law_of":PySem.Str),("_law_same":PySem.Str),("_law_ordinary":PySem.Str),("_law_all_slips":PySem.Str)]
abbrev vw:Program:=PySem.W.view R.prog [12]
end K56
/-! Rk.Q:reasoning about the evaluator. -/
namespace Rk
open PySem
def Wp {α:Type} (r:Res α) (P:α→AH→Prop) (X:D→AH→Prop):Prop:=match r with
 | .ok a h=>P a h
 | .exc x h=>X x h
 | .stuck=>False
section
variable {α β:Type} {P:α→AH→Prop} {X:D→AH→Prop}
@[simp] theorem Wp_ok {a:α} {h:AH}:Wp (.ok a h) P X=P a h:=rfl
@[simp] theorem Wp_bind {r:Res β} {f:β→AH→Res α}:Wp (r.bind f) P X=Wp r (fun a h=>Wp (f a h) P X) X:=by cases r<;>rfl
@[simp] theorem Wp_bindX {r:Res β} {env:Env} {f:β→AH→Res Fl} {P:Fl→AH→Prop}:Wp (r.bindX env f) P X=Wp r (fun a h=>Wp (f a h) P X) (fun x h=>P (.xc x env) h):=by cases r<;>rfl
@[simp] theorem Wp_noexc {r:Res α}:Wp (Za6 r) P X=Wp r P (fun _ _=>False):=by cases r<;>rfl
theorem Wp.mono {r:Res α} {P':α→AH→Prop} {X':D→AH→Prop} (h:Wp r P X) (hP:∀a h,P a h→P' a h) (hX:∀a h,X a h→X' a h):Wp r P' X':=by
 cases r with
 |ok a h'=>exact hP _ _ h
 |exc a h'=>exact hX _ _ h
 |stuck=>exact h
theorem Wp.ok {r:Res α} (h:Wp r P (fun _ _=>False)):∃a h',r=.ok a h'∧P a h':=by
 cases r with
 |ok a h'=>exact⟨a,h',rfl,h⟩
 |exc a h'=>exact h.elim
 |stuck=>exact h.elim
end
/-! ### steps -/
section
variable {d:D} {e:Env} {k:Nat} {h:AH}
@[simp] theorem ldV_zero:ldV (.v d::e) 0 h=.ok d h:=rfl
@[simp] theorem ldV_succ {x:Sl}:ldV (x::e) (k+1) h=ldV e k h:=by
 unfold ldV
 rw[Zaq]
@[simp] theorem add_ii {i j:Int}:Zcn .Add (.int i) (.int j) h=.ok (.int (i+j)) h:=rfl
@[simp] theorem sub_ii {i j:Int}:Zcn .Sub (.int i) (.int j) h=.ok (.int (i - j)) h:=rfl
@[simp] theorem mul_ii {i j:Int}:Zcn .Mult (.int i) (.int j) h=if (-(2 ^ 64) < i∧i < 2 ^ 64)∨(-(2 ^ 64) < j∧j < 2 ^ 64) then .ok (.int (i * j)) h else .stuck:=rfl
@[simp] theorem mod_ii {i j:Int}:Zcn .Mod (.int i) (.int j) h=if 0 < j then .ok (.int (i % j)) h else .stuck:=rfl
@[simp] theorem fdiv_ii {i j:Int}:Zcn .FloorDiv (.int i) (.int j) h=if 0 < j∧j < 1073741824 then .ok (.int (i / j)) h else .stuck:=rfl
@[simp] theorem add_ss {i j:List Nat}:Zcn .Add (.str i) (.str j) h=if i.length+j.length≤line then .ok (.str (i++j)) h else .stuck:=rfl
@[simp] theorem add_ll {i j:List D}:Zcn .Add (.lst i) (.lst j) h=if i.length+j.length≤line then .ok (.lst (i++j)) h else .stuck:=rfl
@[simp] theorem lt_ii {i j:Int}:ZcB .Lt (.int i) (.int j)=some (decide (i < j)):=rfl
@[simp] theorem le_ii {i j:Int}:ZcB .LtE (.int i) (.int j)=some (decide (i≤j)):=rfl
@[simp] theorem gt_ii {i j:Int}:ZcB .Gt (.int i) (.int j)=some (decide (j < i)):=rfl
@[simp] theorem tr_bl {b:Bool}:ZbM (.bl b)=some b:=rfl
@[simp] theorem ix_li {l:List D} {i:Int}:ZfI (.lst l) (.int i) h=Zbv (L2.atI l i) h:=rfl
@[simp] theorem ix_si {s:List Nat} {i:Int}:ZfI (.str s) (.int i) h=if s.length≤line then Zbv ((L2.atI s i).map fun c=>.str [c]) h else .stuck:=rfl
@[simp] theorem ix_r {n:Nat} {i:Int}:ZfI (.ref n) (.int i) h=match h.cell n with
  | .lst l=>Zbv (L2.atI l i) h
  |_=>.stuck:=rfl
@[simp] theorem len_s {s:List Nat}:ZeT .len (.str s) h=if s.length≤line then .ok (.int s.length) h else .stuck:=rfl
@[simp] theorem len_l {s:List D}:ZeT .len (.lst s) h=.ok (.int s.length) h:=rfl
@[simp] theorem int_i {i:Int}:ZeT .int (.int i) h=.ok (.int i) h:=rfl
@[simp] theorem any_l {l:List D}:ZeT .any (.lst l) h=Zbv ((bls l).map fun b=>.bl (b.any id)) h:=rfl
@[simp] theorem sl_s {s:List Nat} {a b:Option Int}:Zfo (.str s) a b h=if s.length≤line then .ok (.str (cut s a b)) h else .stuck:=rfl
@[simp] theorem sl_scr {s:List Int} {a b:Option Int}:Zfo (.scr s) a b h=.ok (.lst ((cut s a b).map .int)) h:=rfl
@[simp] theorem join_l {s:List Nat} {l:List D}:Zla .join (.str s) (.lst l) h=match Zi5 l with
   |some ys=>if Zn9 ys+ys.length * s.length≤line then .ok (.str (TL.joinL s ys)) h else .stuck
   |none=>.stuck:=rfl
@[simp] theorem src_l {l:List D}:Zlw (.lst l) h=some (.fix l):=rfl
@[simp] theorem len_fix {l:List D}:Src.len (.fix l) h=l.length:=rfl
@[simp] theorem bind_one {i:Nat} {v:D}:ZbB [i] v e=some (e.set i (.v v)):=rfl
end
/-! ### comprehensions -/
theorem Zea (l:List D) (f:D→AH→Res (Option D)) (h:AH):Zeb (.fix l) f (l.length+1) 0 h=ZgK f l h:=by
 rw[ZhW l f l.length 0 h rfl]; rfl
theorem mapI_n {l:List D} {f:D→AH→Res (Option D)} {h:AH} {k:Nat} (e:k=l.length+1):Zeb (.fix l) f k 0 h=ZgK f l h:=by rw[e,Zea]
theorem ZfM (l:List D) (f:D→Env→AH→Res Fl) (env:Env) (h:AH):ZiU (.fix l) f (l.length+1) 0 env h=ZiT f l env h:=by
 rw[Zie l f l.length 0 env h rfl]; rfl
theorem Zgr {f:D→AH→Res (Option D)} {h:AH} {k:D→D}:∀{l:List D},(∀x∈l,f x h=.ok (some (k x)) h)→ZgK f l h=.ok (l.map k) h
 |[],_=>rfl
 |x::l,H=>by
  unfold ZgK
  rw[H x Zag,bind_ok,Zgr fun y hy=>H y (Zaf _ hy),bind_ok]
  rfl
theorem ZhV {f:D→AH→Res (Option D)} {I:AH→Prop} {p:D→Prop} {X:D→AH→Prop}:∀{l:List D} {h:AH} {P:List D→AH→Prop},I h→(∀x∈l,∀h,I h→Wp (f x h) (fun o h'=>I h'∧∃y,o=some y∧p y) X)→
  (∀ys h',I h'→(∀y∈ys,p y)→ys.length=l.length→P ys h')→Wp (ZgK f l h) P X
 |[],h,P,hI,_,hP=>hP [] h hI (fun _ z=>nomatch z) rfl
 |x::l,h,P,hI,H,hP=>by
  unfold ZgK
  rw[Wp_bind]
  refine (H x Zag h hI).mono (fun o h' q=>?_) fun _ _ q=>q
  obtain⟨hI',y,rfl,py⟩:=q
  rw[Wp_bind]
  refine ZhV hI' (fun z hz=>H z (Zaf _ hz)) fun ys h'' hI'' hys hl=>?_
  rw[Wp_ok]
  refine hP _ _ hI'' (fun z hz=>?_) (by show (y::ys).length=_; rw[Zae,Zae,hl])
  rcases Zak.mp (show z∈y::ys from hz) with rfl |hz
  ·exact py
  ·exact hys z hz
theorem Zed {f:D→Env→AH→Res Fl} {X:D→AH→Prop} (I:Nat→Env→AH→Prop) {P:Fl→AH→Prop}:∀{l:List D} {k:Nat} {env:Env} {h:AH},I k env h→
  (∀(i:Nat) x env h,l[i]? =some x→I (k+i) env h→Wp (f x env h) (fun r h'=>match r with
   | .nx e=>I (k+i+1) e h'
   | .ct e=>I (k+i+1) e h'
   | .bk e=>P (.nx e) h'
   |r=>P r h') X)→(∀env h,I (k+l.length) env h→P (.nx env) h)→Wp (ZiT f l env h) P X
 |[],k,env,h,hI,_,hP=>hP env h hI
 |x::l,k,env,h,hI,H,hP=>by
  unfold ZiT
  rw[Wp_bind]
  refine (H 0 x env h rfl hI).mono (fun r h' q=>?_) fun _ _ q=>q
  have go:∀e,I (k+0+1) e h'→Wp (ZiT f l e h') P X:=fun e he=>Zed I (k:=k+1) he (fun i y env h hy hI'=>by
   have:=H (i+1) y env h (by simpa using hy) (by rw[show k+(i+1)=k+1+i by omega]; exact hI')
   rw[show k+(i+1)+1=k+1+i+1 by omega] at this
   exact this) fun env h z=>hP env h (by rw[Zae,show k+(l.length+1)=k+1+l.length by omega]; exact z)
  cases r with
  |nx e=>exact go e q
  |ct e=>exact go e q
  |_=>exact q
/-! ### the dice -/
def ZeL (r:Nat) (h:AH):Prop:=∃(cs:List Int) (a b m:Int),h.cell r=.lst [.lst (cs.map .int),.int a,.int b,.int m]∧0≤a
theorem Zbq (g:G) (n:Nat) (c:Bool) (f:Nat) (vs:List D) (h:AH):(cN g (n+1)).f c f vs h=match g.fn f with
  |some fd=>if vs.length=fd.np then fin (evSs g (cN g n) c fd.body (vs.map .v++List.replicate (fd.nb - fd.np) .no) h) else .stuck
  |none=>.stuck:=rfl
end Rk
/-! Rk.R:the dice of all laws. -/
namespace Rk
open PySem
def Zpp:Ss:=(.cons (.asg 1 (.cmpr (.bi .int (.var 3)) [3] (.seq (.slc (.var 0) .no (.so (.cst (.int 63))))) .nil))
 (.cons (.asg 2 (.bin .Add (.cst (.int 10028)) (.bin .Mult (.cst (.int 89)) (.bi .len (.var 1)))))
 (.cons (.for [3] (.seq (.var 1)) (.cons (.asg 2 (.bin .Mod (.bi .int (.bin .Add (.bin .Mult (.var 2) (.cst (.int 7919))) (.var 3))) (.cst (.int 2147483497))))
 .nil))
 (.cons (.ret (.hls (.cons (.var 1) (.cons (.cst (.int 0)) (.cons (.cst (.int 0)) (.cons (.var 2) .nil))))))
 .nil))))
def Zg2:Ss:=(.cons (.ifs (.cmp .Lt (.idx (.var 0) (.cst (.int 2))) (.cst (.int 2))) (.cons (.seti (.var 0) (.cst (.int 1)) (.bin .Add (.idx (.var 0) (.cst (.int 1))) (.cst (.int 1))))
 (.cons (.asg 3 (.bin .Add (.idx (.var 0) (.cst (.int 3))) (.bin .Mult (.idx (.var 0) (.cst (.int 1))) (.cst (.int 9343)))))
 (.cons (.ifs (.cmp .LtE (.idx (.var 0) (.cst (.int 1))) (.bi .len (.idx (.var 0) (.cst (.int 0))))) (.cons (.asg 3 (.idx (.idx (.var 0) (.cst (.int 0))) (.bin .Sub (.idx (.var 0) (.cst (.int 1))) (.cst (.int 1)))))
 .nil) .nil)
 (.cons (.ifs (.or (.cons (.cmp .Gt (.idx (.var 0) (.cst (.int 1))) (.bi .len (.idx (.var 0) (.cst (.int 0))))) (.cons (.cmp .Lt (.var 3) (.bin .Pow (.cst (.int 10)) (.cst (.int 18)))) .nil))) (.cons (.asg 4 (.bin .Mod (.bi .int (.bin .Add (.bin .Add (.bin .Mult (.var 3) (.cst (.int 47303))) (.bin .Mult (.idx (.var 0) (.cst (.int 1))) (.cst (.int 38219)))) (.idx (.var 0) (.cst (.int 3))))) (.cst (.int 2147483647))))
 (.cons (.asg 5 (.bin .Mod (.bi .int (.bin .Add (.bin .Mult (.var 4) (.var 4)) (.bin .Mult (.idx (.var 0) (.cst (.int 1))) (.cst (.int 51041))))) (.cst (.int 998244353))))
 (.cons (.ret (.bin .Mod (.bin .FloorDiv (.bin .Mod (.bi .int (.bin .Add (.bin .Mult (.var 5) (.cst (.int 46643))) (.var 4))) (.cst (.int 2147483563))) (.cst (.int 17))) (.var 1)))
 .nil))) .nil)
 (.cons (.seti (.var 0) (.cst (.int 2)) (.var 3))
 .nil))))) .nil)
 (.cons (.asg 2 (.bin .Mod (.bi .int (.idx (.var 0) (.cst (.int 2)))) (.var 1)))
 (.cons (.seti (.var 0) (.cst (.int 2)) (.bin .FloorDiv (.bi .int (.idx (.var 0) (.cst (.int 2)))) (.var 1)))
 (.cons (.ret (.var 2))
 .nil))))
def ofB (k:Nat):Ss:=(.cons (.ret (.idx (.var 1) (.cal k (.cons (.var 0) (.cons (.bi .len (.var 1)) .nil)) .nil [0,1])))
 .nil)
def ZgX:Ss:=(.cons (.ret (.same 0 1))
 .nil)
def But (r:Nat) (h h':AH):Prop:=h'.nx=h.nx∧∀j,j≠r→h'.cell j=h.cell j
theorem But.refl (r:Nat) (h:AH):But r h h:=⟨rfl,fun _ _=>rfl⟩
theorem But.trans {r:Nat} {h h1 h2:AH} (a:But r h h1) (b:But r h1 h2):But r h h2:=⟨b.1.trans a.1,fun j hj=>(b.2 j hj).trans (a.2 j hj)⟩
theorem But.put (r:Nat) (h:AH) (c:ZeW):But r h (h.put r c):=⟨rfl,fun j hj=>if_neg hj⟩
theorem ZcY (h:AH) (r:Nat) (c:ZeW):(h.put r c).cell r=c:=if_pos rfl
theorem Zhm (a b:Int):deq (.int a) (.int b)=(a == b):=by unfold deq; rfl
theorem lines:(63:Nat)≤line:=by decide
theorem Zkd:L2.ixN (0+1+1+1+1) 1=some 1:=rfl
theorem ZlZ:L2.ixN (0+1+1+1+1) 2=some 2:=rfl
section
variable {g:G} {c:Bool} {n i:Nat} {P:D→AH→Prop} {X:D→AH→Prop}
theorem at0 {α:Type} (a b c d:α):L2.atI [a,b,c,d] 0=some a:=rfl
theorem at1 {α:Type} (a b c d:α):L2.atI [a,b,c,d] 1=some b:=rfl
theorem at2 {α:Type} (a b c d:α):L2.atI [a,b,c,d] 2=some c:=rfl
theorem at3 {α:Type} (a b c d:α):L2.atI [a,b,c,d] 3=some d:=rfl
theorem ZdL (hf:g.fn i=some ⟨2,6,Zg2⟩) {r:Nat} {h:AH} {m:Int} (hd:ZeL r h) (h0:0 < m) (h1:m < 1073741824) (hP:∀k h',0≤k→k < m→ZeL r h'→But r h h'→P (.int k) h'):Wp ((cN g (n+1)).f c i [.ref r,.int m] h) P X:=by
 obtain⟨cs,a,b,mk,hc,ha⟩:=hd
 rw[Zbq,hf]
 simp only[Zae,Zat,Zg2,evSs,evS,evT,evE,Zap,ZaW,ZaF,ZaG,List.replicate,bind_ok,bindX_ok,ldV_zero,ldV_succ,ix_r,hc,at2,lt_ii,Zaz,Zbv,tr_bl,if_true,fin,Wp_bind,Wp_noexc]
 have mi:∀(e:Int) (k:Int),(-(2 ^ 64) < k∧k < 2 ^ 64)→∀h:AH,Zcn .Mult (.int e) (.int k) h=.ok (.int (e * k)) h:=fun e k hk h=>by rw[mul_ii,if_pos (.inr hk)]
 have c1:(-(2 ^ 64) < (9343:Int)∧(9343:Int) < 2 ^ 64):=by decide
 have c2:(-(2 ^ 64) < (47303:Int)∧(47303:Int) < 2 ^ 64):=by decide
 have c3:(-(2 ^ 64) < (38219:Int)∧(38219:Int) < 2 ^ 64):=by decide
 have c4:(-(2 ^ 64) < (51041:Int)∧(51041:Int) < 2 ^ 64):=by decide
 have c5:(-(2 ^ 64) < (46643:Int)∧(46643:Int) < 2 ^ 64):=by decide
 have md:∀(e k:Int),0 < k→∀h:AH,Zcn .Mod (.int e) (.int k) h=.ok (.int (e % k)) h:=fun e k hk h=>by rw[mod_ii,if_pos hk]
 have fd:∀(e k:Int),0 < k→k < 1073741824→∀h:AH,Zcn .FloorDiv (.int e) (.int k) h=.ok (.int (e / k)) h:=fun e k hk hk2 h=>by rw[fdiv_ii,if_pos ⟨hk,hk2⟩]
 have pw:∀h:AH,Zcn .Pow (.int 10) (.int 18) h=.ok (.int (10 ^ 18)) h:=fun h=>rfl
 have sq:∀(e:Int),0≤e→e < 2147483647→∀h:AH,Zcn .Mult (.int e) (.int e) h=.ok (.int (e * e)) h:=fun e h0 h1 h=>mi e e ⟨by omega,by omega⟩ h
 have tail:∀(h':AH) (x:Int),ZeL r h'→But r h h'→0≤x % m∧x % m < m:=fun h' x _ _=>⟨Zck _ (by omega),ZbS _ h0⟩
 by_cases hb:b < 2
 ·simp only[hb,hc,decide_true,if_true,bind_ok,bindX_ok,at1,add_ii,Zae,Zat,Zkd,Zav,Zas,ldV_zero,ldV_succ,ix_r,ZcY,at3,at0,mi _ _ c1,len_l,Zac,Zaz,Zbv,tr_bl,le_ii,or_true]
  by_cases hl:a+1≤(cs.length:Int)
  ·obtain⟨v,hv⟩:∃v,cs[a.toNat]? =some v:=⟨cs[a.toNat]'(by omega),Zad (by omega)⟩
   have hv2:L2.atI (cs.map D.int) (a+1 - 1)=some (.int v):=by
    unfold L2.atI L2.ixN
    rw[if_pos (by omega),if_pos (by rw[Zac]; omega),ZaE,ZaK,show (a+1 - 1).toNat=a.toNat by omega,hv]
    rfl
   simp only[hl,decide_true,if_true,bind_ok,bindX_ok,ldV_zero,ldV_succ,ix_r,ZcY,at0,at1,sub_ii,ix_li,Zbv,hv2,Zav,Zas,evOr,evE,len_l,Zac,gt_ii,Zaz,tr_bl,pw,lt_ii]
   have hg:¬((cs.length:Int) < a+1):=by omega
   simp only[hg,decide_false,bind_ok,bindX_ok,ldV_zero,ldV_succ,pw,lt_ii,Zaz,tr_bl]
   by_cases hs:v < 10 ^ 18
   ·simp only[hs,decide_true,if_true,bind_ok,bindX_ok]
    have q0:=Zck (v * 47303+(a+1) * 38219+mk) (show (2147483647:Int)≠0 by decide)
    have q1:=ZbS (v * 47303+(a+1) * 38219+mk) (show (0:Int) < 2147483647 by decide)
    simp only[bind_ok,bindX_ok,ldV_zero,ldV_succ,ix_r,ZcY,at0,at1,at2,at3,add_ii,int_i,Zbv,Zav,Zas,if_true,decide_true,decide_false,Zaz,tr_bl,Wp_ok,Wp_bind,Wp_bindX,Zae,Zat,Zkd,ZlZ,mi _ _ c2,mi _ _ c3,md _ 2147483647 (by decide),sq _ q0 q1,mi _ _ c4,md _ 998244353 (by decide),mi _ _ c5,md _ 2147483563 (by decide),fd _ 17 (by decide) (by decide),md _ m h0]
    have dl:ZeL r (h.put r (ZeW.lst [D.lst (List.map D.int cs),D.int (a+1),D.int b,D.int mk])):=⟨cs,a+1,b,mk,ZcY _ _ _,by omega⟩
    exact hP _ _ (Zck _ (by omega)) (ZbS _ h0) dl (But.put _ _ _)
   ·simp only[hs,decide_false,Zau,if_false,bind_ok,bindX_ok,ldV_zero,ldV_succ,ix_r,ZcY,at0,at1,at2,at3,add_ii,int_i,Zbv,Zav,Zas,if_true,decide_true,decide_false,Zaz,tr_bl,Wp_ok,Wp_bind,Wp_bindX,Zae,Zat,Zkd,ZlZ,md _ m h0,fd _ m h0 h1]
    refine hP _ _ (Zck _ (by omega)) (ZbS _ h0) ⟨cs,a+1,v / m,mk,ZcY _ _ _,by omega⟩ ?_
    exact ((But.put _ _ _).trans (But.put _ _ _)).trans (But.put _ _ _)
  ·have hg:(cs.length:Int) < a+1:=by omega
   simp only[hl,hg,decide_true,decide_false,Zau,if_false,if_true,bind_ok,bindX_ok,ldV_zero,ldV_succ,ix_r,ZcY,at0,at1,Zbv,evOr,evE,len_l,Zac,gt_ii,Zaz,tr_bl]
   have q0:=Zck ((mk+(a+1) * 9343) * 47303+(a+1) * 38219+mk) (show (2147483647:Int)≠0 by decide)
   have q1:=ZbS ((mk+(a+1) * 9343) * 47303+(a+1) * 38219+mk) (show (0:Int) < 2147483647 by decide)
   simp only[bind_ok,bindX_ok,ldV_zero,ldV_succ,ix_r,ZcY,at0,at1,at2,at3,add_ii,int_i,Zbv,Zav,Zas,if_true,decide_true,decide_false,Zaz,tr_bl,Wp_ok,Wp_bind,Wp_bindX,Zae,Zat,Zkd,ZlZ,mi _ _ c2,mi _ _ c3,md _ 2147483647 (by decide),sq _ q0 q1,mi _ _ c4,md _ 998244353 (by decide),mi _ _ c5,md _ 2147483563 (by decide),fd _ 17 (by decide) (by decide),md _ m h0]
   have dl:ZeL r (h.put r (ZeW.lst [D.lst (List.map D.int cs),D.int (a+1),D.int b,D.int mk])):=⟨cs,a+1,b,mk,ZcY _ _ _,by omega⟩
   exact hP _ _ (Zck _ (by omega)) (ZbS _ h0) dl (But.put _ _ _)
 ·simp only[hb,hc,decide_false,Zau,if_false,bind_ok,bindX_ok,ldV_zero,ldV_succ,ix_r,ZcY,at0,at1,at2,at3,add_ii,int_i,Zbv,Zav,Zas,if_true,decide_true,decide_false,Zaz,tr_bl,Wp_ok,Wp_bind,Wp_bindX,Zae,Zat,Zkd,ZlZ,md _ m h0,fd _ m h0 h1]
  exact hP _ _ (Zck _ (by omega)) (ZbS _ h0) ⟨cs,a,b / m,mk,ZcY _ _ _,ha⟩ (But.put _ _ _)
theorem Zpt {α:Type} (l:List α) (a b:Option Int):(cut l a b).length≤l.length:=by
 unfold cut
 rw[Za0,ZbP]
 omega
theorem ZnS (hf:g.fn i=some ⟨1,4,Zpp⟩) {l:List Int} {h:AH} (hl:l.length≤63) (hP:∀h',h'.nx=h.nx+1→(∀j,j≠h.nx→h'.cell j=h.cell j)→ZeL h.nx h'→P (.ref h.nx) h'):Wp ((cN g (n+1)).f c i [.scr l] h) P X:=by
 have hlen:(List.map D.int (cut l none (some 63))).length≤line:=by
  rw[Zac]
  exact ZaI (Zpt _ _ _) (ZaI hl lines)
 have mi:∀(e:Int) (k:Int),(-(2 ^ 64) < k∧k < 2 ^ 64)→∀h:AH,Zcn .Mult (.int e) (.int k) h=.ok (.int (e * k)) h:=fun e k hk h=>by rw[mul_ii,if_pos (.inr hk)]
 have mj:∀(e:Int) (k:Int),(-(2 ^ 64) < e∧e < 2 ^ 64)→∀h:AH,Zcn .Mult (.int e) (.int k) h=.ok (.int (e * k)) h:=fun e k hk h=>by rw[mul_ii,if_pos (.inl hk)]
 have c1:(-(2 ^ 64) < (7919:Int)∧(7919:Int) < 2 ^ 64):=by decide
 have c2:(-(2 ^ 64) < (89:Int)∧(89:Int) < 2 ^ 64):=by decide
 have md:∀(e k:Int),0 < k→∀h:AH,Zcn .Mod (.int e) (.int k) h=.ok (.int (e % k)) h:=fun e k hk h=>by rw[mod_ii,if_pos hk]
 rw[Zbq,hf]
 simp only[Zae,Zat,Zpp,evSs,evS,evE,evEs,evIt,evOp,evIfs,Zap,ZaW,ZaF,ZaG,List.replicate,bind_ok,bindX_ok,ldV_zero,ldV_succ,sl_scr,Zbv,src_l,len_fix,if_true,fin,Wp_bind,Wp_noexc,hlen,bind_one,Zav,Zas,Zea]
 rw[Zgr (k:=id) (fun x hx=>by
  obtain⟨v,_,rfl⟩:=Zah.mp hx
  rfl)]
 simp only[Za6,Wp_ok,bind_ok,bindX_ok,List.map_id,ldV_zero,ldV_succ,len_l,mj _ _ c2,add_ii,src_l,len_fix,ZfM,Zbv,Zav,Zas,Wp_bind]
 refine Zed (k:=0) (fun _ env h'=>h'=h∧∃mk v,env=[.v (.scr l),.v (.lst (List.map D.int (cut l none (some 63)))),.v (.int mk),v]) ⟨rfl,_,_,rfl⟩ ?_ ?_
 ·rintro j x env h' hx ⟨rfl,mk,v,rfl⟩
  obtain⟨z,_,rfl⟩:=Zah.mp (Zao hx)
  simp only[bind_one,Zav,Zas,bind_ok,bindX_ok,ldV_zero,ldV_succ,mi _ _ c1,add_ii,int_i,md _ 2147483497 (by decide),Wp_ok]
  exact⟨trivial,_,_,rfl⟩
 ·rintro env h' ⟨rfl,mk,v,rfl⟩
  simp only[bind_ok,bindX_ok,ldV_zero,ldV_succ,Zae,Zat,Wp_ok,Wp_bind,Wp_bindX]
  rw[if_pos (show 0+1+1+1+1≤line by decide)]
  refine hP _ rfl (fun j hj=>if_neg hj) ⟨cut l none (some 63),0,0,mk,if_pos rfl,by decide⟩
theorem Zjb {k:Nat} (hk:g.fn k=some ⟨2,6,Zg2⟩) (hf:g.fn i=some ⟨2,2,ofB k⟩) (hd0:g.dfl k=[]) {r:Nat} {h:AH} {l:List D} (hd:ZeL r h) (hl:l≠[]) (hm:l.length < 1073741824) (hP:∀x h',x∈l→ZeL r h'→But r h h'→P x h'):Wp ((cN g (n+1+1)).f c i [.ref r,.lst l] h) P X:=by
 have pos:0 < l.length:=Zdu.mpr hl
 rw[Zbq,hf]
 simp only[Zae,Zat,ofB,evSs,evS,evE,evEs,Zap,ZaW,ZaF,ZaG,bind_ok,bindX_ok,ldV_zero,ldV_succ,len_l,if_true,fin,Wp_bind,Wp_noexc,Wp_bindX,hd0,Zaw,ZbU,ZaA,Zaq,List.replicate]
 refine ZdL hk hd (by omega) (by omega) fun kk h' k0 k1 dl bt=>?_
 have hx:L2.atI l kk=some (l[kk.toNat]'(by omega)):=by
  unfold L2.atI L2.ixN
  rw[if_pos k0,if_pos k1,ZaE,Zad]
 simp only[ix_li,Zbv,hx,Wp_ok]
 exact hP _ _ (ZeJ _) dl bt
theorem ZnQ {k:Nat} (hk:g.fn k=some ⟨2,6,Zg2⟩) (hf:g.fn i=some ⟨2,2,ofB k⟩) (hd0:g.dfl k=[]) {r:Nat} {h:AH} {l:List Nat} (hd:ZeL r h) (hl:l≠[]) (hm:l.length≤line) (hP:∀x h',x∈l→ZeL r h'→But r h h'→P (.str [x]) h'):Wp ((cN g (n+1+1)).f c i [.ref r,.str l] h) P X:=by
 have pos:0 < l.length:=Zdu.mpr hl
 have hm2:l.length < 1073741824:=Zbr hm (by decide)
 rw[Zbq,hf]
 simp only[Zae,Zat,ofB,evSs,evS,evE,evEs,Zap,ZaW,ZaF,ZaG,bind_ok,bindX_ok,ldV_zero,ldV_succ,len_s,hm,if_true,fin,Wp_bind,Wp_noexc,Wp_bindX,hd0,Zaw,ZbU,ZaA,Zaq,List.replicate]
 refine ZdL hk hd (by omega) (by omega) fun kk h' k0 k1 dl bt=>?_
 have hx:L2.atI l kk=some (l[kk.toNat]'(by omega)):=by
  unfold L2.atI L2.ixN
  rw[if_pos k0,if_pos k1,ZaE,Zad]
 simp only[ix_si,hm,if_true,Zbv,hx,Zaz,Wp_ok]
 exact hP _ _ (ZeJ _) dl bt
theorem Zom (hf:g.fn i=some ⟨2,2,ZgX⟩) {h:AH} {x y:D} {w:Nat} (e:x=y) (hs:Zbb x x=true) (hw:wt x=some w) (hl:w≤60000) (hd:dpt 60 x=true):(cN g (n+1)).f c i [x,y] h=.ok (.bl true) h:=by
 subst e
 rw[Zbq,hf]
 simp only[Zae,Zat,ZgX,evSs,evS,evE,Zap,ZaW,ZaF,ZaG,List.replicate,bind_ok,bindX_ok,ldV_zero,ldV_succ,if_true,fin,Za6,Zdg,hs,hw,hl,hd,and_self]
end
end Rk
/-! Rk.S:words,years,names of all laws. -/
namespace Rk
open PySem
def plain:D→Bool
 | .non=>true
 | .bl _=>true
 | .int _=>true
 | .str s=>decide (s.length≤line)
 | .tup _=>true
 | .lst _=>true
 |_=>false
theorem e8:(8:Nat)≤line:=by decide
section
end
end Rk
/-! Rk.T:drawn words and names. -/
namespace Rk
open PySem
theorem sIx_lo (n:Nat):HT.sIx n 0 none=0:=rfl
theorem sIx_hi (n:Nat):HT.sIx n n none=n:=rfl
theorem sIx_in {n d:Nat} {a:Int} (h0:0≤a) (h1:a≤n):HT.sIx n d (some a)=a.toNat:=by
 unfold HT.sIx
 simp only
 first
  |(rw[if_neg (by omega)]; omega)
  |(split<;>omega)
  |omega
theorem Zmu {α:Type} {l:List α} {a:Int} (h0:0≤a) (h1:a≤l.length):cut l (some a) none=l.drop a.toNat:=by
 unfold cut
 rw[sIx_hi,sIx_in h0 h1]
 refine List.take_of_length_le ?_
 rw[ZbP]
 omega
theorem joinE:∀s:List Nat,TL.joinL [] (s.map fun c=>[c])=s
 |[]=>rfl
 |[c]=>rfl
 |c::d::s=>by
  have e:=joinE (d::s)
  show [c]++([]++TL.joinL [] ((d::s).map fun c=>[c]))=_
  rw[e]
  rfl
theorem sumE:∀s:List Nat,Zn9 (s.map fun c=>[c])=s.length
 |[]=>rfl
 |c::s=>by
  show 1+Zn9 (s.map fun c=>[c])=s.length+1
  rw[sumE s]
  omega
theorem signs {A:List Nat}:∀{ys:List D},(∀y∈ys,∃x∈A,y=.str [x])→∃s:List Nat,Zi5 ys=some (s.map fun c=>[c])∧(∀c∈s,c∈A)∧s.length=ys.length
 |[],_=>⟨[],rfl,fun _ z=>(nomatch z),rfl⟩
 |y::ys,H=>by
  obtain⟨x,hx,rfl⟩:=H y Zag
  obtain⟨s,e1,e2,e3⟩:=signs fun z hz=>H z (Zaf _ hz)
  refine⟨x::s,?_,fun c hc=>?_,by rw[Zae,Zae,e3]⟩
  ·show (Zi5 ys).map ([x]:: ·)=_
   rw[e1]
   rfl
  ·rcases Zak.mp hc with rfl |hc
   ·exact hx
   ·exact e2 c hc
theorem ZoV {A:List Nat} {ys:List D} {h:AH} (H:∀y∈ys,∃x∈A,y=.str [x]) (hl:ys.length≤line):∃s:List Nat,Zla .join (.str []) (.lst ys) h=.ok (.str s) h∧(∀c∈s,c∈A)∧s.length=ys.length:=by
 obtain⟨s,e1,e2,e3⟩:=signs H
 refine⟨s,?_,e2,e3⟩
 rw[join_l,e1]
 simp only[sumE,Zac,Zat,Nat.mul_zero,Nat.add_zero,joinE]
 rw[if_pos (by rw[e3]; exact hl)]
theorem ZdQ (i:Int):(Zcm 0 i).length=i.toNat:=by unfold Zcm; rw[Zac,Zby,Int.sub_zero]
theorem Zny {α:Type} {l:List α} (k:Nat):cut l none (some (k:Int))=l.take k:=by
 unfold cut
 rw[sIx_lo,List.drop_zero,Nat.sub_zero]
 unfold HT.sIx
 simp only
 rw[if_neg (by omega),ZcM]
 by_cases hk:k≤l.length
 ·rw[Nat.min_eq_left hk]
 ·rw[Nat.min_eq_right (by omega),ZeH,List.take_of_length_le (by omega)]
theorem hline {k:Nat} (h:k≤1000):(k≤line)=True:=eq_true (ZaI h (by decide))
section
end
end Rk
/-! Rk.U:works of all laws. -/
namespace Rk
open PySem
def pl:Nat→D→Bool
 |0,d=>plain d
 |k+1,d=>plain d&&(match d with
  | .tup l=>l.all (pl k)
  |_=>true)
section
variable {g:G} {n i:Nat} {h:AH} {P:D→AH→Prop} {X:D→AH→Prop}
theorem ZlQ {a b:Int}:ZcB .NotEq (.int a) (.int b)=some (!(a == b)):=by
 show (if dpt 60 (.int a)&&dpt 60 (.int b) then some (!deq (.int a) (.int b)) else none)=_
 rw[Zhm]
 rfl
end
end Rk
/-! Rk.Al:letters of numbers; errors told. -/
namespace Rk
open PySem
/-! ### the fields of an error -/
section
end
/-! ### letters -/
section
/-! ### the law's own letters -/
end
/-! ### a lambda that raises -/
end Rk
/-! Rk.Ke:keys and their parts. -/
namespace Rk
open PySem
section
end
end Rk
/-! Rk.Dr:drawn pieces. -/
namespace Rk
open PySem
def sFolk:List Nat:=[102,111,108,107]
def sTitle:List Nat:=[116,105,116,108,101]
def sMore:List Nat:=[109,111,114,101]
def sBar:List Nat:=[98,97,114]
def sYear:List Nat:=[121,101,97,114]
section
end
end Rk
/-! Rk.St:pieces,works and stems as typed data. -/
namespace Rk
open PySem
/-! ### the law's own stems -/
section
end
end Rk
/-! Rk.Wk:works needed,changed; laws' lambdas; equal data. -/
namespace Rk
open PySem
theorem Pg.dfl_nil {p:Pg} (h:(p.ds.all fun d=>(dfD d.dd).isEmpty)=true) (k:Nat):p.G.dfl k=[]:=by
 rfl
mutual
theorem ZgN:∀(d:D) (w:Nat),wt d=some w→Zbb d d=true
 | .non,_,_=>by unfold Zbb; rfl
 | .bl b,_,_=>by unfold Zbb; exact ZaB b
 | .int i,_,_=>by unfold Zbb; exact ZaB i
 | .str s,_,_=>by unfold Zbb; exact ZaB s
 | .tup l,w,h=>by
  unfold wt at h
  obtain⟨a,e,_⟩:=Zan.mp h
  unfold Zbb
  exact wts_same l a e
 | .lst l,w,h=>by
  unfold wt at h
  obtain⟨a,e,_⟩:=Zan.mp h
  unfold Zbb
  exact wts_same l a e
 | .dct _ _,_,h=>by unfold wt at h; cases h
 | .set _,_,h=>by unfold wt at h; cases h
 | .ktp _,_,h=>by unfold wt at h; cases h
 | .ref _,_,h=>by unfold wt at h; cases h
 | .ins _ _,_,h=>by unfold wt at h; cases h
 | .exc _ _,_,h=>by unfold wt at h; cases h
 | .scr _,_,h=>by unfold wt at h; cases h
theorem wts_same:∀(l:List D) (w:Nat),wts l=some w→dsames l l=true
 |[],_,_=>by unfold dsames; rfl
 |x::l,w,h=>by
  unfold wts at h
  split at h
  ·rename_i a b h1 h2
   unfold dsames
   rw[ZgN x a h1,wts_same l b h2]
   rfl
  ·cases h
end
theorem ZlD {g:G} {c:Bool} {n i:Nat} (hf:g.fn i=some ⟨2,2,ZgX⟩) {h:AH} {x y:D} {w:Nat} (e:x=y) (hw:wt x=some w) (hl:w≤60000) (hd:dpt 60 x=true):(cN g (n+1)).f c i [x,y] h=.ok (.bl true) h:=Zom hf e (ZgN x w hw) hw hl hd
def Sm (k:Nat) (d:D):Prop:=∃w,wt d=some w∧w≤k
theorem Sm.tup {k:Nat}:∀{l:List D} {m:Nat},(∀x∈l,Sm k x)→l.length * k+1≤m→Sm m (.tup l):=by
 have go:∀l:List D,(∀x∈l,Sm k x)→∃w,wts l=some w∧w≤l.length * k:=by
  intro l
  induction l with
  |nil=>exact fun _=>⟨0,rfl,ZeB _⟩
  |cons x l ih=>
   intro h
   obtain⟨a,ha,hak⟩:=h x Zag
   obtain⟨b,hb,hbk⟩:=ih fun y hy=>h y (Zaf _ hy)
   refine⟨a+b,by unfold wts; rw[ha,hb],?_⟩
   rw[Zae,Nat.succ_mul]
   omega
 intro l m h hm
 obtain⟨w,hw,hwk⟩:=go l h
 exact⟨w+1,by unfold wt; rw[hw]; rfl,by omega⟩
theorem Sm.lst {k:Nat} {l:List D} {m:Nat} (h:∀x∈l,Sm k x) (hm:l.length * k+1≤m):Sm m (.lst l):=by
 obtain⟨w,hw,hl⟩:=Sm.tup (m:=m) h hm
 refine⟨w,?_,hl⟩
 unfold wt at hw⊢
 exact hw
theorem Sm.up {k m:Nat} {d:D} (h:Sm k d) (hm:k≤m):Sm m d:=by
 obtain⟨w,hw,hl⟩:=h
 exact⟨w,hw,ZaI hl hm⟩
theorem Sm.of {k:Nat} {d:D} (h:(match wt d with
  |some w=>decide (w≤k)
  |none=>false)=true):Sm k d:=by
 match e:wt d,h with
 |some w,h=>exact⟨w,e,ZaC h⟩
theorem Sm.str {k:Nat} {s:List Nat} (h:s.length+1≤k):Sm k (.str s):=⟨s.length+1,by unfold wt; rfl,h⟩
theorem Sm.int {i:Int} {k:Nat} (h:i.natAbs < 1000000000000) (hk:1≤k):Sm k (.int i):=⟨1,by unfold wt; rw[if_pos h],hk⟩
theorem Zjy {g:G} {c:Bool} {n i:Nat} (hf:g.fn i=some ⟨2,2,ZgX⟩) {h:AH} {x y:D} (e:x=y) (hw:Sm 60000 x) (hd:dpt 60 x=true):(cN g (n+1)).f c i [x,y] h=.ok (.bl true) h:=by
 obtain⟨w,hw,hl⟩:=hw
 exact ZlD hf e hw hl hd
/-! ### lambdas -/
/-! ### needed -/
section
end
/-! ### works changed -/
section
variable {g:G} {n i nw yr ws nd er f:Nat} {h:AH} {a b c d y x z:D} {cd:List Nat}
theorem eq_ss {s t:List Nat}:ZcB .Eq (.str s) (.str t)=some (s == t):=by
 show (if dpt 60 (.str s)&&dpt 60 (.str t) then some (deq (.str s) (.str t)) else none)=_
 rfl
end
/-! ### works as data -/
theorem ZfT (k:Nat):∀l:List (List Nat),dpts k (l.map D.str)=true
 |[]=>by cases k<;>rfl
 |s::l=>by rw[Zap]; unfold dpts; rw[ZfT k l]; cases k<;>rfl
mutual
theorem ZkD:∀{d:D} {j k:Nat},dpt j d=true→j≤k→dpt k d=true
 | .non,j,k,h,hk=>by unfold dpt; rfl
 | .bl _,j,k,h,hk=>by unfold dpt; rfl
 | .int _,j,k,h,hk=>by unfold dpt; rfl
 | .str _,j,k,h,hk=>by unfold dpt; rfl
 | .tup l,0,k,h,hk=>by unfold dpt at h; cases h
 | .lst l,0,k,h,hk=>by unfold dpt at h; cases h
 | .tup l,j+1,k,h,hk=>by
  obtain⟨k,rfl⟩:∃m,k=m+1:=⟨k - 1,by omega⟩
  unfold dpt at h⊢
  exact dpts_up h (by omega)
 | .lst l,j+1,k,h,hk=>by
  obtain⟨k,rfl⟩:∃m,k=m+1:=⟨k - 1,by omega⟩
  unfold dpt at h⊢
  exact dpts_up h (by omega)
 | .ref _,j,k,h,hk=>by cases j<;>(unfold dpt at h; cases h)
 | .ins _ _,j,k,h,hk=>by cases j<;>(unfold dpt at h; cases h)
 | .exc _ _,j,k,h,hk=>by cases j<;>(unfold dpt at h; cases h)
 | .scr _,j,k,h,hk=>by cases j<;>(unfold dpt at h; cases h)
 | .dct _ _,j,k,h,hk=>by cases j<;>(unfold dpt at h; cases h)
 | .set _,j,k,h,hk=>by cases j<;>(unfold dpt at h; cases h)
 | .ktp _,j,k,h,hk=>by cases j<;>(unfold dpt at h; cases h)
theorem dpts_up:∀{l:List D} {j k:Nat},dpts j l=true→j≤k→dpts k l=true
 |[],j,k,h,hk=>by unfold dpts; rfl
 |d::l,j,k,h,hk=>by
  unfold dpts at h⊢
  rw[Zaa] at h
  rw[ZkD h.1 hk,dpts_up h.2 hk]
  rfl
end
end Rk
/-! Rk.Tx:texts cut and glued; styles read and written. -/
namespace Rk
open PySem
/-! ### a piece's words -/
def digs:List (List Nat):=[[49],[50],[51],[52],[53],[54],[55],[56]]
def rdW (w:List Nat):D:=if w∈digs then .int (NumText.digitsVal w:Nat) else .str w
def txW:D→List Nat
 | .int i=>TL.numL i.toNat
 | .str s=>s
 |_=>[]
section
end
theorem n10:(((1:Nat):Int) == 0)=false:=rfl
theorem n13:(((1:Nat):Int) == 3)=false:=rfl
theorem n12:(((1:Nat):Int) == 2)=false:=rfl
theorem ZiV {a b:Int}:ZcB .Eq (.int a) (.int b)=some (a == b):=by
 show (if dpt 60 (.int a)&&dpt 60 (.int b) then some (deq (.int a) (.int b)) else none)=_
 rw[Zhm]
 rfl
section
end
end Rk
/-! Rk.Sy:styles made. -/
namespace Rk
open PySem
section
end
section
variable {g:G} {n i c rp ip nu gm er er' fo:Nat} {h:AH}
/-! ### what a style tells -/
def Itm (x:D):Prop:=(∃s,x=.str s)∨∃k:Nat,x=.int k∧k < 1000000
end
end Rk
/-! Rk.Sz:texts of drawn pieces; texts that bend. -/
namespace Rk
open PySem
mutual
theorem ZmK:∀(d:D) (w:Nat),wt d=some w→deq d d=true
 | .non,_,_=>by unfold deq; rfl
 | .bl b,_,_=>by unfold deq; exact ZaB b
 | .int i,_,_=>by unfold deq; exact ZaB i
 | .str s,_,_=>by unfold deq; exact ZaB s
 | .tup l,w,h=>by
  unfold wt at h
  obtain⟨a,e,_⟩:=Zan.mp h
  unfold deq
  exact wts_deq l a e
 | .lst l,w,h=>by
  unfold wt at h
  obtain⟨a,e,_⟩:=Zan.mp h
  unfold deq
  exact wts_deq l a e
 | .dct _ _,_,h=>by unfold wt at h; cases h
 | .set _,_,h=>by unfold wt at h; cases h
 | .ktp _,_,h=>by unfold wt at h; cases h
 | .ref _,_,h=>by unfold wt at h; cases h
 | .ins _ _,_,h=>by unfold wt at h; cases h
 | .exc _ _,_,h=>by unfold wt at h; cases h
 | .scr _,_,h=>by unfold wt at h; cases h
theorem wts_deq:∀(l:List D) (w:Nat),wts l=some w→deqs l l=true
 |[],_,_=>by unfold deqs; rfl
 |x::l,w,h=>by
  unfold wts at h
  split at h
  ·rename_i a b h1 h2
   unfold deqs
   rw[ZmK x a h1,wts_deq l b h2]
   rfl
  ·cases h
end
theorem Sm.deq {k:Nat} {d:D} (h:Sm k d):deq d d=true:=by
 obtain⟨w,hw,_⟩:=h
 exact ZmK d w hw
theorem ZjJ {a:Nat} (h1:1≤a) (h8:a≤8):rdW (txW (.int a))=.int a∧(txW (.int a)).length=1∧32∉txW (.int a)∧44∉txW (.int a):=by
 obtain rfl |rfl |rfl |rfl |rfl |rfl |rfl |rfl:a=1∨a=2∨a=3∨a=4∨a=5∨a=6∨a=7∨a=8:=by omega
 all_goals exact⟨rfl,rfl,by decide,by decide⟩
def PI (x:D):Prop:=rdW (txW x)=x∧(txW x).length≤5∧32∉txW x∧44∉txW x∧Itm x
theorem PI.int {a:Nat} (h1:1≤a) (h8:a≤8):PI (.int a):=by
 obtain⟨a1,a2,a3,a4⟩:=ZjJ h1 h8
 exact⟨a1,by omega,a3,a4,.inr ⟨a,rfl,by omega⟩⟩
theorem PI.str {s:List Nat} (h:s∈[sFolk,sTitle,sMore,sBar,sYear]):PI (.str s):=by
 simp only[Zak,ZbO,or_false] at h
 rcases h with rfl |rfl |rfl |rfl |rfl<;>exact⟨rfl,by decide,by decide,by decide,.inl ⟨_,rfl⟩⟩
section
end
section
end
end Rk
/-! Rk.Sb:stems made by the program's styles. -/
namespace Rk
open PySem
section
end
section
end
/-! ### drawn pieces -/
section
end
end Rk
/-! Rk.Nw:works that are near; stems told by their parts. -/
namespace Rk
open PySem
section
end
/-! ### stems and their parts -/
end Rk
/-! Rk.Sr:styles refused. -/
namespace Rk
open PySem
section
end
end Rk
/-! Rk.Wt:texts of works. -/
namespace Rk
open PySem
end Rk
/-! Rk.Wv:works read and written by the program. -/
namespace Rk
open PySem
theorem ZlP {s t:List Nat}:ZcB .NotEq (.str s) (.str t)=some (!(s == t)):=by
 show (if dpt 60 (.str s)&&dpt 60 (.str t) then some (!deq (.str s) (.str t)) else none)=_
 unfold dpt deq
 rfl
section
end
end Rk
/-! Rk.Ru:rules. -/
namespace Rk
open PySem
def ZmX:List Nat:=[116,105,116,108,101]
def ZjK:List Nat:=[99,111,109,105,110,103]
def rFree:List Nat:=[102,114,101,101]
def rNext:List Nat:=[110,101,120,116]
def rFresh:List Nat:=[102,114,101,115,104]
def rNone:List Nat:=[110,111,110,101]
def rUntil:List Nat:=[117,110,116,105,108]
def rEver:List Nat:=[101,118,101,114]
def gives:List (List Nat):=[ZmX,ZjK,rFree,rNext,rFresh]
def ZmN:List (List Nat):=[rNone,rUntil,rEver]
theorem Zk3 (s:List Nat):∀l:List (List Nat),((l.map D.str).any fun z=>deq z (.str s))=decide (s∈l)
 |[]=>by simp
 |a::l=>by
  have q:deq (.str a) (.str s)=(a == s):=rfl
  rw[Zap,Zi2,Zk3 s l,q,ZaV]
  simp only[ZaP,Zbi,Zab,Zak]
  constructor<;>(intro h; rcases h with h |h<;>simp[h])
structure Ru where
 give:List Nat
 lone:Int
 turn:Bool
 last:Bool
 trail:List Nat
 deriving DecidableEq
structure Ru.ok (r:Ru):Prop where
 give:r.give∈gives
 lone:r.lone=0∨r.lone=1
 trail:r.trail∈ZmN
 both:¬(r.trail=rEver∧r.give∈[ZmX,ZjK])
theorem lk0 {k:Nat} {a b c d e:D}:lkN k [(k,a),(k+1,b),(k+2,c),(k+3,d),(k+4,e)]=some a:=by simp[lkN]
section
end
end Rk
/-! Rk.Rv:what rules tell; drawn rules. -/
namespace Rk
open PySem
section
variable {r q:Ru}
theorem Ru.ok.gl (o:r.ok):r.give.length≤6∧32∉r.give:=by
 have:=o.give
 unfold gives at this
 simp only[Zak,ZbO,or_false] at this
 rcases this with h |h |h |h |h<;>rw[h]<;>exact⟨by decide,by decide⟩
theorem Ru.ok.tl (o:r.ok):r.trail.length≤5∧32∉r.trail:=by
 have:=o.trail
 unfold ZmN at this
 simp only[Zak,ZbO,or_false] at this
 rcases this with h |h |h<;>rw[h]<;>exact⟨by decide,by decide⟩
end
section
end
/-! ### drawn rules -/
section
end
end Rk
/-! Rk.Cl:lists of works needed; the clashes of a list of stems. -/
namespace Rk
open PySem
/-! ### plain:the Zgo of places with one stem -/
theorem ZdB {α:Type} {d k:α→D} {q:α→Bool} {h:AH} {f:D→AH→Res (Option D)}:∀{ps:List α},(∀p∈ps,f (d p) h=.ok (if q p then some (k p) else none) h)→ZgK f (ps.map d) h=.ok ((ps.filter q).map k) h
 |[],_=>rfl
 |p::ps,H=>by
  show (f (d p) h).bind _=_
  rw[H p Zag,bind_ok,ZdB fun q hq=>H q (Zaf _ hq)]
  cases e:q p with
  |true=>rw[List.filter_cons_of_pos (by exact e)]; rfl
  |false=>rw[List.filter_cons_of_neg (by rw[e]; decide)]; rfl
section
variable {g:G} {n i:Nat} {h:AH}
/-! ### ranges of a length; lists that grow -/
theorem Zkg {call:Cl} {c:Bool} {a:E} {env:Env} {N:Int} (e:evE g call c a env h=.ok (.int N) h) (hN: -(2 ^ 62)≤N∧N < 2 ^ 62):evIt g call c (.rng a) env h=.ok (.fix (Zcm 0 N)) h:=by
 unfold evIt
 rw[e]
 exact if_pos hN
theorem Zpb {call:Cl} {c:Bool} {tg:List Nat} {it:It} {b:Ss} {env:Env} {l:List D} (e:evIt g call c it env h=.ok (.fix l) h):
  evS g call c (.for tg it b) env h=ZiT (fun x env h=>match ZbB tg x env with
   |some e=>evSs g call c b e h
   |none=>.stuck) l env h:=by
 conv=>lhs; unfold evS
 rw[e,bindX_ok]
 exact ZfM l _ env h
theorem ZdI {call:Cl} {c:Bool} {tg:List Nat} {it:It} {elt:E} {ifs:Es} {env:Env} {l:List D} (e:evIt g call c it env h=.ok (.fix l) h) (hl:l.length≤line):
  evE g call c (.cmpr elt tg it ifs) env h=(Za6 (ZgK (fun x h=>match ZbB tg x env with
    |some e=>(evIfs g call c ifs e h).bind fun b h=>if b then (evE g call c elt e h).bind fun y h=>.ok (some y) h else .ok none h
    |none=>.stuck) l h)).bind fun r h=>.ok (.lst r) h:=by
 conv=>lhs; unfold evE
 rw[e,bind_ok]
 refine (if_pos hl).trans ?_
 rw[show (Src.fix l).len h+1=l.length+1 from rfl,Zea]
 all_goals rfl
theorem ZnR {c:Bool} {k r s:Nat} {l:List D} {P:D→AH→Prop} {X:D→AH→Prop} (hk:g.fn k=some ⟨2,6,Zg2⟩) (hf:g.fn i=some ⟨2,2,ofB k⟩) (hd0:g.dfl k=[]) (hd:ZeL r h) (hne:s≠r) (hs:h.cell s=.lst l) (hl:l≠[]) (hm:l.length < 1073741824) (hP:∀x h',x∈l→ZeL r h'→But r h h'→P x h'):Wp ((cN g (n+1+1)).f c i [.ref r,.ref s] h) P X:=by
 have pos:0 < l.length:=Zdu.mpr hl
 have e1:ZeT .len (.ref s) h=.ok (.int l.length) h:=by
  show (match h.cell s with
   | .lst l=>Res.ok (D.int l.length) h
   |_=>(.stuck:Res D))=_
  rw[hs]
 rw[Zbq,hf]
 simp only[Zae,Zat,ofB,evSs,evS,evE,evEs,Zap,ZaW,ZaF,ZaG,bind_ok,bindX_ok,ldV_zero,ldV_succ,e1,if_true,fin,Wp_bind,Wp_noexc,Wp_bindX,hd0,Zaw,ZbU,ZaA,Zaq,List.replicate]
 refine ZdL hk hd (by omega) (by omega) fun kk h' k0 k1 dl bt=>?_
 have hx:L2.atI l kk=some (l[kk.toNat]'(by omega)):=by
  unfold L2.atI L2.ixN
  rw[if_pos k0,if_pos k1,ZaE,Zad]
 have e2:ZfI (.ref s) (.int kk) h'=.ok (l[kk.toNat]'(by omega)) h':=by
  show (match h'.cell s with
   | .lst l=>Zbv (L2.atI l kk) h'
   |_=>.stuck)=_
  rw[bt.2 s hne,hs]
  show Zbv (L2.atI l kk) h'=_
  rw[hx]
  all_goals rfl
 simp only[e2,Wp_ok]
 exact hP _ _ (ZeJ _) dl bt
end
end Rk
/-! Rk.Ee:one-step equations of the evaluator (printed by ee.py). -/
namespace Rk
open PySem
section
variable {g:G} {call:Cl} {c:Bool}
theorem Zbp {i:Nat} {env:Env} {h:AH}:evE g call c (.var i) env h=(ldV env i h):=by
 conv=>lhs; unfold evE
 all_goals rfl
theorem ZdE {d:D} {env:Env} {h:AH}:evE g call c (.cst d) env h=(.ok d h):=by
 conv=>lhs; unfold evE
 all_goals rfl
theorem ee_glb {n:Nat} {env:Env} {h:AH}:evE g call c (.glb n) env h=(.ok (g.glb n) h):=by
 conv=>lhs; unfold evE
 all_goals rfl
theorem ZcA {o:Operator} {a:E} {b:E} {env:Env} {h:AH}:evE g call c (.bin o a b) env h=((evE g call c a env h).bind fun x h=>(evE g call c b env h).bind fun y h=>Zcn o x y h):=by
 conv=>lhs; unfold evE
 all_goals rfl
theorem ee_neg {a:E} {env:Env} {h:AH}:evE g call c (.neg a) env h=((evE g call c a env h).bind fun x h=>match x with
  | .int i=>.ok (.int (-i)) h
  |_=>.stuck):=by
 conv=>lhs; unfold evE
 all_goals rfl
theorem ZkA {a:E} {env:Env} {h:AH}:evE g call c (.not a) env h=((evE g call c a env h).bind fun x h=>Zbv ((ZbM x).map fun b=>.bl !b) h):=by
 conv=>lhs; unfold evE
 all_goals rfl
theorem Znm {es:Es} {env:Env} {h:AH}:evE g call c (.and es) env h=(evAnd g call c es env h):=by
 conv=>lhs; unfold evE
 all_goals rfl
theorem ee_or {es:Es} {env:Env} {h:AH}:evE g call c (.or es) env h=(evOr g call c es env h):=by
 conv=>lhs; unfold evE
 all_goals rfl
theorem ZkB {t:E} {a:E} {b:E} {env:Env} {h:AH}:evE g call c (.ife t a b) env h=((evE g call c t env h).bind fun x h=>match ZbM x with
  |some true=>evE g call c a env h
  |some false=>evE g call c b env h
  |none=>.stuck):=by
 conv=>lhs; unfold evE
 all_goals rfl
theorem ZcP {o:CmpOp} {a:E} {b:E} {env:Env} {h:AH}:evE g call c (.cmp o a b) env h=((evE g call c a env h).bind fun x h=>(evE g call c b env h).bind fun y h=>Zbv ((ZcB o x y).map .bl) h):=by
 conv=>lhs; unfold evE
 all_goals rfl
theorem ee_tup {es:Es} {env:Env} {h:AH}:evE g call c (.tup es) env h=((evEs g call c es env h).bind fun l h=>if l.length≤line then .ok (.tup l) h else .stuck):=by
 conv=>lhs; unfold evE
 all_goals rfl
theorem Zgz {es:Es} {env:Env} {h:AH}:evE g call c (.lst es) env h=((evEs g call c es env h).bind fun l h=>if l.length≤line then .ok (.lst l) h else .stuck):=by
 conv=>lhs; unfold evE
 all_goals rfl
theorem ee_hls {es:Es} {env:Env} {h:AH}:evE g call c (.hls es) env h=((evEs g call c es env h).bind fun l h=>if l.length≤line then .ok (.ref h.nx) (h.new (.lst l)) else .stuck):=by
 conv=>lhs; unfold evE
 all_goals rfl
theorem Ze9 {a:E} {i:E} {env:Env} {h:AH}:evE g call c (.idx a i) env h=((evE g call c a env h).bind fun x h=>(evE g call c i env h).bind fun y h=>ZfI x y h):=by
 conv=>lhs; unfold evE
 all_goals rfl
theorem Ze8 {a:E} {lo:Op} {hi:Op} {env:Env} {h:AH}:evE g call c (.slc a lo hi) env h=((evE g call c a env h).bind fun x h=>(evOp g call c lo env h).bind fun l h=>(evOp g call c hi env h).bind fun u h=>Zfo x l u h):=by
 conv=>lhs; unfold evE
 all_goals rfl
theorem Zik {f:Nat} {args:Es} {kws:Es} {sel:List Nat} {env:Env} {h:AH}:evE g call c (.cal f args kws sel) env h=((evEs g call c args env h).bind fun l h=>(evEs g call c kws env h).bind fun m h=>match ZbU sel (l++m++g.dfl f) with
  |some vs=>call.f c f vs h
  |none=>.stuck):=by
 conv=>lhs; unfold evE
 all_goals rfl
theorem Zd2 {b:Bi} {a:E} {env:Env} {h:AH}:evE g call c (.bi b a) env h=((evE g call c a env h).bind fun x h=>ZeT b x h):=by
 conv=>lhs; unfold evE
 all_goals rfl
theorem ee_mm {m:Mm} {o:E} {args:Es} {env:Env} {h:AH}:evE g call c (.mm m o args) env h=((evE g call c o env h).bind fun x h=>if Zlb m x h then (evEs g call c args env h).bind fun l h=>ZjZ m x l h else .stuck):=by
 conv=>lhs; unfold evE
 all_goals rfl
theorem Zpk {i:Nat} {j:Nat} {env:Env} {h:AH}:evE g call c (.same i j) env h=((ldV env i h).bind fun x h=>(ldV env j h).bind fun y h=>Zdg x y h):=by
 conv=>lhs; unfold evE
 all_goals rfl
theorem ee_mk {k:Nat} {args:Es} {kws:Es} {sel:List Nat} {env:Env} {h:AH}:evE g call c (.mk k args kws sel) env h=((evEs g call c args env h).bind fun l h=>(evEs g call c kws env h).bind fun m h=>match ZbU sel (l++m++g.cdf k) with
  |some vs=>call.make k vs h
  |none=>.stuck):=by
 conv=>lhs; unfold evE
 all_goals rfl
theorem ee_mth {o:E} {m:Nat} {args:Es} {kws:Es} {sel:List Nat} {env:Env} {h:AH}:evE g call c (.mth o m args kws sel) env h=((evE g call c o env h).bind fun x h=>match x with
  | .ins k fs=>(match g.mtd k m with
   |some f=>(evEs g call c args env h).bind fun l h=>(evEs g call c kws env h).bind fun r h=>(match ZbU sel (.ins k fs::l++r++g.dfl f) with
    |some vs=>call.f c f vs h
    |none=>.stuck)
   |none=>.stuck)
  |_=>.stuck):=by
 conv=>lhs; unfold evE
 all_goals rfl
theorem Znl {a:E} {env:Env} {h:AH}:evE g call c (.frz a) env h=((evE g call c a env h).bind fun x h=>ZeS x h):=by
 conv=>lhs; unfold evE
 all_goals rfl
theorem ee_dst {a:E} {b:E} {env:Env} {h:AH}:evE g call c (.dst a b) env h=((evE g call c a env (h.new (.dct false []))).bind fun x h1=>(ZjY h.nx x h1).bind fun _ h1=>(evE g call c b env h1).bind fun y h2=>(ZjY h.nx y h2).bind fun _ h2=>.ok (.ref h.nx) h2):=by
 conv=>lhs; unfold evE
 all_goals rfl
theorem Zpl {o:E} {k:E} {d:E} {env:Env} {h:AH}:evE g call c (.dget o k d) env h=((evE g call c o env h).bind fun x h=>if (ZfW x h).isSome then (evE g call c k env h).bind fun y h=>(evE g call c d env h).bind fun z h=>Znv x y z h else .stuck):=by
 conv=>lhs; unfold evE
 all_goals rfl
theorem ee_mx2 {a:E} {b:E} {env:Env} {h:AH}:evE g call c (.mx2 a b) env h=((evE g call c a env h).bind fun x h=>(evE g call c b env h).bind fun y h=>mx2op x y h):=by
 conv=>lhs; unfold evE
 all_goals rfl
theorem ee_hmk {k:Nat} {args:Es} {kws:Es} {sel:List Nat} {env:Env} {h:AH}:evE g call c (.hmk k args kws sel) env h=((evEs g call c args env h).bind fun l h=>(evEs g call c kws env h).bind fun m h=>match ZbU sel (l++m++g.cdf k) with
  |some vs=>hmkop (call.make k vs h)
  |none=>.stuck):=by
 conv=>lhs; unfold evE
 all_goals rfl
theorem Znk {s:SE} {env:Env} {h:AH}:evE g call c (.srt s) env h=((evSE g call c s env h).bind fun l h=>ZeM l h):=by
 conv=>lhs; unfold evE
 all_goals rfl
theorem ZcO {env:Env} {h:AH}:evEs g call c .nil env h=.ok [] h:=by unfold evEs; rfl
theorem ZdU {e:E} {r:Es} {env:Env} {h:AH}:evEs g call c (.cons e r) env h=(evE g call c e env h).bind fun x h=>(evEs g call c r env h).bind fun l h=>.ok (x::l) h:=by
 conv=>lhs; unfold evEs
 all_goals rfl
theorem Zno {e:E} {env:Env} {h:AH}:evAnd g call c (.cons e .nil) env h=evE g call c e env h:=by
 conv=>lhs; unfold evAnd
 all_goals rfl
theorem Znn {e d:E} {r:Es} {env:Env} {h:AH}:evAnd g call c (.cons e (.cons d r)) env h=(evE g call c e env h).bind fun x h=>match ZbM x with
   |some true=>evAnd g call c (.cons d r) env h
   |some false=>.ok x h
   |none=>.stuck:=by
 conv=>lhs; unfold evAnd
 all_goals rfl
theorem Znj {e:E} {env:Env} {h:AH}:evOr g call c (.cons e .nil) env h=evE g call c e env h:=by
 conv=>lhs; unfold evOr
 all_goals rfl
theorem Zni {e d:E} {r:Es} {env:Env} {h:AH}:evOr g call c (.cons e (.cons d r)) env h=(evE g call c e env h).bind fun x h=>match ZbM x with
   |some true=>.ok x h
   |some false=>evOr g call c (.cons d r) env h
   |none=>.stuck:=by
 conv=>lhs; unfold evOr
 all_goals rfl
theorem et_ {e:E} {env:Env} {h:AH}:evT g call c e env h=(evE g call c e env h).bind fun x h=>Zbv (ZbM x) h:=rfl
theorem ZcV {env:Env} {h:AH}:evSs g call c .nil env h=.ok (.nx env) h:=by unfold evSs; rfl
theorem ZcW {s:S} {r:Ss} {env:Env} {h:AH}:evSs g call c (.cons s r) env h=(evS g call c s env h).bind fun f h=>match f with
  | .nx e=>evSs g call c r e h
  |f=>.ok f h:=by
 conv=>lhs; unfold evSs
 all_goals rfl
theorem Zjz {e:E} {env:Env} {h:AH}:evS g call c (.expr e) env h=(evE g call c e env h).bindX env fun _ h=>.ok (.nx env) h:=by
 conv=>lhs; unfold evS
 all_goals rfl
theorem ZdN {i:Nat} {e:E} {env:Env} {h:AH}:evS g call c (.asg i e) env h=(evE g call c e env h).bindX env fun x h=>.ok (.nx (env.set i (.v x))) h:=by
 conv=>lhs; unfold evS
 all_goals rfl
theorem s_asgt {is:List Nat} {e:E} {env:Env} {h:AH}:evS g call c (.asgt is e) env h=(evE g call c e env h).bindX env fun x h=>Zbv ((ZbB is x env).map .nx) h:=by
 conv=>lhs; unfold evS
 all_goals rfl
theorem ZgY {e:E} {env:Env} {h:AH}:evS g call c (.ret e) env h=(evE g call c e env h).bindX env fun x h=>.ok (.rt x) h:=by
 conv=>lhs; unfold evS
 all_goals rfl
theorem Zft {t:E} {a b:Ss} {env:Env} {h:AH}:evS g call c (.ifs t a b) env h=(evT g call c t env h).bindX env fun k h=>if k then evSs g call c a env h else evSs g call c b env h:=by
 conv=>lhs; unfold evS
 all_goals rfl
theorem s_rse {k:Nat} {args:Es} {env:Env} {h:AH}:evS g call c (.rse k args) env h=(evEs g call c args env h).bindX env fun l h=>Zbv ((mkX g k l).map fun x=>.xc x env) h:=by
 conv=>lhs; unfold evS
 all_goals rfl
theorem s_sta {o e:E} {f:Nat} {env:Env} {h:AH}:evS g call c (.sta o f e) env h=(evE g call c e env h).bindX env fun v h=>(evE g call c o env h).bindX env fun x h=>match Zoc g x f v h with
  |some h=>.ok (.nx env) h
  |none=>.stuck:=by
 conv=>lhs; unfold evS
 all_goals rfl
def zE:=And.intro @ZcV (And.intro @ZcW (And.intro @Zjz (And.intro @ZdN (And.intro @s_asgt (And.intro @ZgY (And.intro @Zft (And.intro @s_rse (And.intro @s_sta (And.intro @et_ (And.intro @ZcO (And.intro @ZdU (And.intro @Zno (And.intro @Znn (And.intro @Znj (And.intro @Zni (And.intro @Zbp (And.intro @ZdE (And.intro @ee_glb (And.intro @ZcA (And.intro @ee_neg (And.intro @ZkA (And.intro @Znm (And.intro @ee_or (And.intro @ZkB (And.intro @ZcP (And.intro @ee_tup (And.intro @Zgz (And.intro @Ze9 (And.intro @Zik (And.intro @Zd2 (And.intro @ee_mth (And.intro @ee_mk (And.intro @ee_hmk (And.intro @Zpl (And.intro @ee_mx2 (And.intro @Znk (And.intro @Znl (@ee_dst))))))))))))))))))))))))))))))))))))))
theorem se_of {a:E} {env:Env} {h:AH}:evSE g call c (.of a) env h=(evE g call c a env h).bind fun x h=>Zjw x h:=by
 conv=>lhs; unfold evSE
 all_goals rfl
end
end Rk
/-! Rk.Lo:the methods of lots,on data. -/
namespace Rk
open PySem
abbrev Row:=List Nat × D × Int
structure Lt where
 ru:Ru
 rows:List Row
 own:List (Int × List Nat)
 seen:List (Int × List Nat)
section
variable {g:G} {n c a cr b gr ba rk fgr fba frk i:Nat} {h:AH} {l:Lt}
theorem l0 {w x y z:D}:lkN a [(a,w),(a+1,x),(a+2,y),(a+3,z)]=some w:=by simp[lkN]
theorem l1 {w x y z:D}:lkN (a+1) [(a,w),(a+1,x),(a+2,y),(a+3,z)]=some x:=by simp[lkN]
theorem l2 {w x y z:D}:lkN (a+2) [(a,w),(a+1,x),(a+2,y),(a+3,z)]=some y:=by simp[lkN]
theorem l3 {w x y z:D}:lkN (a+3) [(a,w),(a+1,x),(a+2,y),(a+3,z)]=some z:=by simp[lkN]
/-! ### rows walked -/
theorem Zfy {α:Type} {d k:α→D} {f:D→AH→Res (Option D)}:∀{ps:List α},(∀p∈ps,f (d p) h=.ok (some (k p)) h)→ZgK f (ps.map d) h=.ok (ps.map k) h
 |[],_=>rfl
 |p::ps,H=>by
  show (f (d p) h).bind _=_
  rw[H p Zag,bind_ok,Zfy fun q hq=>H q (Zaf _ hq)]
  rfl
theorem it_tup {call:Cl} {hc:Bool} {e:E} {env:Env} {xs:List D} (he:evE g call hc e env h=.ok (.tup xs) h):evIt g call hc (.seq e) env h=.ok (.fix xs) h:=by
 unfold evIt
 rw[he]
 rfl
theorem Zh5 {call:Cl} {hc:Bool} {e:E} {env:Env} {xs:List D} (he:evE g call hc e env h=.ok (.lst xs) h):evIt g call hc (.seq e) env h=.ok (.fix xs) h:=by
 unfold evIt
 rw[he]
 rfl
theorem ZfH {call:Cl} {hc:Bool} {env:Env}:evIfs g call hc .nil env h=.ok true h:=by unfold evIfs; rfl
theorem ZnE {α:Type} (q:α→Bool):∀l:List α,bls (l.map fun r=>D.bl (q r))=some (l.map q)
 |[]=>rfl
 |x::l=>by
  have ih:=ZnE q l
  show (bls (l.map fun r=>D.bl (q r))).map _=_
  rw[ih]
  rfl
def Lt.has (l:Lt) (x:D):Bool:=l.rows.any fun r=>deq (.str r.1) x
end
end Rk
/-! Rk.Lp:a lot made; a lot behind a deed. -/
namespace Rk
open PySem
def Up (h h':AH):Prop:=h.nx≤h'.nx∧∀k,k < h.nx→h'.cell k=h.cell k
theorem Up.refl (h:AH):Up h h:=⟨Zai _,fun _ _=>rfl⟩
theorem Up.trans {h h1 h2:AH} (a:Up h h1) (b:Up h1 h2):Up h h2:=⟨ZaI a.1 b.1,fun k hk=>(b.2 k (ZaT hk a.1)).trans (a.2 k hk)⟩
theorem Up.new (h:AH) (c:ZeW):Up h (h.new c):=⟨ZbE _,fun k hk=>if_neg (Zbg hk)⟩
theorem Up.put {h h1:AH} (a:Up h h1) {n:Nat} (hn:h.nx≤n) (c:ZeW):Up h (h1.put n c):=⟨a.1,fun k hk=>(if_neg (by omega)).trans (a.2 k hk)⟩
section
variable {g:G} {call:Cl} {hc:Bool} {s:S} {r:Ss} {env env':Env} {h h':AH}
theorem ZbG (e:evS g call hc s env h=.ok (.nx env') h'):evSs g call hc (.cons s r) env h=evSs g call hc r env' h':=by rw[ZcW,e]; rfl
theorem Zf8 {v:D} (e:evS g call hc s env h=.ok (.rt v) h'):evSs g call hc (.cons s r) env h=.ok (.rt v) h':=by rw[ZcW,e]; rfl
end
/-! ### numbers and names -/
abbrev NN:=List (Int × List Nat)
/-! ### sorted -/
end Rk
/-! Rk.Lq:Lot(rule),lot.behind(rows). -/
namespace Rk
open PySem
section
variable {g:G} {n c a cr b gr ba rk fgr fba frk i:Nat} {h:AH} {l:Lt}
theorem q1 {x y:D}:Zd1 (a+1) y [(a,x)]=[(a,x),(a+1,y)]:=by simp[Zd1]
theorem q2 {x y z:D}:Zd1 (a+2) z [(a,x),(a+1,y)]=[(a,x),(a+1,y),(a+2,z)]:=by simp[Zd1]
theorem q3 {x y z w:D}:Zd1 (a+3) w [(a,x),(a+1,y),(a+2,z)]=[(a,x),(a+1,y),(a+2,z),(a+3,w)]:=by simp[Zd1]
theorem r1 {x y z w v:D}:Zd1 (a+1) v [(a,x),(a+1,y),(a+2,z),(a+3,w)]=[(a,x),(a+1,v),(a+2,z),(a+3,w)]:=by simp[Zd1]
theorem r2 {x y z w v:D}:Zd1 (a+2) v [(a,x),(a+1,y),(a+2,z),(a+3,w)]=[(a,x),(a+1,y),(a+2,v),(a+3,w)]:=by simp[Zd1]
theorem r3 {x y z w v:D}:Zd1 (a+3) v [(a,x),(a+1,y),(a+2,z),(a+3,w)]=[(a,x),(a+1,y),(a+2,z),(a+3,v)]:=by simp[Zd1]
/-! ### behind -/
end
end Rk
/-! Rk.Lr:the other methods of lots. -/
namespace Rk
open PySem
section
end
end Rk
/-! Rk.Ls:numbers and names of lots. -/
namespace Rk
open PySem
section
/-! ### leads -/
end
end Rk
/-! Rk.Lt:tells,number_for,come,go. -/
namespace Rk
open PySem
section
variable {g:G} {n c a cr b gr ba rk fgr fba frk i fnum:Nat} {h:AH} {l:Lt} {r:Ru} {X:Ss}
/-! ### the next number -/
def Lt.taken (l:Lt):List Int:=l.rows.map fun r=>if r.2.2 < 1 then 1 else r.2.2
def Lt.start (l:Lt):Int:=if l.ru.give == rFree then 1 else ZoN 0 l.taken+1
end
end Rk
/-! Rk.Lu:come and go. -/
namespace Rk
open PySem
section
variable {g:G} {n c a cr b gr ba rk fgr fba frk i fnum:Nat} {h:AH} {l:Lt} {r:Ru} {X:Ss}
/-! ### go -/
theorem ZdR {α:Type} {d:α→D} {q:α→Bool} {f:D→AH→Res (Option D)}:∀{ps:List α},(∀p∈ps,f (d p) h=.ok (if q p then some (d p) else none) h)→ZgK f (ps.map d) h=.ok ((ps.filter q).map d) h
 |[],_=>rfl
 |p::ps,H=>by
  show (f (d p) h).bind _=_
  rw[H p Zag,bind_ok,Zbu]
  cases q p with
  |true=>
   show (ZgK f (ps.map d) h).bind _=_
   rw[ZdR fun q hq=>H q (Zaf _ hq)]
   rfl
  |false=>
   show (ZgK f (ps.map d) h).bind _=_
   rw[ZdR fun q hq=>H q (Zaf _ hq)]
   rfl
end
end Rk
/-! Rk.Lv:drawn names that differ; rules made. -/
namespace Rk
open PySem
section
end
end Rk
/-! Rk.Sl:slips,plain. -/
namespace Rk
def Zha (a b:List Nat):Bool:=(List.range b.length).any fun i=>b.take i++b.drop (i+1) == a
def dif:List Nat→List Nat→List Nat
 |x::a,y::b=>if x=y then (dif a b).map (· +1) else 0::(dif a b).map (· +1)
 |_,_=>[]
def Zhl (a b:List Nat):List Nat→Bool
 |[_]=>true
 |[i,j]=>j == i+1&&(a[i]? == b[j]? &&a[j]? == b[i]?)
 |_=>false
def ZcR (a b:List Nat):Bool:=if a.length=b.length+1 then Zha b a else if b.length=a.length+1 then Zha a b else if a.length=b.length then Zhl a b (dif a b) else false
inductive Zfe:List Nat→List Nat→Prop
 |del (p q:List Nat) (c:Nat):Zfe (p++c::q) (p++q)
 |ins (p q:List Nat) (c:Nat):Zfe (p++q) (p++c::q)
 |sub (p q:List Nat) (c d:Nat):c≠d→Zfe (p++c::q) (p++d::q)
 |swp (p q:List Nat) (c d:Nat):c≠d→Zfe (p++c::d::q) (p++d::c::q)
theorem Zfe.symm {a b:List Nat}:Zfe a b→Zfe b a
 | .del p q c=>.ins p q c
 | .ins p q c=>.del p q c
 | .sub p q c d h=>.sub p q d c h.symm
 | .swp p q c d h=>.swp p q d c h.symm
theorem ZkJ (x:Nat) {a b:List Nat}:Zfe a b→Zfe (x::a) (x::b)
 | .del p q c=>.del (x::p) q c
 | .ins p q c=>.ins (x::p) q c
 | .sub p q c d h=>.sub (x::p) q c d h
 | .swp p q c d h=>.swp (x::p) q c d h
theorem Zec {a b:List Nat}:Zha a b=true↔∃p c q,b=p++c::q∧a=p++q:=by
 unfold Zha
 rw[List.any_eq_true]
 constructor
 ·rintro⟨i,hi,e⟩
  rw[ZaN] at hi
  rw[Zbi] at e
  refine⟨b.take i,b[i],b.drop (i+1),?_,e.symm⟩
  rw[← Zbm hi,ZcS]
 ·rintro⟨p,c,q,rfl,rfl⟩
  refine⟨p.length,?_,?_⟩
  ·rw[ZaN,Zal,Zae]
   omega
  ·simp
theorem Zhj:∀{a b:List Nat},a.length=b.length→(dif a b=[]↔a=b)
 |[],[],_=>by simp[dif]
 |[],_::_,h=>by simp at h
 |_::_,[],h=>by simp at h
 |x::a,y::b,h=>by
  have ih:=Zhj (a:=a) (b:=b) (by simpa using h)
  unfold dif
  by_cases e:x=y
  ·rw[if_pos e]
   simp[ih,e]
  ·rw[if_neg e]
   simp[e]
theorem Zhk:∀(p a b:List Nat),dif (p++a) (p++b)=(dif a b).map (· +p.length)
 |[],a,b=>by simp
 |x::p,a,b=>by
  rw[ZaF,ZaF]
  show (if x=x then _ else _)=_
  rw[if_pos rfl,Zhk p a b,Zb3]
  refine Zdt fun i _=>?_
  simp only[Function.comp,Zae]
  omega
theorem Zil (q:List Nat):dif q q=[]:=(Zhj rfl).mpr rfl
theorem Zmr {a b:List Nat} (h:Zfe a b) (hl:a.length=b.length):Zhl a b (dif a b)=true:=by
 cases h with
 |del p q c=>simp at hl
 |ins p q c=>simp at hl
 |sub p q c d h=>
  rw[Zhk]
  unfold dif
  rw[if_neg h,Zil]
  rfl
 |swp p q c d h=>
  rw[Zhk]
  unfold dif
  rw[if_neg h]
  unfold dif
  rw[if_neg (fun z=>h z.symm),Zil]
  show (0+1+p.length == 0+p.length+1&&((p++c::d::q)[0+p.length]? == (p++d::c::q)[0+1+p.length]? &&(p++c::d::q)[0+1+p.length]? == (p++d::c::q)[0+p.length]?))=true
  have e1:0+p.length=p.length:=by omega
  have e2:0+1+p.length=p.length+1:=by omega
  rw[e1,e2]
  simp[ZgJ]
theorem Zhi:∀{a b:List Nat} {i:Nat},a.length=b.length→dif a b=[i]→∃p q c d,c≠d∧a=p++c::q∧b=p++d::q∧p.length=i
 |[],[],_,_,h=>by simp[dif] at h
 |[],_::_,_,h,_=>by simp at h
 |_::_,[],_,h,_=>by simp at h
 |x::a,y::b,i,h,e=>by
  have hl:a.length=b.length:=by simpa using h
  unfold dif at e
  by_cases xy:x=y
  ·rw[if_pos xy] at e
   obtain⟨j,ej,rfl⟩:∃j,dif a b=[j]∧j+1=i:=by
    match hd:dif a b,e with
    |[j],e=>exact⟨j,rfl,by simpa using e⟩
   obtain⟨p,q,c,d,n,rfl,rfl,z⟩:=Zhi hl ej
   exact⟨x::p,q,c,d,n,rfl,by rw[xy]; rfl,by rw[Zae,z]⟩
  ·rw[if_neg xy] at e
   injection e with e1 e2
   have e3:dif a b=[]:=by simpa using e2
   obtain rfl:=(Zhj hl).mp e3
   exact⟨[],a,x,y,xy,rfl,rfl,e1⟩
theorem ZkE:∀{a b:List Nat} {i:Nat},a.length=b.length→dif a b=[i,i+1]→a[i]? =b[i+1]? →a[i+1]? =b[i]? →Zfe a b
 |[],[],_,_,h,_,_=>by simp[dif] at h
 |[],_::_,_,h,_,_,_=>by simp at h
 |_::_,[],_,h,_,_,_=>by simp at h
 |x::a,y::b,i,h,e,f1,f2=>by
  have hl:a.length=b.length:=by simpa using h
  unfold dif at e
  by_cases xy:x=y
  ·rw[if_pos xy] at e
   obtain⟨j,ej,rfl⟩:∃j,dif a b=[j,j+1]∧j+1=i:=by
    match hd:dif a b,e with
    |[j,k],e=>
     simp at e
     exact⟨j,by rw[show k=j+1 by omega],e.1⟩
   subst xy
   exact ZkJ x (ZkE hl ej (by simpa using f1) (by simpa using f2))
  ·rw[if_neg xy] at e
   injection e with e1 e2
   subst e1
   obtain⟨j,ej,hj⟩:∃j,dif a b=[j]∧j+1=0+1:=by
    match hd:dif a b,e2 with
    |[j],e=>exact⟨j,rfl,by simpa using e⟩
   obtain rfl:j=0:=by omega
   obtain⟨p,q,c,d,n,rfl,rfl,z⟩:=Zhi hl ej
   obtain rfl:=List.length_eq_zero_iff.mp z
   simp at f1 f2
   subst f1 f2
   exact .swp [] q _ _ xy
theorem Zfn {a b:List Nat}:ZcR a b=true↔Zfe a b:=by
 unfold ZcR
 constructor
 ·intro h
  by_cases h1:a.length=b.length+1
  ·rw[if_pos h1] at h
   obtain⟨p,c,q,rfl,rfl⟩:=Zec.mp h
   exact .del p q c
  ·rw[if_neg h1] at h
   by_cases h2:b.length=a.length+1
   ·rw[if_pos h2] at h
    obtain⟨p,c,q,rfl,rfl⟩:=Zec.mp h
    exact .ins p q c
   ·rw[if_neg h2] at h
    by_cases h3:a.length=b.length
    ·rw[if_pos h3] at h
     match hd:dif a b,h with
     |[i],h=>
      obtain⟨p,q,c,d,n,rfl,rfl,_⟩:=Zhi h3 hd
      exact .sub p q c d n
     |[i,j],h=>
      simp[Zhl] at h
      obtain⟨rfl,f1,f2⟩:=h
      exact ZkE h3 hd f1 f2
    ·rw[if_neg h3] at h
     cases h
 ·intro h
  by_cases h1:a.length=b.length+1
  ·rw[if_pos h1,Zec]
   cases h with
   |del p q c=>exact⟨p,c,q,rfl,rfl⟩
   |ins p q c=>simp at h1; omega
   |sub p q c d h=>simp at h1
   |swp p q c d h=>simp at h1
  ·rw[if_neg h1]
   by_cases h2:b.length=a.length+1
   ·rw[if_pos h2,Zec]
    cases h with
    |del p q c=>simp at h2; omega
    |ins p q c=>exact⟨p,c,q,rfl,rfl⟩
    |sub p q c d h=>simp at h2
    |swp p q c d h=>simp at h2
   ·rw[if_neg h2]
    by_cases h3:a.length=b.length
    ·rw[if_pos h3]
     exact Zmr h h3
    ·exfalso
     cases h with
     |del p q c=>simp at h1; omega
     |ins p q c=>simp at h2; omega
     |sub p q c d h=>simp at h3
     |swp p q c d h=>simp at h3
theorem Zju (a b:List Nat):ZcR a b=ZcR b a:=by
 rw[ZaV,Zfn,Zfn]
 exact⟨Zfe.symm,Zfe.symm⟩
/-! ### all slips of a text -/
def ZbJ (w S:List Nat) (i:Nat):List (List Nat):=S.map fun c=>w.take i++[c]++w.drop i
def ZbX (w:List Nat) (i:Nat):List (List Nat):=if i < w.length then [w.take i++w.drop (i+1)] else []
def Zcg (w S:List Nat) (i:Nat):List (List Nat):=if i < w.length then (S.filter fun c=>some c != w[i]?).map fun c=>w.take i++[c]++w.drop (i+1) else []
def ZcD (w:List Nat) (i:Nat):List (List Nat):=if i+1 < w.length then (if w[i]? != w[i+1]? then [w.take i++[w.getD (i+1) 0]++[w.getD i 0]++w.drop (i+2)] else []) else []
def Zb4 (w S:List Nat) (i:Nat):List (List Nat):=ZbJ w S i++ZbX w i++Zcg w S i++ZcD w i
def slips (w S:List Nat):List (List Nat):=(List.range (w.length+1)).flatMap (Zb4 w S)
theorem td1 {w:List Nat} {i:Nat} (h:i < w.length):w=w.take i++w[i]::w.drop (i+1):=by
 rw[← Zbm h,ZcS]
theorem td2 {w:List Nat} {i:Nat} (h:i+1 < w.length):w=w.take i++w[i]::w[i+1]::w.drop (i+2):=by
 rw[← Zbm h,← Zbm (ZbY h),ZcS]
theorem ZeZ {w S x:List Nat} (h:x∈slips w S):Zfe w x:=by
 unfold slips at h
 obtain⟨i,hi,h⟩:=ZeI.mp h
 unfold Zb4 at h
 simp only[ZaH] at h
 rcases h with ((h |h) |h) |h
 ·unfold ZbJ at h
  obtain⟨c,_,rfl⟩:=Zah.mp h
  have:=Zfe.ins (w.take i) (w.drop i) c
  rw[ZcS] at this
  simpa using this
 ·unfold ZbX at h
  split at h
  ·rename_i hl
   obtain rfl:=Zar.mp h
   have:=Zfe.del (w.take i) (w.drop (i+1)) w[i]
   rw[← td1 hl] at this
   exact this
  ·cases h
 ·unfold Zcg at h
  split at h
  ·rename_i hl
   obtain⟨c,hc,rfl⟩:=Zah.mp h
   have n:=(Zbj.mp hc).2
   rw[Zad hl] at n
   have n':w[i]≠c:=fun z=>by simp[z] at n
   have:=Zfe.sub (w.take i) (w.drop (i+1)) w[i] c n'
   rw[← td1 hl] at this
   simpa using this
  ·cases h
 ·unfold ZcD at h
  split at h
  ·rename_i hl
   split at h
   ·rename_i n
    obtain rfl:=Zar.mp h
    rw[Zad hl,Zad (ZbY hl)] at n
    have n':w[i]≠w[i+1]:=fun z=>by simp[z] at n
    have:=Zfe.swp (w.take i) (w.drop (i+2)) w[i] w[i+1] n'
    rw[← td2 hl] at this
    have g1:w.getD (i+1) 0=w[i+1]:=by simp[List.getD,hl]
    have g0:w.getD i 0=w[i]:=by simp[List.getD,ZbY hl]
    rw[g1,g0]
    simpa using this
   ·cases h
  ·cases h
theorem ZiB {w S x:List Nat} (h:Zfe w x) (hS:∀c∈x,c∈S):x∈slips w S:=by
 unfold slips
 rw[ZeI]
 cases h with
 |del p q c=>
  refine⟨p.length,by rw[ZaN]; simp; omega,?_⟩
  unfold Zb4
  simp only[ZaH]
  refine .inl (.inl (.inr ?_))
  unfold ZbX
  rw[if_pos (by simp)]
  simp
 |ins p q c=>
  refine⟨p.length,by rw[ZaN]; simp; omega,?_⟩
  unfold Zb4
  simp only[ZaH]
  refine .inl (.inl (.inl ?_))
  unfold ZbJ
  rw[Zah]
  exact⟨c,hS c (by simp),by simp⟩
 |sub p q c d n=>
  refine⟨p.length,by rw[ZaN]; simp; omega,?_⟩
  unfold Zb4
  simp only[ZaH]
  refine .inl (.inr ?_)
  unfold Zcg
  rw[if_pos (by simp),Zah]
  refine⟨d,Zbj.mpr ⟨hS d (by simp),?_⟩,by simp⟩
  simpa using fun z:d=c=>n z.symm
 |swp p q c d n=>
  refine⟨p.length,by rw[ZaN]; simp; omega,?_⟩
  unfold Zb4
  simp only[ZaH]
  refine .inr ?_
  unfold ZcD
  rw[if_pos (by simp),if_pos (by simp[ZgJ,n])]
  simp[List.getD,ZgJ]
theorem Zjs {w S x:List Nat} (hS:∀c∈x,c∈S):decide (x∈slips w S)=ZcR w x:=by
 rw[ZaV,Zfn,Zab]
 exact⟨ZeZ,fun h=>ZiB h hS⟩
theorem Zge {w S x:List Nat} (h:x∈slips w S):x.length≤w.length+1:=by
 have:=ZeZ h
 cases this<;>simp<;>omega
theorem ZcK (w S:List Nat) (i:Nat):(Zb4 w S i).length≤2 * S.length+2:=by
 unfold Zb4 ZbJ ZbX Zcg ZcD
 have f:=Zf1 (fun c=>some c != w[i]?) S
 simp only[Zal,Zac]
 split<;>split<;>(try split)<;>simp<;>omega
end Rk
/-! Rk.Sm:is_slip,and all slips of a text. -/
namespace Rk
open PySem
/-! ### sets of texts -/
def Zl3 (x:List Nat):List (List Nat)→List (List Nat)
 |[]=>[x]
 |y::r=>if ltB (.str y) (.str x) then y::Zl3 x r else x::y::r
def Zgd:List (List Nat)→List (List Nat)
 |[]=>[]
 |x::r=>Zl3 x (Zgd r)
def dedT (l:List (List Nat)):List (List Nat):=l.foldl (fun acc x=>if x∈acc then acc else acc++[x]) []
theorem Zh9 (x:List Nat):∀l,Zl5 ltB (.str x) (l.map D.str)=(Zl3 x l).map D.str
 |[]=>rfl
 |y::r=>by
  have ih:=Zh9 x r
  show (if ltB (.str y) (.str x) then D.str y::Zl5 ltB (.str x) (r.map D.str) else D.str x::D.str y::r.map D.str)=_
  rw[ih]
  show _=(if ltB (.str y) (.str x) then y::Zl3 x r else x::y::r).map D.str
  cases ltB (.str y) (.str x)<;>rfl
theorem Zei:∀l,Zd0 ltB (l.map D.str)=(Zgd l).map D.str
 |[]=>rfl
 |x::r=>by
  have ih:=Zei r
  show Zl5 ltB (.str x) (Zd0 ltB (r.map D.str))=_
  rw[ih,Zh9]
  rfl
theorem Zh8 (x:List Nat):∀l y,y∈Zl3 x l↔y=x∨y∈l
 |[],y=>by simp[Zl3]
 |z::r,y=>by
  have ih:=Zh8 x r y
  unfold Zl3
  cases ltB (.str z) (.str x) with
  |true=>
   simp only[if_true,Zak,ih]
   constructor
   ·rintro (h |h |h)<;>simp[h]
   ·rintro (h |h |h)<;>simp[h]
  |false=>simp
theorem Zgb:∀l y,y∈Zgd l↔y∈l
 |[],y=>by simp[Zgd]
 |x::r,y=>by
  unfold Zgd
  rw[Zh8,Zgb r y,Zak]
theorem Zia (x:List Nat):∀l,(Zl3 x l).length=l.length+1
 |[]=>rfl
 |y::r=>by
  unfold Zl3
  split
  ·rw[Zae,Zia x r,Zae]
  ·rfl
theorem Zgc:∀l,(Zgd l).length=l.length
 |[]=>rfl
 |x::r=>by
  unfold Zgd
  rw[Zia,Zgc r,Zae]
theorem ZfV:∀(l acc:List (List Nat)),(∀y,y∈l.foldl (fun acc x=>if x∈acc then acc else acc++[x]) acc↔y∈acc∨y∈l)∧(l.foldl (fun acc x=>if x∈acc then acc else acc++[x]) acc).length≤acc.length+l.length
 |[],acc=>by simp
 |x::l,acc=>by
  rw[Zcj]
  by_cases e:x∈acc
  ·rw[if_pos e]
   obtain⟨h1,h2⟩:=ZfV l acc
   refine⟨fun y=>?_,by rw[Zae]; omega⟩
   rw[h1,Zak]
   constructor
   ·rintro (h |h)<;>simp[h]
   ·rintro (h |rfl |h)
    ·exact .inl h
    ·exact .inl e
    ·exact .inr h
  ·rw[if_neg e]
   obtain⟨h1,h2⟩:=ZfV l (acc++[x])
   refine⟨fun y=>?_,by rw[Zal,List.length_singleton] at h2; rw[Zae]; omega⟩
   rw[h1,Zak,ZaH,Zar]
   constructor
   ·rintro ((h |h) |h)<;>simp[h]
   ·rintro (h |h |h)<;>simp[h]
theorem ZgF (x:List Nat):∀acc:List (List Nat),(acc.map D.str).any (Zbb (.str x))=decide (x∈acc)
 |[]=>by simp
 |y::acc=>by
  have q:Zbb (.str x) (.str y)=(x == y):=by unfold Zbb; rfl
  rw[Zap,Zi2,ZgF x acc,q,ZaV]
  simp
theorem Zio (l:List (List Nat)):ZfU (l.map D.str)=(dedT l).map D.str:=by
 have key:∀(l acc:List (List Nat)),(l.map D.str).foldl (fun acc x=>if acc.any (Zbb x) then acc else acc++[x]) (acc.map D.str)=(l.foldl (fun acc x=>if x∈acc then acc else acc++[x]) acc).map D.str:=by
  intro l
  induction l with
  |nil=>intro acc; rfl
  |cons x l ih=>
   intro acc
   rw[Zap,Zcj,Zcj,ZgF]
   by_cases e:x∈acc
   ·rw[if_pos (by simpa using e),if_pos e]
    exact ih acc
   ·rw[if_neg (by simpa using e),if_neg e]
    have:=ih (acc++[x])
    rw[Zbs] at this
    exact this
 exact key l []
theorem Zf9 (l:List (List Nat)):Zeg (l.map D.str)=true:=by
 have a:Zfc (l.map D.str)=true:=by
  induction l with
  |nil=>rfl
  |cons x l ih=>
   show (kin (.str x) (.str x)&&(l.map D.str).all (fun y=>kin (.str x) y&&kin y y)&&Zfc (l.map D.str))=true
   rw[ih,Bool.and_true,Zaa]
   refine⟨rfl,?_⟩
   rw[Zaj]
   intro y hy
   obtain⟨z,_,rfl⟩:=Zah.mp hy
   rfl
 have b:dpts 60 (l.map D.str)=true:=ZfT 60 l
 unfold Zeg
 rw[a,b,ZeE,ZeE,Zaj]
 intro y hy
 obtain⟨z,_,rfl⟩:=Zah.mp hy
 rfl
def setT (l:List (List Nat)):List (List Nat):=Zgd (dedT l)
theorem Zc7 (l:List (List Nat)) (y:List Nat):y∈setT l↔y∈l:=by
 unfold setT
 rw[Zgb]
 have:=(ZfV l []).1 y
 simpa [dedT] using this
theorem Zfq (l:List (List Nat)):(setT l).length≤l.length:=by
 unfold setT
 rw[Zgc]
 simpa [dedT] using (ZfV l []).2
theorem Zjm {g:G} {call:Cl} {hc:Bool} {e:E} {env:Env} {h h':AH} {l:List (List Nat)} (he:evE g call hc e env h=.ok (.lst (l.map D.str)) h') (hl:l.length < 480):evE g call hc (.srt (.of e)) env h=.ok (.lst ((setT l).map D.str)) h':=by
 have sk:Zfr (l.map D.str)=true:=by
  unfold Zfr
  have:(l.map D.str).all Zh3=true:=by
   rw[Zaj]
   intro y hy
   obtain⟨z,_,rfl⟩:=Zah.mp hy
   rfl
  rw[this,Zac,ZaJ hl]
  rfl
 rw[Znk,se_of,he,bind_ok]
 unfold Zjw
 dsimp only
 rw[if_pos sk,bind_ok]
 unfold ZeM
 rw[if_pos (Zf9 l),Zio,Zei]
 rfl
/-! ### is_left_out,is_slip -/
def Zj5:Ss:=(.cons (.ret (.bi .any (.cmpr (.cmp .Eq (.bin .Add (.slc (.var 1) .no (.so (.var 2))) (.slc (.var 1) (.so (.bin .Add (.var 2) (.cst (.int 1)))) .no)) (.var 0)) [2] (.rng (.bi .len (.var 1))) .nil)))
 .nil)
section
variable {g:G} {n i:Nat} {h:AH} {a b:List Nat}
theorem Zeo (k:Nat):Zcm 0 (k:Int)=(List.range k).map fun i:Nat=>D.int (i:Int):=by
 unfold Zcm
 rw[Int.sub_zero,ZcM]
 refine Zdt fun x _=>?_
 rw[Int.zero_add]
theorem ZdH {α:Type} {l:List α} {k:Nat} (hk:k≤l.length):cut l (some (k:Int)) none=l.drop k:=by
 rw[Zmu (by omega) (by omega),ZcM]
theorem lin {k:Nat} (h:k≤1000):(k≤line)=True:=eq_true (ZaI h (by decide))
theorem Zj4 (hf:g.fn i=some ⟨2,3,Zj5⟩) (hb:b.length≤100):(cN g (n+1)).f true i [.str a,.str b] h=.ok (.bl (Zha a b)) h:=by
 rw[Zbq,hf]
 have el:evE g (cN g n) true (.bi .len (.var 1)) [.v (.str a),.v (.str b),.no] h=.ok (.int b.length) h:=by
  simp only[Zd2,Zbp,ldV_zero,ldV_succ,bind_ok,len_s,lin (show b.length≤1000 by omega),if_true]
 have ei:=Zkg el ⟨by omega,by omega⟩
 rw[Zeo] at ei
 have cm:evE g (cN g n) true (.cmpr (.cmp .Eq (.bin .Add (.slc (.var 1) .no (.so (.var 2))) (.slc (.var 1) (.so (.bin .Add (.var 2) (.cst (.int 1)))) .no)) (.var 0)) [2] (.rng (.bi .len (.var 1))) .nil) [.v (.str a),.v (.str b),.no] h=.ok (.lst ((List.range b.length).map fun i=>D.bl (b.take i++b.drop (i+1) == a))) h:=by
  rw[ZdI ei (by rw[Zac,Zby]; exact ZaI hb (by decide)),Zfy (k:=fun i=>D.bl (b.take i++b.drop (i+1) == a)) fun i hi=>?_]
  ·rfl
  ·rw[ZaN] at hi
   have c1:cut b none (some (i:Int))=b.take i:=Zny i
   have c2:cut b (some ((i:Int)+1)) none=b.drop (i+1):=ZdH (k:=i+1) (by omega)
   have l1:(b.take i).length+(b.drop (i+1)).length≤1000:=by rw[Za0,ZbP]; omega
   show (evIfs g (cN g n) true .nil [.v (.str a),.v (.str b),.v (.int i)] h).bind _=_
   simp only[ZfH,Zav,Zas,bind_ok,if_true,ZcP,ZcA,Ze8,evOp,Zbp,ZdE,ldV_zero,ldV_succ,add_ii,sl_s,lin (show b.length≤1000 by omega),c1,c2,add_ss,lin l1,eq_ss,Zbv,Zaz]
 show fin (evSs g (cN g n) true Zj5 [.v (.str a),.v (.str b),.no] h)=_
 simp only[Zj5,zE,ldV_zero,ldV_succ,bind_ok,bindX_ok,Zbv,tr_bl,Zaz,Zbl,Zap,ZaW,List.replicate,ZaF,ZaG,Zaw,ZbU,ZaA,Zaq,if_true,if_false,ZaM,Zbf,Zau,Zav,Zas,Za8,fin,Za6,ZbB,Zae,Zat,Nat.reduceAdd,Nat.reduceSub,Nat.reduceEqDiff,cm,any_l,ZnE]
 rw[List.any_map]
 rfl
def ZhE:Ss:=(.cons (.ifs (.cmp .NotEq (.bi .len (.var 0)) (.bi .len (.var 1))) (.cons (.ret (.cst (.bl false)))
 .nil) .nil)
 (.cons (.asg 2 (.cmpr (.var 5) [5] (.rng (.bi .len (.var 0))) (.cons (.cmp .NotEq (.idx (.var 0) (.var 5)) (.idx (.var 1) (.var 5))) .nil)))
 (.cons (.ifs (.cmp .NotEq (.bi .len (.var 2)) (.cst (.int 2))) (.cons (.ret (.cmp .Eq (.bi .len (.var 2)) (.cst (.int 1))))
 .nil) .nil)
 (.cons (.asgt [3,4] (.var 2))
 (.cons (.ret (.and (.cons (.cmp .Eq (.var 4) (.bin .Add (.var 3) (.cst (.int 1)))) (.cons (.cmp .Eq (.idx (.var 0) (.var 3)) (.idx (.var 1) (.var 4))) (.cons (.cmp .Eq (.idx (.var 0) (.var 4)) (.idx (.var 1) (.var 3))) .nil)))))
 .nil)))))
def Zly (fl:Nat):Ss:=(.cons (.ifs (.cmp .Eq (.bi .len (.var 0)) (.bin .Add (.bi .len (.var 1)) (.cst (.int 1)))) (.cons (.ret (.cal fl (.cons (.var 1) (.cons (.var 0) .nil)) .nil [0,1]))
 .nil) .nil)
 (.cons (.ifs (.cmp .Eq (.bi .len (.var 1)) (.bin .Add (.bi .len (.var 0)) (.cst (.int 1)))) (.cons (.ret (.cal fl (.cons (.var 0) (.cons (.var 1) .nil)) .nil [0,1]))
 .nil) .nil)
 ZhE))
theorem ZdW:∀{a b:List Nat},a.length=b.length→(List.range a.length).filter (fun i=>a[i]? != b[i]?)=dif a b
 |[],[],_=>rfl
 |[],_::_,h=>by simp at h
 |_::_,[],h=>by simp at h
 |x::a,y::b,h=>by
  have ih:=ZdW (a:=a) (b:=b) (by simpa using h)
  rw[Zae,List.range_succ_eq_map,Zbu,List.filter_map]
  unfold dif
  have e:((fun i=>(x::a)[i]? != (y::b)[i]?)∘Nat.succ)=fun i=>a[i]? != b[i]? :=by
   funext i
   simp
  rw[e,ih]
  by_cases xy:x=y
  ·subst xy
   simp
  ·simp[xy]
theorem dif_lt {a b:List Nat} (h:a.length=b.length) {i:Nat} (hi:i∈dif a b):i < a.length:=by
 rw[← ZdW h] at hi
 exact ZaN.mp (Zbj.mp hi).1
theorem ZkF {a b:List Nat}:∀{D:List Nat},D.length≠2→Zhl a b D=(D.length == 1)
 |[],_=>rfl
 |[_],_=>rfl
 |[_,_],h=>absurd rfl h
 |_::_::_::D,_=>by simp[Zhl]
theorem Zc5 {s:List Nat} {i:Nat} (hi:i < s.length):L2.atI s (i:Int)=some s[i]:=by
 unfold L2.atI L2.ixN
 rw[if_pos (by omega),if_pos (by omega),ZaE,ZcM,Zad hi]
theorem Zlz {call:Cl} (ha:a.length≤100) (hb:b.length≤100) (hl:a.length=b.length):evSs g call true ZhE [.v (.str a),.v (.str b),.no,.no,.no,.no] h=.ok (.rt (.bl (Zhl a b (dif a b)))) h:=by
 have la:=lin (show a.length≤1000 by omega)
 have lb:=lin (show b.length≤1000 by omega)
 have s1:evS g call true (.ifs (.cmp .NotEq (.bi .len (.var 0)) (.bi .len (.var 1))) (.cons (.ret (.cst (.bl false))) .nil) .nil) [.v (.str a),.v (.str b),.no,.no,.no,.no] h=.ok (.nx [.v (.str a),.v (.str b),.no,.no,.no,.no]) h:=by
  have q:((a.length:Int) == (b.length:Int))=true:=by rw[Zbi]; omega
  simp only[zE,ldV_zero,ldV_succ,bind_ok,bindX_ok,Zbv,tr_bl,Zaz,Zbl,Zap,ZaW,List.replicate,ZaF,ZaG,Zaw,ZbU,ZaA,Zaq,if_true,if_false,ZaM,Zbf,Zau,Zav,Zas,Za8,fin,Za6,ZbB,Zae,Zat,Nat.reduceAdd,Nat.reduceSub,Nat.reduceEqDiff,len_s,la,lb,ZlQ,q]
 have el:evE g call true (.bi .len (.var 0)) [.v (.str a),.v (.str b),.no,.no,.no,.no] h=.ok (.int a.length) h:=by
  simp only[Zd2,Zbp,ldV_zero,ldV_succ,bind_ok,len_s,la,if_true]
 have ei:=Zkg el ⟨by omega,by omega⟩
 rw[Zeo] at ei
 have cm:evE g call true (.cmpr (.var 5) [5] (.rng (.bi .len (.var 0))) (.cons (.cmp .NotEq (.idx (.var 0) (.var 5)) (.idx (.var 1) (.var 5))) .nil)) [.v (.str a),.v (.str b),.no,.no,.no,.no] h=.ok (.lst ((dif a b).map fun i:Nat=>D.int (i:Int))) h:=by
  rw[ZdI ei (by rw[Zac,Zby]; exact ZaI ha (by decide)),ZdR (q:=fun i=>a[i]? != b[i]?) fun i hi=>?_]
  ·rw[ZdW hl]
   rfl
  ·rw[ZaN] at hi
   have a1:=Zc5 hi
   have b1:=Zc5 (s:=b) (show i < b.length by omega)
   have q:(a[i]? != b[i]?)= !([a[i]] == [b[i]'(by omega)]):=by
    rw[Zad hi,Zad (show i < b.length by omega),ZaV]
    simp
   rw[q]
   show (evIfs g call true _ [.v (.str a),.v (.str b),.no,.no,.no,.v (.int i)] h).bind _=_
   unfold evIfs
   cases hq:[a[i]] == [b[i]'(by omega)]<;>simp only[zE,ldV_zero,ldV_succ,bind_ok,bindX_ok,Zbv,tr_bl,Zaz,Zbl,Zap,ZaW,List.replicate,ZaF,ZaG,Zaw,ZbU,ZaA,Zaq,if_true,if_false,ZaM,Zbf,Zau,Zav,Zas,Za8,fin,Za6,ZbB,Zae,Zat,Nat.reduceAdd,Nat.reduceSub,Nat.reduceEqDiff,ix_si,la,lb,a1,b1,ZlP,hq,ZfH]
 have s2:evS g call true (.asg 2 (.cmpr (.var 5) [5] (.rng (.bi .len (.var 0))) (.cons (.cmp .NotEq (.idx (.var 0) (.var 5)) (.idx (.var 1) (.var 5))) .nil))) [.v (.str a),.v (.str b),.no,.no,.no,.no] h=.ok (.nx [.v (.str a),.v (.str b),.v (.lst ((dif a b).map fun i:Nat=>D.int (i:Int))),.no,.no,.no]) h:=by
  rw[ZdN,cm]
  rfl
 unfold ZhE
 rw[ZbG s1,ZbG s2]
 have hlt:∀i∈dif a b,i < a.length:=fun i hi=>dif_lt hl hi
 generalize dif a b=Ds at *
 by_cases h2:Ds.length=2
 ·match Ds,h2 with
  |[i,j],_=>
   have i1:=hlt i (by simp)
   have j1:=hlt j (by simp)
   have ai:=Zc5 i1
   have aj:=Zc5 j1
   have bi:=Zc5 (s:=b) (show i < b.length by omega)
   have bj:=Zc5 (s:=b) (show j < b.length by omega)
   have q:((2:Int) == 2)=true:=rfl
   have z:(((0+1+1:Nat):Int) == 2)=true:=rfl
   have qq:Zhl a b [i,j]=(j == i+1&&([a[i]] == [b[j]'(by omega)]&&[a[j]] == [b[i]'(by omega)])):=by
    show (j == i+1&&(a[i]? == b[j]? &&a[j]? == b[i]?))=_
    rw[Zad i1,Zad j1,Zad (show i < b.length by omega),Zad (show j < b.length by omega),ZaV]
    simp
   have qi:((j:Int) == (i:Int)+1)=(j == i+1):=by
    rw[ZaV,Zbi,Zbi]
    omega
   rw[qq]
   have s3:∀X,evS g call true (.ifs (.cmp .NotEq (.bi .len (.var 2)) (.cst (.int 2))) X .nil) [.v (.str a),.v (.str b),.v (.lst ([i,j].map fun i:Nat=>D.int (i:Int))),.no,.no,.no] h=.ok (.nx [.v (.str a),.v (.str b),.v (.lst ([i,j].map fun i:Nat=>D.int (i:Int))),.no,.no,.no]) h:=fun X=>by
    have:ZeT .len (.lst ([i,j].map fun i:Nat=>D.int (i:Int))) h=.ok (.int 2) h:=rfl
    simp only[Zft,et_,ZcP,Zd2,Zbp,ZdE,ldV_zero,ldV_succ,bind_ok,this,ZlQ,q,Zbv,Zaz,ZaM,tr_bl,bindX_ok,Zau,if_false,ZcV]
   have s4:evS g call true (.asgt [3,4] (.var 2)) [.v (.str a),.v (.str b),.v (.lst ([i,j].map fun i:Nat=>D.int (i:Int))),.no,.no,.no] h=.ok (.nx [.v (.str a),.v (.str b),.v (.lst ([i,j].map fun i:Nat=>D.int (i:Int))),.v (.int i),.v (.int j),.no]) h:=rfl
   rw[ZbG (s3 _),ZbG s4]
   cases h3:j == i+1<;>cases h4:[a[i]] == [b[j]'(by omega)]<;>simp only[zE,ldV_zero,ldV_succ,bind_ok,bindX_ok,Zbv,tr_bl,Zaz,Zbl,Zap,ZaW,List.replicate,ZaF,ZaG,Zaw,ZbU,ZaA,Zaq,if_true,if_false,ZaM,Zbf,Zau,Zav,Zas,Za8,fin,Za6,ZbB,Zae,Zat,Nat.reduceAdd,Nat.reduceSub,Nat.reduceEqDiff,add_ii,ZiV,qi,h3,ix_si,la,lb,ai,aj,bi,bj,eq_ss,h4,ZeE,Bool.false_and]
 ·have l2:ZeT .len (.lst (Ds.map fun i:Nat=>D.int (i:Int))) h=.ok (.int (Ds.length:Nat)) h:=by
   rw[len_l,Zac]
  have q:(((Ds.length:Nat):Int) == 2)=false:=by rw[ZaU]; omega
  have q1:(((Ds.length:Nat):Int) == 1)=(Ds.length == 1):=by
   rw[ZaV,Zbi,Zbi]
   omega
  rw[ZkF h2]
  simp only[zE,ldV_zero,ldV_succ,bind_ok,bindX_ok,Zbv,tr_bl,Zaz,Zbl,Zap,ZaW,List.replicate,ZaF,ZaG,Zaw,ZbU,ZaA,Zaq,if_true,if_false,ZaM,Zbf,Zau,Zav,Zas,Za8,fin,Za6,ZbB,Zae,Zat,Nat.reduceAdd,Nat.reduceSub,Nat.reduceEqDiff,l2,ZlQ,ZiV,q,q1]
end
end Rk
/-! Rk.Sn:is_slip whole; all slips. -/
namespace Rk
open PySem
section
variable {g:G} {n i:Nat} {h:AH} {a b:List Nat}
theorem Zoh {fl:Nat} (hf:g.fn i=some ⟨2,6,Zly fl⟩) (hfl:g.fn fl=some ⟨2,3,Zj5⟩) (hd:∀k,g.dfl k=[]) (ha:a.length≤100) (hb:b.length≤100):(cN g (n+2)).f true i [.str a,.str b] h=.ok (.bl (ZcR a b)) h:=by
 rw[Zbq,hf]
 have la:=lin (show a.length≤1000 by omega)
 have lb:=lin (show b.length≤1000 by omega)
 have eab:∀h,(cN g (n+1)).f true fl [.str a,.str b] h=.ok (.bl (Zha a b)) h:=fun h=>Zj4 hfl hb
 have eba:∀h,(cN g (n+1)).f true fl [.str b,.str a] h=.ok (.bl (Zha b a)) h:=fun h=>Zj4 hfl ha
 have q1:((a.length:Int) == (b.length:Int)+1)=decide (a.length=b.length+1):=by
  rw[ZaV,Zbi,Zab]
  omega
 have q2:((b.length:Int) == (a.length:Int)+1)=decide (b.length=a.length+1):=by
  rw[ZaV,Zbi,Zab]
  omega
 have q3:((a.length:Int) == (b.length:Int))=decide (a.length=b.length):=by
  rw[ZaV,Zbi,Zab]
  omega
 show fin (evSs g (cN g (n+1)) true (Zly fl) [.v (.str a),.v (.str b),.no,.no,.no,.no] h)=_
 unfold ZcR Zly
 by_cases h1:a.length=b.length+1
 ·rw[if_pos h1]
  rw[ZaJ h1] at q1
  simp only[zE,ldV_zero,ldV_succ,bind_ok,bindX_ok,Zbv,tr_bl,Zaz,Zbl,Zap,ZaW,List.replicate,ZaF,ZaG,Zaw,ZbU,ZaA,Zaq,if_true,if_false,ZaM,Zbf,Zau,Zav,Zas,Za8,fin,Za6,ZbB,Zae,Zat,Nat.reduceAdd,Nat.reduceSub,Nat.reduceEqDiff,len_s,la,lb,add_ii,ZiV,q1,hd,eba]
 ·rw[if_neg h1]
  rw[ZaO h1] at q1
  have s1:∀X,evS g (cN g (n+1)) true (.ifs (.cmp .Eq (.bi .len (.var 0)) (.bin .Add (.bi .len (.var 1)) (.cst (.int 1)))) X .nil) [.v (.str a),.v (.str b),.no,.no,.no,.no] h=.ok (.nx [.v (.str a),.v (.str b),.no,.no,.no,.no]) h:=fun X=>by
   simp only[zE,ldV_zero,ldV_succ,bind_ok,bindX_ok,Zbv,tr_bl,Zaz,Zbl,Zap,ZaW,List.replicate,ZaF,ZaG,Zaw,ZbU,ZaA,Zaq,if_true,if_false,ZaM,Zbf,Zau,Zav,Zas,Za8,fin,Za6,ZbB,Zae,Zat,Nat.reduceAdd,Nat.reduceSub,Nat.reduceEqDiff,len_s,la,lb,add_ii,ZiV,q1]
  rw[ZbG (s1 _)]
  by_cases h2:b.length=a.length+1
  ·rw[if_pos h2]
   rw[ZaJ h2] at q2
   simp only[zE,ldV_zero,ldV_succ,bind_ok,bindX_ok,Zbv,tr_bl,Zaz,Zbl,Zap,ZaW,List.replicate,ZaF,ZaG,Zaw,ZbU,ZaA,Zaq,if_true,if_false,ZaM,Zbf,Zau,Zav,Zas,Za8,fin,Za6,ZbB,Zae,Zat,Nat.reduceAdd,Nat.reduceSub,Nat.reduceEqDiff,len_s,la,lb,add_ii,ZiV,q2,hd,eab]
  ·rw[if_neg h2]
   rw[ZaO h2] at q2
   have s2:∀X,evS g (cN g (n+1)) true (.ifs (.cmp .Eq (.bi .len (.var 1)) (.bin .Add (.bi .len (.var 0)) (.cst (.int 1)))) X .nil) [.v (.str a),.v (.str b),.no,.no,.no,.no] h=.ok (.nx [.v (.str a),.v (.str b),.no,.no,.no,.no]) h:=fun X=>by
    simp only[zE,ldV_zero,ldV_succ,bind_ok,bindX_ok,Zbv,tr_bl,Zaz,Zbl,Zap,ZaW,List.replicate,ZaF,ZaG,Zaw,ZbU,ZaA,Zaq,if_true,if_false,ZaM,Zbf,Zau,Zav,Zas,Za8,fin,Za6,ZbB,Zae,Zat,Nat.reduceAdd,Nat.reduceSub,Nat.reduceEqDiff,len_s,la,lb,add_ii,ZiV,q2]
   rw[ZbG (s2 _)]
   by_cases h3:a.length=b.length
   ·rw[if_pos h3,Zlz ha hb h3]
    rfl
   ·rw[if_neg h3]
    rw[ZaO h3] at q3
    simp only[ZhE,zE,ldV_zero,ldV_succ,bind_ok,bindX_ok,Zbv,tr_bl,Zaz,Zbl,Zap,ZaW,List.replicate,ZaF,ZaG,Zaw,ZbU,ZaA,Zaq,if_true,if_false,ZaM,Zbf,Zau,Zav,Zas,Za8,fin,Za6,ZbB,Zae,Zat,Nat.reduceAdd,Nat.reduceSub,Nat.reduceEqDiff,len_s,la,lb,ZlQ,q3]
/-! ### all slips -/
def slA:E:=.cmpr (.bin .Add (.bin .Add (.slc (.var 0) .no (.so (.var 3))) (.var 4)) (.slc (.var 0) (.so (.var 3)) .no)) [4] (.seq (.var 1)) .nil
def slC:E:=.cmpr (.bin .Add (.bin .Add (.slc (.var 0) .no (.so (.var 3))) (.var 4)) (.slc (.var 0) (.so (.bin .Add (.var 3) (.cst (.int 1)))) .no)) [4] (.seq (.var 1)) (.cons (.cmp .NotEq (.var 4) (.idx (.var 0) (.var 3))) .nil)
def slB:E:=.lst (.cons (.bin .Add (.slc (.var 0) .no (.so (.var 3))) (.slc (.var 0) (.so (.bin .Add (.var 3) (.cst (.int 1)))) .no)) .nil)
def slD:E:=.lst (.cons (.bin .Add (.bin .Add (.bin .Add (.slc (.var 0) .no (.so (.var 3))) (.idx (.var 0) (.bin .Add (.var 3) (.cst (.int 1))))) (.idx (.var 0) (.var 3))) (.slc (.var 0) (.so (.bin .Add (.var 3) (.cst (.int 2)))) .no)) .nil)
def ZdX:Ss:=.cons (.asg 2 (.bin .Add (.var 2) slA)) (.cons (.ifs (.cmp .Lt (.var 3) (.bi .len (.var 0))) (.cons (.asg 2 (.bin .Add (.var 2) slB)) (.cons (.asg 2 (.bin .Add (.var 2) slC)) .nil)) .nil) (.cons (.ifs (.and (.cons (.cmp .Lt (.bin .Add (.var 3) (.cst (.int 1))) (.bi .len (.var 0))) (.cons (.cmp .NotEq (.idx (.var 0) (.var 3)) (.idx (.var 0) (.bin .Add (.var 3) (.cst (.int 1))))) .nil))) (.cons (.asg 2 (.bin .Add (.var 2) slD)) .nil) .nil) .nil))
def allB:Ss:=.cons (.asg 2 (.lst .nil)) (.cons (.for [3] (.rng (.bin .Add (.bi .len (.var 0)) (.cst (.int 1)))) ZdX) (.cons (.ret (.srt (.of (.var 2)))) .nil))
section
variable {call:Cl} {w S:List Nat} {F:D} {k:Nat}
theorem cutT (k:Nat):cut w none (some (k:Int))=w.take k:=Zny k
theorem cutF (hk:k≤w.length):cut w (some (k:Int)) none=w.drop k:=ZdH hk
theorem cutF1 (hk:k < w.length):cut w (some ((k:Int)+1)) none=w.drop (k+1):=ZdH (k:=k+1) hk
theorem cutF2 (hk:k+1 < w.length):cut w (some ((k:Int)+2)) none=w.drop (k+2):=ZdH (k:=k+2) hk
theorem slA_eq {x4:Sl} (hw:w.length≤100) (hS:S.length≤100) (hk:k≤w.length):evE g call true slA [.v (.str w),.v (.lst (S.map fun c=>D.str [c])),.v F,.v (.int k),x4] h=.ok (.lst ((ZbJ w S k).map D.str)) h:=by
 have e0:evE g call true (.var 1) [.v (.str w),.v (.lst (S.map fun c=>D.str [c])),.v F,.v (.int k),x4] h=.ok (.lst (S.map fun c=>D.str [c])) h:=by rw[Zbp]; rfl
 have l1:(w.take k).length+([0]:List Nat).length≤1000:=by rw[Za0]; simp; omega
 unfold slA
 rw[ZdI (Zh5 e0) (by rw[Zac]; exact ZaI hS (by decide)),Zfy (k:=fun c=>D.str (w.take k++[c]++w.drop k)) fun c _=>?_]
 ·unfold ZbJ
  rw[Zb3]
  rfl
 ·show (evIfs g call true .nil [.v (.str w),.v (.lst (S.map fun c=>D.str [c])),.v F,.v (.int k),.v (.str [c])] h).bind _=_
  have l1:(w.take k).length+([c]:List Nat).length≤1000:=by rw[Za0]; simp; omega
  have l2:(w.take k++[c]).length+(w.drop k).length≤1000:=by rw[Zal,Za0,ZbP]; simp; omega
  simp only[ZfH,Zav,Zas,bind_ok,if_true,ZcA,Ze8,evOp,Zbp,ldV_zero,ldV_succ,sl_s,lin (show w.length≤1000 by omega),cutT,cutF hk,add_ss,lin l1,lin l2]
theorem slB_eq {x4:Sl} (hw:w.length≤100) (hk:k < w.length) {x1:Sl}:evE g call true slB [.v (.str w),x1,.v F,.v (.int k),x4] h=.ok (.lst ((ZbX w k).map D.str)) h:=by
 have l1:(w.take k).length+(w.drop (k+1)).length≤1000:=by rw[Za0,ZbP]; omega
 have k1:(0+1≤line)=True:=eq_true (by decide)
 unfold slB ZbX
 rw[if_pos hk]
 simp only[Zgz,ZdU,ZcO,bind_ok,if_true,ZcA,Ze8,evOp,Zbp,ZdE,ldV_zero,ldV_succ,add_ii,sl_s,lin (show w.length≤1000 by omega),cutT,cutF1 hk,add_ss,lin l1,Zae,Zat,k1,Zap,ZaW]
theorem slC_eq {x4:Sl} (hw:w.length≤100) (hS:S.length≤100) (hk:k < w.length):evE g call true slC [.v (.str w),.v (.lst (S.map fun c=>D.str [c])),.v F,.v (.int k),x4] h=.ok (.lst ((Zcg w S k).map D.str)) h:=by
 have e0:evE g call true (.var 1) [.v (.str w),.v (.lst (S.map fun c=>D.str [c])),.v F,.v (.int k),x4] h=.ok (.lst (S.map fun c=>D.str [c])) h:=by rw[Zbp]; rfl
 unfold slC
 rw[ZdI (Zh5 e0) (by rw[Zac]; exact ZaI hS (by decide)),ZdB (q:=fun c=>some c != w[k]?) (k:=fun c=>D.str (w.take k++[c]++w.drop (k+1))) fun c _=>?_]
 ·unfold Zcg
  rw[if_pos hk,Zb3]
  rfl
 ·show (evIfs g call true _ [.v (.str w),.v (.lst (S.map fun c=>D.str [c])),.v F,.v (.int k),.v (.str [c])] h).bind _=_
  have l1:(w.take k).length+([c]:List Nat).length≤1000:=by rw[Za0]; simp; omega
  have l2:(w.take k++[c]).length+(w.drop (k+1)).length≤1000:=by rw[Zal,Za0,ZbP]; simp; omega
  have a1:=Zc5 hk
  have q:(some c != w[k]?)= !([c] == [w[k]]):=by
   rw[Zad hk,ZaV]
   simp
  rw[q]
  unfold evIfs
  cases hq:[c] == [w[k]]<;>simp only[ZfH,Zav,Zas,bind_ok,if_true,if_false,ZcA,Ze8,ZcP,Ze9,evOp,Zbp,ZdE,ldV_zero,ldV_succ,add_ii,sl_s,ix_si,a1,Zbv,Zaz,ZlP,hq,tr_bl,ZaM,Zbf,Zau,lin (show w.length≤1000 by omega),cutT,cutF1 hk,add_ss,lin l1,lin l2]
theorem slD_eq {x4:Sl} (hw:w.length≤100) (hk:k+1 < w.length) {x1:Sl} (hn:(w[k]? != w[k+1]?)=true):evE g call true slD [.v (.str w),x1,.v F,.v (.int k),x4] h=.ok (.lst ((ZcD w k).map D.str)) h:=by
 have k1:(0+1≤line)=True:=eq_true (by decide)
 have a0:=Zc5 (ZbY hk)
 have a1:L2.atI w ((k:Int)+1)=some w[k+1]:=Zc5 hk
 have g1:w.getD (k+1) 0=w[k+1]:=by simp[List.getD,hk]
 have g0:w.getD k 0=w[k]:=by simp[List.getD,ZbY hk]
 have l1:(w.take k).length+([w[k+1]]:List Nat).length≤1000:=by rw[Za0]; simp; omega
 have l2:(w.take k++[w[k+1]]).length+([w[k]]:List Nat).length≤1000:=by rw[Zal,Za0]; simp; omega
 have l3:(w.take k++[w[k+1]]++[w[k]]).length+(w.drop (k+2)).length≤1000:=by rw[Zal,Zal,Za0,ZbP]; simp; omega
 unfold slD ZcD
 rw[if_pos hk,if_pos hn,g1,g0]
 simp only[Zgz,ZdU,ZcO,bind_ok,if_true,ZcA,Ze8,Ze9,evOp,Zbp,ZdE,ldV_zero,ldV_succ,add_ii,sl_s,ix_si,a0,a1,Zbv,Zaz,lin (show w.length≤1000 by omega),cutT,cutF2 hk,add_ss,lin l1,lin l2,lin l3,Zap,ZaW]
 simp only[Zae,Zat,k1,if_true]
theorem ZgT (w S:List Nat) (k:Nat):(ZbJ w S k).length+(ZbX w k).length+(Zcg w S k).length+(ZcD w k).length≤2 * S.length+2:=by
 have:=ZcK w S k
 unfold Zb4 at this
 simp[Zal] at this
 omega
theorem ZpE {L:List (List Nat)} (hw:w.length≤100) (hS:S.length≤100) (hk:k≤w.length) (hL:L.length+(2 * S.length+2)≤1000):
  evSs g call true ZdX [.v (.str w),.v (.lst (S.map fun c=>D.str [c])),.v (.lst (L.map D.str)),.v (.int k),.no] h=.ok (.nx [.v (.str w),.v (.lst (S.map fun c=>D.str [c])),.v (.lst ((L++Zb4 w S k).map D.str)),.v (.int k),.no]) h:=by
 have lw:=lin (show w.length≤1000 by omega)
 have sl:=ZgT w S k
 have s1:evS g call true (.asg 2 (.bin .Add (.var 2) slA)) [.v (.str w),.v (.lst (S.map fun c=>D.str [c])),.v (.lst (L.map D.str)),.v (.int k),.no] h=.ok (.nx [.v (.str w),.v (.lst (S.map fun c=>D.str [c])),.v (.lst ((L++ZbJ w S k).map D.str)),.v (.int k),.no]) h:=by
  have l:((L.map D.str).length+((ZbJ w S k).map D.str).length≤line)=True:=lin (by rw[Zac,Zac]; omega)
  simp only[ZdN,ZcA,Zbp,ldV_zero,ldV_succ,bind_ok,slA_eq hw hS hk,add_ll,l,if_true,bindX_ok,Zav,Zas,Zbs]
 have hlt:decide ((k:Int) < (w.length:Int))=decide (k < w.length):=by
  rw[ZaV,Zab,Zab]
  omega
 have s2:evS g call true (.ifs (.cmp .Lt (.var 3) (.bi .len (.var 0))) (.cons (.asg 2 (.bin .Add (.var 2) slB)) (.cons (.asg 2 (.bin .Add (.var 2) slC)) .nil)) .nil) [.v (.str w),.v (.lst (S.map fun c=>D.str [c])),.v (.lst ((L++ZbJ w S k).map D.str)),.v (.int k),.no] h=.ok (.nx [.v (.str w),.v (.lst (S.map fun c=>D.str [c])),.v (.lst ((L++ZbJ w S k++ZbX w k++Zcg w S k).map D.str)),.v (.int k),.no]) h:=by
  by_cases hk2:k < w.length
  ·rw[ZaJ hk2] at hlt
   have l1:(((L++ZbJ w S k).map D.str).length+((ZbX w k).map D.str).length≤line)=True:=lin (by rw[Zac,Zac,Zal]; omega)
   have l2:(((L++ZbJ w S k++ZbX w k).map D.str).length+((Zcg w S k).map D.str).length≤line)=True:=lin (by rw[Zac,Zac,Zal,Zal]; omega)
   have t1:evS g call true (.asg 2 (.bin .Add (.var 2) slB)) [.v (.str w),.v (.lst (S.map fun c=>D.str [c])),.v (.lst ((L++ZbJ w S k).map D.str)),.v (.int k),.no] h=.ok (.nx [.v (.str w),.v (.lst (S.map fun c=>D.str [c])),.v (.lst ((L++ZbJ w S k++ZbX w k).map D.str)),.v (.int k),.no]) h:=by
    rw[ZdN,ZcA,Zbp]
    show Res.bindX (Res.bind (.ok (D.lst ((L++ZbJ w S k).map D.str)) h) _) _ _=_
    rw[bind_ok,slB_eq hw hk2,bind_ok,add_ll,if_pos (of_eq_true l1),bindX_ok,Zbs (l₂:=ZbX w k)]
    rfl
   have t2:evS g call true (.asg 2 (.bin .Add (.var 2) slC)) [.v (.str w),.v (.lst (S.map fun c=>D.str [c])),.v (.lst ((L++ZbJ w S k++ZbX w k).map D.str)),.v (.int k),.no] h=.ok (.nx [.v (.str w),.v (.lst (S.map fun c=>D.str [c])),.v (.lst ((L++ZbJ w S k++ZbX w k++Zcg w S k).map D.str)),.v (.int k),.no]) h:=by
    rw[ZdN,ZcA,Zbp]
    show Res.bindX (Res.bind (.ok (D.lst ((L++ZbJ w S k++ZbX w k).map D.str)) h) _) _ _=_
    rw[bind_ok,slC_eq hw hS hk2,bind_ok,add_ll,if_pos (of_eq_true l2),bindX_ok,Zbs (l₂:=Zcg w S k)]
    rfl
   simp only[Zft,et_,ZcP,Zd2,Zbp,ldV_zero,ldV_succ,bind_ok,len_s,lw,if_true,lt_ii,hlt,Zbv,Zaz,tr_bl,bindX_ok]
   rw[ZbG t1,ZbG t2,ZcV]
  ·rw[ZaO hk2] at hlt
   have eB:ZbX w k=[]:=if_neg hk2
   have eC:Zcg w S k=[]:=if_neg hk2
   rw[eB,eC,Zaw,Zaw]
   simp only[Zft,et_,ZcP,Zd2,Zbp,ldV_zero,ldV_succ,bind_ok,len_s,lw,if_true,lt_ii,hlt,Zbv,Zaz,tr_bl,bindX_ok,Zau,if_false,ZcV]
 have hlt2:decide ((k:Int)+1 < (w.length:Int))=decide (k+1 < w.length):=by
  rw[ZaV,Zab,Zab]
  omega
 have s3:evS g call true (.ifs (.and (.cons (.cmp .Lt (.bin .Add (.var 3) (.cst (.int 1))) (.bi .len (.var 0))) (.cons (.cmp .NotEq (.idx (.var 0) (.var 3)) (.idx (.var 0) (.bin .Add (.var 3) (.cst (.int 1))))) .nil))) (.cons (.asg 2 (.bin .Add (.var 2) slD)) .nil) .nil) [.v (.str w),.v (.lst (S.map fun c=>D.str [c])),.v (.lst ((L++ZbJ w S k++ZbX w k++Zcg w S k).map D.str)),.v (.int k),.no] h=.ok (.nx [.v (.str w),.v (.lst (S.map fun c=>D.str [c])),.v (.lst ((L++ZbJ w S k++ZbX w k++Zcg w S k++ZcD w k).map D.str)),.v (.int k),.no]) h:=by
  by_cases hk2:k+1 < w.length
  ·rw[ZaJ hk2] at hlt2
   have a0:=Zc5 (ZbY hk2)
   have a1:L2.atI w ((k:Int)+1)=some w[k+1]:=Zc5 hk2
   have q:(w[k]? != w[k+1]?)= !([w[k]] == [w[k+1]]):=by
    rw[Zad (ZbY hk2),Zad hk2,ZaV]
    simp
   cases hq:[w[k]] == [w[k+1]] with
   |true=>
    rw[hq] at q
    have eD:ZcD w k=[]:=by unfold ZcD; rw[if_pos hk2,q]; rfl
    rw[eD,Zaw]
    simp only[zE,ldV_zero,ldV_succ,bind_ok,bindX_ok,Zbv,tr_bl,Zaz,Zbl,Zap,ZaW,List.replicate,ZaF,ZaG,Zaw,ZbU,ZaA,Zaq,if_true,if_false,ZaM,Zbf,Zau,Zav,Zas,Za8,fin,Za6,ZbB,Zae,Zat,Nat.reduceAdd,Nat.reduceSub,Nat.reduceEqDiff,len_s,lw,add_ii,lt_ii,hlt2,ix_si,a0,a1,ZlP,hq]
   |false=>
    rw[hq] at q
    have l1:(((L++ZbJ w S k++ZbX w k++Zcg w S k).map D.str).length+((ZcD w k).map D.str).length≤line)=True:=lin (by rw[Zac,Zac,Zal,Zal,Zal]; omega)
    have t1:evS g call true (.asg 2 (.bin .Add (.var 2) slD)) [.v (.str w),.v (.lst (S.map fun c=>D.str [c])),.v (.lst ((L++ZbJ w S k++ZbX w k++Zcg w S k).map D.str)),.v (.int k),.no] h=.ok (.nx [.v (.str w),.v (.lst (S.map fun c=>D.str [c])),.v (.lst ((L++ZbJ w S k++ZbX w k++Zcg w S k++ZcD w k).map D.str)),.v (.int k),.no]) h:=by
     rw[ZdN,ZcA,Zbp]
     show Res.bindX (Res.bind (.ok (D.lst ((L++ZbJ w S k++ZbX w k++Zcg w S k).map D.str)) h) _) _ _=_
     rw[bind_ok,slD_eq hw hk2 (by rw[q]; rfl),bind_ok,add_ll,if_pos (of_eq_true l1),bindX_ok,Zbs (l₂:=ZcD w k)]
     rfl
    simp only[Zft,et_,Znm,Zno,Znn,ZcP,Zd2,ZcA,Ze9,ZdE,Zbp,ldV_zero,ldV_succ,bind_ok,len_s,lw,if_true,add_ii,lt_ii,hlt2,ix_si,a0,a1,ZlP,hq,Zbv,Zaz,tr_bl,bindX_ok,Zbf]
    rw[ZbG t1,ZcV]
  ·rw[ZaO hk2] at hlt2
   have eD:ZcD w k=[]:=if_neg hk2
   rw[eD,Zaw]
   simp only[zE,ldV_zero,ldV_succ,bind_ok,bindX_ok,Zbv,tr_bl,Zaz,Zbl,Zap,ZaW,List.replicate,ZaF,ZaG,Zaw,ZbU,ZaA,Zaq,if_true,if_false,ZaM,Zbf,Zau,Zav,Zas,Za8,fin,Za6,ZbB,Zae,Zat,Nat.reduceAdd,Nat.reduceSub,Nat.reduceEqDiff,len_s,lw,add_ii,lt_ii,hlt2]
 unfold ZdX
 rw[ZbG s1,ZbG s2,ZbG s3,ZcV]
 unfold Zb4
 simp only[ZbH]
theorem Zj1 (hw:w.length≤100) (hS:S.length≤100):∀(ks:List Nat) (L:List (List Nat)) (x3:Sl),(∀k∈ks,k≤w.length)→L.length+ks.length * (2 * S.length+2)≤1000→
  ∃y3,ZiT (fun x env h=>match ZbB [3] x env with
   |some e=>evSs g call true ZdX e h
   |none=>.stuck) (ks.map fun k:Nat=>D.int (k:Int)) [.v (.str w),.v (.lst (S.map fun c=>D.str [c])),.v (.lst (L.map D.str)),x3,.no] h=.ok (.nx [.v (.str w),.v (.lst (S.map fun c=>D.str [c])),.v (.lst ((L++ks.flatMap (Zb4 w S)).map D.str)),y3,.no]) h
 |[],L,x3,_,_=>⟨x3,by rw[List.flatMap_nil,Zaw]; rfl⟩
 |k::ks,L,x3,hk,hL=>by
  rw[Zae,Nat.succ_mul] at hL
  have e:=ZpE (g:=g) (call:=call) (h:=h) (L:=L) hw hS (hk k Zag) (by omega)
  have sc:=ZcK w S k
  obtain⟨y3,ih⟩:=Zj1 hw hS ks (L++Zb4 w S k) (.v (.int k)) (fun q hq=>hk q (Zaf _ hq)) (by rw[Zal]; omega)
  refine⟨y3,?_⟩
  rw[List.flatMap_cons,← ZbH,← ih,Zap]
  conv=>lhs; unfold ZiT
  show (evSs g call true ZdX [.v (.str w),.v (.lst (S.map fun c=>D.str [c])),.v (.lst (L.map D.str)),.v (.int k),.no] h).bind _=_
  rw[e,bind_ok]
end
theorem Zii (f:Nat→List (List Nat)) (m:Nat) (hf:∀i,(f i).length≤m):∀ks:List Nat,(ks.flatMap f).length≤ks.length * m
 |[]=>by simp
 |k::ks=>by
  have:=Zii f m hf ks
  have:=hf k
  rw[List.flatMap_cons,Zal,Zae,Nat.succ_mul]
  omega
theorem Zek (w S:List Nat):(slips w S).length≤(w.length+1) * (2 * S.length+2):=by
 have:=Zii (Zb4 w S) _ (ZcK w S) (List.range (w.length+1))
 rw[Zby] at this
 exact this
theorem all_eq (hf:g.fn i=some ⟨2,5,allB⟩) {w S:List Nat} (hw:w.length≤100) (hS:S.length≤100) (hb:(w.length+1) * (2 * S.length+2) < 480):(cN g (n+1)).f true i [.str w,.lst (S.map fun c=>D.str [c])] h=.ok (.lst ((setT (slips w S)).map D.str)) h:=by
 rw[Zbq,hf]
 have el:evE g (cN g n) true (.bin .Add (.bi .len (.var 0)) (.cst (.int 1))) [.v (.str w),.v (.lst (S.map fun c=>D.str [c])),.v (.lst []),.no,.no] h=.ok (.int ((w.length+1:Nat):Int)) h:=by
  simp only[ZcA,Zd2,Zbp,ZdE,ldV_zero,ldV_succ,bind_ok,len_s,lin (show w.length≤1000 by omega),if_true,add_ii]
  rfl
 have ei:=Zkg el ⟨by omega,by omega⟩
 rw[Zeo] at ei
 have k0:(0≤line)=True:=eq_true (by decide)
 have s1:evS g (cN g n) true (.asg 2 (.lst .nil)) [.v (.str w),.v (.lst (S.map fun c=>D.str [c])),.no,.no,.no] h=.ok (.nx [.v (.str w),.v (.lst (S.map fun c=>D.str [c])),.v (.lst []),.no,.no]) h:=by
  simp only[ZdN,Zgz,ZcO,bind_ok,Zat,k0,if_true,bindX_ok,Zav,Zas]
 obtain⟨y3,e2⟩:=Zj1 (g:=g) (call:=cN g n) (h:=h) (w:=w) (S:=S) hw hS (List.range (w.length+1)) [] .no (fun k hk=>by rw[ZaN] at hk; omega) (by rw[Zby,Zat]; omega)
 have s2:=(Zpb (g:=g) (call:=cN g n) (c:=true) (tg:=[3]) (b:=ZdX) ei).trans e2
 have v2:evE g (cN g n) true (.var 2) [.v (.str w),.v (.lst (S.map fun c=>D.str [c])),.v (.lst (([]++(List.range (w.length+1)).flatMap (Zb4 w S)).map D.str)),y3,.no] h=.ok (.lst ((slips w S).map D.str)) h:=by
  rw[Zbp]
  rfl
 have s3:=Zjm v2 (Zbr (Zek w S) hb)
 show fin (evSs g (cN g n) true allB [.v (.str w),.v (.lst (S.map fun c=>D.str [c])),.no,.no,.no] h)=_
 unfold allB
 rw[ZbG s1,ZbG s2,Zf8 (v:=.lst ((setT (slips w S)).map D.str)) (by rw[ZgY,s3]; rfl)]
 rfl
end
end Rk
/-! Rk.Mx:things in a drawn order. -/
namespace Rk
open PySem
section
variable {g:G} {n i:Nat} {h:AH} {P:D→AH→Prop} {X:D→AH→Prop}
def ordB (pk fo:Nat) (A:List Nat):Ss:=(.cons (.ret (.mt .join (.cst (.str [])) (.cmpr (.cal fo (.cons (.var 0) (.cons (.cst (.str A)) .nil)) .nil [0,1]) [1] (.rng (.cal pk (.cons (.var 0) (.cons (.cst (.int 7)) .nil)) .nil [0,1])) .nil)))
 .nil)
theorem wp_ord {pk fo:Nat} {A:List Nat} (hf:g.fn i=some ⟨1,2,ordB pk fo A⟩) (hpk:g.fn pk=some ⟨2,6,Zg2⟩) (hfo:g.fn fo=some ⟨2,2,ofB pk⟩) (hd:∀k,g.dfl k=[]) {r:Nat} (hA:A≠[]) (hA2:A.length≤1000) (dl:ZeL r h)
  (hP:∀s h',s.length≤6→(∀c∈s,c∈A)→ZeL r h'→But r h h'→P (.str s) h'):Wp ((cN g (n+1+1+1)).f true i [.ref r] h) P X:=by
 rw[Zbq,hf]
 simp only[Zae,Zat,ordB,evSs,evS,evE,evEs,evIt,evOp,evIfs,Zap,ZaW,ZaF,ZaG,List.replicate,bind_ok,bindX_ok,ldV_zero,ldV_succ,if_true,fin,hd,Zaw,ZbU,ZaA,Zaq,Wp_bind,Wp_noexc,Wp_bindX,Zav,Zas,Wp_ok]
 refine ZdL hpk dl (by decide) (by decide) fun k h1 k0 k1 dl1 bt1=>?_
 have hk: -(2 ^ 62)≤k∧k < 2 ^ 62:=by omega
 simp only[hk,and_self,if_true,Wp_ok,len_fix,ZdQ]
 rw[if_pos (show k.toNat≤line from ZaI (show k.toNat≤8 by omega) e8)]
 simp only[Wp_bind,Wp_noexc]
 rw[show k.toNat=(Zcm 0 k).length by rw[ZdQ],Zea]
 refine ZhV (I:=fun h'=>ZeL r h'∧But r h h') (p:=fun y=>∃x∈A,y=.str [x]) ⟨dl1,bt1⟩ (fun x hx h2 ⟨dl2,bt2⟩=>?_) fun ys h2 ⟨dl2,bt2⟩ hys hl=>?_
 ·simp only[bind_one,Zav,Zas,Wp_ok,Wp_bind,bind_ok,if_true,ldV_zero,ldV_succ,ZbU,ZaA,Zaq]
  refine ZnQ hpk hfo (hd pk) dl2 hA (ZaI hA2 (by decide)) fun y h3 hy dl3 bt3=>?_
  exact⟨⟨dl3,bt2.trans bt3⟩,_,rfl,y,hy,rfl⟩
 rw[ZdQ] at hl
 obtain⟨s,es,hs,hsl⟩:=ZoV (h:=h2) hys (by rw[hl]; exact ZaI (show k.toNat≤8 by omega) e8)
 simp only[Wp_ok,es,bind_ok,Wp_bind,Wp_bindX]
 exact hP s h2 (by omega) hs dl2 bt2
end
theorem ZfG {x:List Nat} {l:List (List Nat)}:ZcB .In (.str x) (.lst (l.map .str))=some (decide (x∈l)):=by
 have e:ZcB .In (.str x) (.lst (l.map .str))=if dpt 60 (.str x)&&dpts 60 (l.map .str) then some ((l.map D.str).any fun z=>deq z (.str x)) else none:=by
  cases x with
  |nil=>rfl
  |cons c r=>cases r<;>rfl
 rw[e,ZfT,Zk3]
 rfl
theorem Zpz (s:List Nat):∃S:List Nat,(setT (s.map fun c=>[c])).map D.str=S.map (fun c=>D.str [c])∧(∀c∈s,c∈S)∧S.length≤s.length:=by
 have h1:∀x∈setT (s.map fun c=>[c]),∃c∈s,x=[c]:=fun x hx=>by
  obtain⟨c,hc,rfl⟩:=Zah.mp ((Zc7 _ _).mp hx)
  exact⟨c,hc,rfl⟩
 refine⟨(setT (s.map fun c=>[c])).map fun x=>x.headD 0,?_,fun c hc=>?_,?_⟩
 ·rw[Zb3]
  refine Zdt fun x hx=>?_
  obtain⟨c,_,rfl⟩:=h1 x hx
  rfl
 ·rw[Zah]
  exact⟨[c],(Zc7 _ _).mpr (Zah.mpr ⟨c,hc,rfl⟩),rfl⟩
 ·rw[Zac]
  have:=Zfq (s.map fun c=>[c])
  rwa [Zac] at this
end Rk
/-! M56:the law of keys that are near,plain. -/
namespace K56
open Rk PySem
def ordA:List Nat:=[97,97,98,46,49,57,95]
structure Fx (g:G):Prop where
 f0:g.fn 0=some ⟨2,3,Zj5⟩
 f1:g.fn 1=some ⟨2,6,Zly 0⟩
 f2:g.fn 2=some ⟨2,3,b2⟩
 f3:g.fn 3=some ⟨2,3,b3⟩
 f4:g.fn 4=some ⟨1,4,Zpp⟩
 f5:g.fn 5=some ⟨2,6,Zg2⟩
 f6:g.fn 6=some ⟨2,2,ofB 5⟩
 f7:g.fn 7=some ⟨2,2,ZgX⟩
 f8:g.fn 8=some ⟨1,2,ordB 5 6 ordA⟩
 f9:g.fn 9=some ⟨2,5,allB⟩
 f10:g.fn 10=some ⟨1,12,b10⟩
 df:∀k,g.dfl k=[]
theorem fx:Fx p.G:=⟨rfl,rfl,rfl,rfl,rfl,rfl,rfl,rfl,rfl,rfl,rfl,fun k=>Pg.dfl_nil (by rfl) k⟩
/-! what is told -/
def Zdp (K:List (List Nat)) (t:List Nat):List (List Nat):=setT (K.filter fun k=>ZcR k t)
def ZjN (N:List (List Nat)):D:=if N.length=1 then (N.map D.str).headD .non else .non
def ZdZ (K:List (List Nat)) (t:List Nat):D:=if t∈K then .str t else ZjN (Zdp K t)
def Sh (m:Nat) (K:List (List Nat)):Prop:=∀k∈K,k.length≤m
section
variable {g:G} {h h1 h2:AH} {env:Rk.Env} {n:Nat} {K:List (List Nat)} {t:List Nat} {call:Cl} {c:Bool}
theorem Zce {e:E} {x:D} (he:evE g call c e env h=.ok x h1):evEs g call c (.cons e .nil) env h=.ok [x] h1:=by
 rw[ZdU,he,bind_ok,ZcO]; rfl
theorem Zb7 {e:E} {r:Es} {x:D} {l:List D} (he:evE g call c e env h=.ok x h1) (hr:evEs g call c r env h1=.ok l h2):evEs g call c (.cons e r) env h=.ok (x::l) h2:=by
 rw[ZdU,he,bind_ok,hr]; rfl
theorem ZdV {es:Es} {l:List D} (he:evEs g call c es env h=.ok l h1) (hl:l.length≤line):evE g call c (.lst es) env h=.ok (.lst l) h1:=by
 rw[Zgz,he,bind_ok,if_pos hl]
theorem ZdF {f:Nat} {args:Es} {sel:List Nat} {l vs:List D} (ha:evEs g call c args env h=.ok l h1) (hd:g.dfl f=[]) (hp:ZbU sel l=some vs):evE g call c (.cal f args .nil sel) env h=call.f c f vs h1:=by
 rw[Zik,ha,bind_ok,ZcO,bind_ok,hd,Zaw,Zaw,hp]
theorem Znp {f:Nat} {kws:Es} {sel:List Nat} {l vs:List D} (ha:evEs g call c kws env h=.ok l h1) (hd:g.dfl f=[]) (hp:ZbU sel l=some vs):evE g call c (.cal f .nil kws sel) env h=call.f c f vs h1:=by
 rw[Zik,ZcO,bind_ok,ha,bind_ok,hd,Zaw,ZaG,hp]
theorem e_c {d:D}:evE g call c (.cst d) env h=.ok d h:=by rw[ZdE]
theorem e_frz {e:E} {r:Nat} {l:List D} (he:evE g call c e env h=.ok (.ref r) h1) (hr:h1.cell r=.lst l):evE g call c (.frz e) env h=.ok (.lst l) (h1.put r .no):=by
 rw[Znl,he,bind_ok]
 unfold ZeS
 dsimp only
 rw[hr]
theorem Zod (l:List (List Nat)) (h:AH):ZeM (l.map D.str) h=.ok (.lst ((setT l).map D.str)) h:=by
 unfold ZeM
 rw[if_pos (Zf9 l),Zio,Zei]
 rfl
theorem sl_ (F:Fx g) {a b:List Nat} (ha:a.length≤100) (hb:b.length≤100):(cN g (n+2)).f true 1 [.str a,.str b] h=.ok (.bl (ZcR a b)) h:=Zoh F.f1 F.f0 F.df ha hb
theorem al_ (F:Fx g) {w S:List Nat} (hw:w.length≤11) (hS:S.length≤11):(cN g (n+1)).f true 9 [.str w,.lst (S.map fun c=>D.str [c])] h=.ok (.lst ((setT (slips w S)).map D.str)) h:=
 all_eq F.f9 (by omega) (by omega) (Zbr (ZgL (show w.length+1≤12 by omega) (show 2 * S.length+2≤24 by omega)) (by decide))
theorem ZjV (F:Fx g) {x:D} (hx:x=.lst (K.map D.str)∨x=.tup (K.map D.str)) (hK:Sh 100 K) (hl:K.length≤300) (ht:t.length≤100):
  (cN g (n+3)).f true 2 [x,.str t] h=.ok (.ref h.nx) (h.new (.lst ((Zdp K t).map D.str))):=by
 rw[Zbq,F.f2]
 show fin (evSs g (cN g (n+2)) true b2 [.v x,.v (.str t),.no] h)=_
 have it:evIt g (cN g (n+2)) true (.seq (.var 0)) [.v x,.v (.str t),.no] h=.ok (.fix (K.map D.str)) h:=by
  have v0:evE g (cN g (n+2)) true (.var 0) [.v x,.v (.str t),.no] h=.ok x h:=by rw[Zbp]; rfl
  rcases hx with rfl |rfl
  ·exact Zh5 v0
  ·exact it_tup v0
 have e1:evSE g (cN g (n+2)) true (.cmp true (.var 2) [2] (.seq (.var 0)) (.cons (.cal 1 (.cons (.var 2) (.cons (.var 1) .nil)) .nil [0,1]) .nil)) [.v x,.v (.str t),.no] h=.ok ((K.filter fun k=>ZcR k t).map D.str) h:=by
  conv=>lhs; unfold evSE
  rw[it,bind_ok]
  have l4:(Src.fix (K.map D.str)).len h≤400:=by show (K.map D.str).length≤400; rw[Zac]; omega
  rw[if_pos l4,mapI_n (show (Src.fix (K.map D.str)).len h+1=(K.map D.str).length+1 from rfl),ZdB (k:=D.str) (q:=fun k=>ZcR k t)]
  ·rfl
  ·intro k hk
   have bt:ZbB [2] (D.str k) [.v x,.v (.str t),.no]=some [.v x,.v (.str t),.v (.str k)]:=rfl
   rw[bt]
   dsimp only
   have v1:evE g (cN g (n+2)) true (.var 1) [.v x,.v (.str t),.v (.str k)] h=.ok (.str t) h:=by rw[Zbp]; rfl
   have v2:evE g (cN g (n+2)) true (.var 2) [.v x,.v (.str t),.v (.str k)] h=.ok (.str k) h:=by rw[Zbp]; rfl
   have ct:evIfs g (cN g (n+2)) true (.cons (.cal 1 (.cons (.var 2) (.cons (.var 1) .nil)) .nil [0,1]) .nil) [.v x,.v (.str t),.v (.str k)] h=.ok (ZcR k t) h:=by
    unfold evIfs
    rw[ZdF (Zb7 v2 (Zce v1)) (F.df _) rfl,sl_ F (hK k hk) ht]
    rfl
   rw[ct,bind_ok]
   cases ZcR k t with
   |true=>rw[if_pos rfl,if_pos rfl,v2,bind_ok]; rfl
   |false=>rw[if_neg (by decide),if_neg (by decide)]
 have e2:evE g (cN g (n+2)) true (.hst (.cmp true (.var 2) [2] (.seq (.var 0)) (.cons (.cal 1 (.cons (.var 2) (.cons (.var 1) .nil)) .nil [0,1]) .nil))) [.v x,.v (.str t),.no] h=.ok (.ref h.nx) (h.new (.lst ((Zdp K t).map D.str))):=by
  conv=>lhs; unfold evE
  rw[e1,bind_ok,Zod]
  rfl
 unfold b2
 rw[Zf8 (v:=.ref h.nx) (by rw[ZgY,e2,bindX_ok])]
 rfl
theorem ZhS (F:Fx g) {e:E} (hK:Sh 100 K) (hl:K.length≤300) (ht:t.length≤100) {x:D} (hx:x=.lst (K.map D.str)∨x=.tup (K.map D.str)) (he:evE g (cN g (n+3)) true e env h=(cN g (n+3)).f true 2 [x,.str t] h):∃h',evE g (cN g (n+3)) true (.frz e) env h=.ok (.lst ((Zdp K t).map D.str)) h'∧Up h h':=
 ⟨_,e_frz (he.trans (ZjV F hx hK hl ht)) (if_pos rfl),(Up.new _ _).put (Zai _) _⟩
theorem Zkk {x:D} (hx:x=.lst (K.map D.str)∨x=.tup (K.map D.str)):ZcB .In (.str t) x=some (decide (t∈K)):=by
 rcases hx with rfl |rfl
 ·exact ZfG
 ·rw[← ZfG]
  cases t with
  |nil=>rfl
  |cons a r=>cases r<;>rfl
theorem Zij {N:List (List Nat)} {e:E} (he:∀h,evE g call c e env h=.ok (.lst (N.map D.str)) h) (h:AH):evE g call c (.ife (.cmp .Eq (.bi .len e) (.cst (.int 1))) (.idx e (.cst (.int 0))) (.cst .non)) env h=.ok (ZjN N) h:=by
 have e1:evE g call c (.cmp .Eq (.bi .len e) (.cst (.int 1))) env h=.ok (.bl (decide (N.length=1))) h:=by
  rw[ZcP,Zd2,he,bind_ok]
  show (Res.bind (Res.ok (D.int (N.map D.str).length) h) _)=_
  rw[bind_ok,e_c,bind_ok,Zac]
  show Zbv ((if dpt 60 (.int N.length)&&dpt 60 (.int 1) then some (deq (.int N.length) (.int 1)) else none).map D.bl) h=_
  rw[show (dpt 60 (.int N.length)&&dpt 60 (.int 1))=true from rfl,if_pos rfl,Zhm]
  have:((N.length:Int) == 1)=decide (N.length=1):=by
   by_cases q:N.length=1
   ·rw[ZaJ q,q]; rfl
   ·rw[ZaO q]
    exact ZaU.mpr (by omega)
  rw[this]
  rfl
 rw[ZkB,e1,bind_ok]
 unfold ZjN
 by_cases q:N.length=1
 ·rw[if_pos q,ZaJ q]
  obtain⟨y,rfl⟩:=List.length_eq_one_iff.mp q
  show evE g call c (.idx e (.cst (.int 0))) env h=_
  rw[Ze9,he,bind_ok,e_c,bind_ok]
  rfl
 ·rw[if_neg q,ZaO q]
  exact e_c
theorem ZcU (F:Fx g) {x:D} (hx:x=.lst (K.map D.str)∨x=.tup (K.map D.str)) (hK:Sh 100 K) (hl:K.length≤300) (ht:t.length≤100):∃h',(cN g (n+4)).f true 3 [x,.str t] h=.ok (ZdZ K t) h'∧Up h h':=by
 have v0:∀x2 h,evE g (cN g (n+3)) true (.var 0) [.v x,.v (.str t),x2] h=.ok x h:=fun _ _=>by rw[Zbp]; rfl
 have v1:∀x2 h,evE g (cN g (n+3)) true (.var 1) [.v x,.v (.str t),x2] h=.ok (.str t) h:=fun _ _=>by rw[Zbp]; rfl
 have c1:evT g (cN g (n+3)) true (.cmp .In (.var 1) (.var 0)) [.v x,.v (.str t),.no] h=.ok (decide (t∈K)) h:=by
  rw[et_,ZcP,v1,bind_ok,v0,bind_ok,Zkk hx]
  rfl
 unfold ZdZ
 rw[Zbq,F.f3]
 by_cases q:t∈K
 ·rw[ZaJ q] at c1
  refine⟨h,?_,Up.refl h⟩
  rw[if_pos q]
  show fin (evSs g (cN g (n+3)) true b3 [.v x,.v (.str t),.no] h)=_
  unfold b3
  rw[ZcW,Zft,c1,bindX_ok,if_pos rfl,Zf8 (v:=.str t) (by rw[ZgY,v1,bindX_ok])]
  rfl
 ·rw[ZaO q] at c1
  obtain⟨h',e1,u⟩:=ZhS (n:=n) (h:=h) (env:=[.v x,.v (.str t),.no]) (e:=.cal 2 (.cons (.var 0) (.cons (.var 1) .nil)) .nil [0,1]) F hK hl ht hx (ZdF (Zb7 (v0 _ _) (Zce (v1 _ _))) (F.df _) rfl)
  refine⟨h',?_,u⟩
  rw[if_neg q]
  show fin (evSs g (cN g (n+3)) true b3 [.v x,.v (.str t),.no] h)=_
  unfold b3
  have s2:evS g (cN g (n+3)) true (.asg 2 (.frz (.cal 2 (.cons (.var 0) (.cons (.var 1) .nil)) .nil [0,1]))) [.v x,.v (.str t),.no] h=.ok (.nx [.v x,.v (.str t),.v (.lst ((Zdp K t).map D.str))]) h':=by
   rw[ZdN,e1,bindX_ok]
   rfl
  have v2:∀h,evE g (cN g (n+3)) true (.var 2) [.v x,.v (.str t),.v (.lst ((Zdp K t).map D.str))] h=.ok (.lst ((Zdp K t).map D.str)) h:=fun _=>by rw[Zbp]; rfl
  rw[ZcW,Zft,c1,bindX_ok,if_neg (by decide),ZcV,bind_ok]
  show fin (evSs g (cN g (n+3)) true _ _ h)=_
  rw[ZbG s2,Zf8 (v:=ZjN (Zdp K t)) (h':=h') (by rw[ZgY,Zij v2 h',bindX_ok])]
  rfl
end
/-! the law -/
def kv (l:List Int) (s:Nat) (x2 x3 x4 x5 x6 x7 x8 x9 x10 x11:Sl):Rk.Env:=[.v (.scr l),.v (.ref s),x2,x3,x4,x5,x6,x7,x8,x9,x10,x11]
section
variable {g:G} {h:AH} {l:List Int} {s:Nat} {x2 x3 x4 x5 x6 x7 x8 x9 x10 x11:Sl} {K:List (List Nat)} {t:List Nat} {d:D}
theorem v1:evE g (cN g 11) true (.var 1) (kv l s x2 x3 x4 x5 x6 x7 x8 x9 x10 x11) h=.ok (.ref s) h:=by rw[Zbp]; rfl
theorem v3:evE g (cN g 11) true (.var 3) (kv l s x2 (.v d) x4 x5 x6 x7 x8 x9 x10 x11) h=.ok d h:=by rw[Zbp]; rfl
theorem v4:evE g (cN g 11) true (.var 4) (kv l s x2 x3 (.v d) x5 x6 x7 x8 x9 x10 x11) h=.ok d h:=by rw[Zbp]; rfl
theorem v6:evE g (cN g 11) true (.var 6) (kv l s x2 x3 x4 x5 (.v d) x7 x8 x9 x10 x11) h=.ok d h:=by rw[Zbp]; rfl
theorem v7:evE g (cN g 11) true (.var 7) (kv l s x2 x3 x4 x5 x6 (.v d) x8 x9 x10 x11) h=.ok d h:=by rw[Zbp]; rfl
theorem v8:evE g (cN g 11) true (.var 8) (kv l s x2 x3 x4 x5 x6 x7 (.v d) x9 x10 x11) h=.ok d h:=by rw[Zbp]; rfl
theorem v9:evE g (cN g 11) true (.var 9) (kv l s x2 x3 x4 x5 x6 x7 x8 (.v d) x10 x11) h=.ok d h:=by rw[Zbp]; rfl
theorem v10:evE g (cN g 11) true (.var 10) (kv l s x2 x3 x4 x5 x6 x7 x8 x9 (.v d) x11) h=.ok d h:=by rw[Zbp]; rfl
theorem v11:evE g (cN g 11) true (.var 11) (kv l s x2 x3 x4 x5 x6 x7 x8 x9 x10 (.v d)) h=.ok d h:=by rw[Zbp]; rfl
theorem due_ev (F:Fx g) (hK:Sh 11 K) (hl:K.length≤10) (ht:t.length≤11):
  evE g (cN g 11) true (.srt (.of (.cmpr (.var 11) [11] (.seq (.var 4)) (.cons (.cmp .In (.var 11) (.cal 9 (.cons (.var 6) (.cons (.srt (.of (.bi .list (.var 11)))) .nil)) .nil [0,1])) .nil)))) (kv l s x2 x3 (.v (.lst (K.map D.str))) x5 (.v (.str t)) x7 x8 x9 x10 x11) h=.ok (.lst ((Zdp K t).map D.str)) h:=by
 refine Zjm ?_ (Zbr (Zf1 _ K) (by omega))
 rw[ZdI (Zh5 v4) (by rw[Zac]; exact ZaI hl (by decide)),ZdB (k:=D.str) (q:=fun k=>ZcR k t)]
 ·rfl
 ·intro k hk
  have bt:ZbB [11] (D.str k) (kv l s x2 x3 (.v (.lst (K.map D.str))) x5 (.v (.str t)) x7 x8 x9 x10 x11)=some (kv l s x2 x3 (.v (.lst (K.map D.str))) x5 (.v (.str t)) x7 x8 x9 x10 (.v (.str k))):=rfl
  rw[bt]
  dsimp only
  have lk:=hK k hk
  obtain⟨S,eS,hS,lS⟩:=Zpz k
  have e1:evE g (cN g 11) true (.bi .list (.var 11)) (kv l s x2 x3 (.v (.lst (K.map D.str))) x5 (.v (.str t)) x7 x8 x9 x10 (.v (.str k))) h=.ok (.lst ((k.map fun c=>[c]).map D.str)) h:=by
   rw[Zd2,v11,bind_ok]
   show (if k.length≤line then Res.ok (D.lst (k.map fun c=>.str [c])) h else .stuck)=_
   rw[if_pos (ZaI lk (by decide)),Zb3]
   rfl
  have e2:=Zjm e1 (by rw[Zac]; omega)
  rw[eS] at e2
  have ct:evIfs g (cN g 11) true (.cons (.cmp .In (.var 11) (.cal 9 (.cons (.var 6) (.cons (.srt (.of (.bi .list (.var 11)))) .nil)) .nil [0,1])) .nil) (kv l s x2 x3 (.v (.lst (K.map D.str))) x5 (.v (.str t)) x7 x8 x9 x10 (.v (.str k))) h=.ok (ZcR k t) h:=by
   unfold evIfs
   rw[ZcP,v11,bind_ok,ZdF (Zb7 v6 (Zce e2)) (F.df _) rfl,al_ (n:=10) F ht (by omega),bind_ok,ZfG]
   have:decide (k∈setT (slips t S))=ZcR k t:=by
    rw[Zju,← Zjs hS]
    exact decide_eq_decide.mpr (Zc7 _ _)
   rw[this]
   cases ZcR k t<;>rfl
  rw[ct,bind_ok]
  cases ZcR k t with
  |true=>rw[if_pos rfl,if_pos rfl,v11,bind_ok]
  |false=>rw[if_neg (by decide),if_neg (by decide)]
theorem ZkC (k:Nat):∀L:List (List Nat),dpts (k+1) (L.map D.str)=true
 |[]=>rfl
 |x::L=>by show (dpt (k+1) (D.str x)&&dpts (k+1) (L.map D.str))=true; rw[ZkC k L]; rfl
theorem smS {m:Nat} {L:List (List Nat)} (h1:Sh m L) {q:Nat} (h2:L.length * (m+1)+1≤q):Sm q (.lst (L.map D.str)):=Sm.lst (k:=m+1) (fun d hd=>by
 obtain⟨x,hx,rfl⟩:=Zah.mp hd
 exact Sm.str (by have:=h1 x hx; omega)) (by rw[Zac]; exact h2)
theorem ZjU (hK:Sh 11 K):Sh 11 (Zdp K t):=fun k hk=>hK k (Zbj.mp ((Zc7 _ _).mp hk)).1
theorem ZlO (hl:K.length≤10):(Zdp K t).length≤10:=ZaI (Zfq _) (ZaI (Zf1 _ _) hl)
theorem Zn4 (ht:t.length≤11) (hK:Sh 11 K):Sm 12 (ZdZ K t)∧dpt 58 (ZdZ K t)=true∧∀h,ZeF (ZdZ K t) h=ZdZ K t:=by
 have hn:=ZjU (t:=t) hK
 unfold ZdZ
 by_cases q:t∈K
 ·rw[if_pos q]
  exact⟨Sm.str (by omega),rfl,fun _=>rfl⟩
 ·rw[if_neg q]
  unfold ZjN
  by_cases q1:(Zdp K t).length=1
  ·rw[if_pos q1]
   obtain⟨y,ey⟩:=List.length_eq_one_iff.mp q1
   rw[ey] at hn⊢
   exact⟨Sm.str (by have:=hn y (Zar.mpr rfl); omega),rfl,fun _=>rfl⟩
  ·rw[if_neg q1]
   exact⟨Sm.of (by decide),rfl,fun _=>rfl⟩
theorem same4 (F:Fx g) {n0:Nat} {N S:D} {L:List D} (hN:N=.lst L) (hc:h.cell n0=.lst L) (hS:ZeF S h=S) (sm:Sm 60000 (.lst [N,N,S,S])) (dp:dpt 60 (.lst [N,N,S,S])=true):(cN g 11).f true 7 [.lst [.ref n0,N,S,S],.lst [N,N,S,S]] h=.ok (.bl true) h:=by
 subst hN
 obtain⟨w,hw,hl⟩:=sm
 have dx:Zmt (.lst [.ref n0,.lst L,S,S]) h=.lst [.lst L,.lst L,S,S]:=by
  show D.lst [ZeF (.ref n0) h,ZeF (.lst L) h,ZeF S h,ZeF S h]=_
  rw[hS,show ZeF (.ref n0) h=.lst L by unfold ZeF; dsimp only; rw[hc]]
  rfl
 have dy:Zmt (.lst [.lst L,.lst L,S,S]) h=.lst [.lst L,.lst L,S,S]:=by
  show D.lst [ZeF (.lst L) h,ZeF (.lst L) h,ZeF S h,ZeF S h]=_
  rw[hS]
  rfl
 have ds:Zbb (.lst [.ref n0,.lst L,S,S]) (.lst [.lst L,.lst L,S,S])=false:=by
  have q:Zbb (.ref n0) (.lst L)=false:=by unfold Zbb; rfl
  unfold Zbb dsames
  rw[q]
  rfl
 have e:Zdg (.lst [.ref n0,.lst L,S,S]) (.lst [.lst L,.lst L,S,S]) h=.ok (.bl true) h:=by
  unfold Zdg
  rw[if_neg (by rw[ds]; decide),dx,dy,if_pos (ZgN _ _ hw),hw]
  exact if_pos ⟨hl,dp⟩
 rw[Zbq,F.f7]
 show fin (evSs g (cN g 10) true ZgX [.v _,.v _] h)=_
 have e2:evE g (cN g 10) true (.same 0 1) [.v (.lst [.ref n0,.lst L,S,S]),.v (.lst [.lst L,.lst L,S,S])] h=.ok (.bl true) h:=by
  rw[Zpk]
  exact e
 unfold ZgX
 rw[Zf8 (v:=.bl true) (h':=h) (by rw[ZgY,e2,bindX_ok])]
 rfl
theorem rest (F:Fx g) (hK:Sh 11 K) (hl:K.length≤10) (ht:t.length≤11):∃h' y7 y8 y9 y10,evSs g (cN g 11) true ZmA (kv l s x2 x3 (.v (.lst (K.map D.str))) x5 (.v (.str t)) x7 x8 x9 x10 x11) h=.ok (.nx (kv l s x2 x3 (.v (.lst (K.map D.str))) x5 (.v (.str t)) y7 y8 y9 y10 x11)) h'∧Up h h':=by
 have hK1:Sh 100 K:=fun k hk=>ZaI (hK k hk) (by decide)
 have hl1:K.length≤300:=by omega
 have ht1:t.length≤100:=by omega
 obtain⟨S,hS⟩:∃S,S=ZdZ K t:=⟨_,rfl⟩
 obtain⟨N,hN⟩:∃N,N=Zdp K t:=⟨_,rfl⟩
 obtain⟨smS',dpS,dcS⟩:=Zn4 ht hK
 have hNs:=ZjU (t:=t) hK
 have hNl:=ZlO (t:=t) hl
 rw[← hN] at hNs hNl
 rw[← hS] at smS' dpS dcS
 unfold ZmA
 have s8:evS g (cN g 11) true (.asg 7 (.srt (.of (.cmpr (.var 11) [11] (.seq (.var 4)) (.cons (.cmp .In (.var 11) (.cal 9 (.cons (.var 6) (.cons (.srt (.of (.bi .list (.var 11)))) .nil)) .nil [0,1])) .nil))))) (kv l s x2 x3 (.v (.lst (K.map D.str))) x5 (.v (.str t)) x7 x8 x9 x10 x11) h=.ok (.nx (kv l s x2 x3 (.v (.lst (K.map D.str))) x5 (.v (.str t)) (.v (.lst (N.map D.str))) x8 x9 x10 x11)) h:=by
  rw[ZdN,due_ev F hK hl ht,bindX_ok,← hN]
  rfl
 rw[ZbG s8]
 unfold b10_7
 have s7:evS g (cN g 11) true (.asg 8 (.ife (.cmp .In (.var 6) (.var 4)) (.var 6) (.ife (.cmp .Eq (.bi .len (.var 7)) (.cst (.int 1))) (.idx (.var 7) (.cst (.int 0))) (.cst .non)))) (kv l s x2 x3 (.v (.lst (K.map D.str))) x5 (.v (.str t)) (.v (.lst (N.map D.str))) x8 x9 x10 x11) h=.ok (.nx (kv l s x2 x3 (.v (.lst (K.map D.str))) x5 (.v (.str t)) (.v (.lst (N.map D.str))) (.v S) x9 x10 x11)) h:=by
  have c1:evE g (cN g 11) true (.cmp .In (.var 6) (.var 4)) (kv l s x2 x3 (.v (.lst (K.map D.str))) x5 (.v (.str t)) (.v (.lst (N.map D.str))) x8 x9 x10 x11) h=.ok (.bl (decide (t∈K))) h:=by
   rw[ZcP,v6,bind_ok,v4,bind_ok,Zkk (.inl rfl)]
   rfl
  have c2:evE g (cN g 11) true (.ife (.cmp .In (.var 6) (.var 4)) (.var 6) (.ife (.cmp .Eq (.bi .len (.var 7)) (.cst (.int 1))) (.idx (.var 7) (.cst (.int 0))) (.cst .non))) (kv l s x2 x3 (.v (.lst (K.map D.str))) x5 (.v (.str t)) (.v (.lst (N.map D.str))) x8 x9 x10 x11) h=.ok S h:=by
   rw[ZkB,c1,bind_ok,hS]
   unfold ZdZ
   by_cases q:t∈K
   ·rw[if_pos q,ZaJ q]
    exact v6
   ·rw[if_neg q,ZaO q,← hN]
    exact Zij (fun _=>v7) h
  rw[ZdN,c2,bindX_ok]
  rfl
 rw[ZbG s7]
 unfold b10_6
 have s6:evS g (cN g 11) true (.asg 9 (.bi .list (.var 4))) (kv l s x2 x3 (.v (.lst (K.map D.str))) x5 (.v (.str t)) (.v (.lst (N.map D.str))) (.v S) x9 x10 x11) h=.ok (.nx (kv l s x2 x3 (.v (.lst (K.map D.str))) x5 (.v (.str t)) (.v (.lst (N.map D.str))) (.v S) (.v (.lst (K.map D.str))) x10 x11)) h:=by
  rw[ZdN,Zd2,v4,bind_ok]
  rfl
 rw[ZbG s6]
 unfold b10_5
 -- what is told
 obtain⟨env,henv⟩:∃e,e=kv l s x2 x3 (.v (.lst (K.map D.str))) x5 (.v (.str t)) (.v (.lst (N.map D.str))) (.v S) (.v (.lst (K.map D.str))) x10 x11:=⟨_,rfl⟩
 have w4:∀h,evE g (cN g 11) true (.var 4) env h=.ok (.lst (K.map D.str)) h:=fun _=>by rw[henv]; exact v4
 have w6:∀h,evE g (cN g 11) true (.var 6) env h=.ok (.str t) h:=fun _=>by rw[henv]; exact v6
 have w9:∀h,evE g (cN g 11) true (.var 9) env h=.ok (.lst (K.map D.str)) h:=fun _=>by rw[henv]; exact v9
 have t1:evE g (cN g 11) true (.cal 2 (.cons (.var 9) (.cons (.var 6) .nil)) .nil [0,1]) env h=.ok (.ref h.nx) (h.new (.lst (N.map D.str))):=by
  rw[ZdF (Zb7 (w9 _) (Zce (w6 _))) (F.df _) rfl,hN]
  exact ZjV (n:=8) F (.inl rfl) hK1 hl1 ht1
 obtain⟨h1,hh1⟩:∃h1,h1=h.new (.lst (N.map D.str)):=⟨_,rfl⟩
 have wt:∀h,evE g (cN g 11) true (.bi .tuple (.var 4)) env h=.ok (.tup (K.map D.str)) h:=fun _=>by rw[Zd2,w4,bind_ok]; rfl
 obtain⟨h2,e2,u2⟩:=ZhS (n:=8) (h:=h1) (env:=env) (e:=.cal 2 .nil (.cons (.var 6) (.cons (.bi .tuple (.var 4)) .nil)) [1,0]) F hK1 hl1 ht1 (x:=.tup (K.map D.str)) (.inr rfl) (Znp (Zb7 (w6 _) (Zce (wt _))) (F.df _) rfl)
 obtain⟨h3,e3,u3⟩:=ZcU (n:=7) (h:=h2) F (x:=.lst (K.map D.str)) (.inl rfl) hK1 hl1 ht1
 obtain⟨h4,e4,u4⟩:=ZcU (n:=7) (h:=h3) F (x:=.lst (K.map D.str)) (.inl rfl) hK1 hl1 ht1
 rw[← hN] at e2
 rw[← hS] at e3 e4
 have t3:evE g (cN g 11) true (.cal 3 (.cons (.var 9) (.cons (.var 6) .nil)) .nil [0,1]) env h2=.ok S h3:=by
  rw[ZdF (Zb7 (w9 _) (Zce (w6 _))) (F.df _) rfl]
  exact e3
 have t4:evE g (cN g 11) true (.cal 3 .nil (.cons (.var 6) (.cons (.var 4) .nil)) [1,0]) env h3=.ok S h4:=by
  rw[Znp (Zb7 (w6 _) (Zce (w4 _))) (F.df _) rfl]
  exact e4
 have s5:evS g (cN g 11) true (.asg 10 (.lst (.cons (.cal 2 (.cons (.var 9) (.cons (.var 6) .nil)) .nil [0,1]) (.cons (.frz (.cal 2 .nil (.cons (.var 6) (.cons (.bi .tuple (.var 4)) .nil)) [1,0])) (.cons (.cal 3 (.cons (.var 9) (.cons (.var 6) .nil)) .nil [0,1]) (.cons (.cal 3 .nil (.cons (.var 6) (.cons (.var 4) .nil)) [1,0]) .nil)))))) env h=.ok (.nx (kv l s x2 x3 (.v (.lst (K.map D.str))) x5 (.v (.str t)) (.v (.lst (N.map D.str))) (.v S) (.v (.lst (K.map D.str))) (.v (.lst [.ref h.nx,.lst (N.map D.str),S,S])) x11)) h4:=by
  rw[hh1] at e2
  rw[ZdN,ZdV (Zb7 t1 (Zb7 e2 (Zb7 t3 (Zce t4)))) (show 4≤line by decide),bindX_ok,henv]
  rfl
 rw[← henv,ZbG s5]
 unfold b10_4
 have n1:h1.nx=h.nx+1:=by rw[hh1]; rfl
 have n2:=u2.1
 have n3:=u3.1
 have n4:=u4.1
 have c1:h1.cell h.nx=.lst (N.map D.str):=by rw[hh1]; exact if_pos rfl
 have c4:h4.cell h.nx=.lst (N.map D.str):=(u4.2 _ (by omega)).trans ((u3.2 _ (by omega)).trans ((u2.2 _ (by omega)).trans c1))
 have smN:Sm 121 (.lst (N.map D.str)):=smS hNs (by omega)
 have sm:Sm 60000 (.lst [.lst (N.map D.str),.lst (N.map D.str),S,S]):=Sm.lst (k:=121) (fun d hd=>by
  simp only[Zak,ZbO,or_false] at hd
  rcases hd with rfl |rfl |rfl |rfl
  ·exact smN
  ·exact smN
  ·exact smS'.up (by decide)
  ·exact smS'.up (by decide)) (by show 4 * 121+1≤60000; decide)
 have dN:dpt 59 (.lst (N.map D.str))=true:=by show dpts 58 (N.map D.str)=true; exact ZkC 57 N
 have dS:dpt 59 S=true:=ZkD dpS (by decide)
 have dp:dpt 60 (.lst [.lst (N.map D.str),.lst (N.map D.str),S,S])=true:=by
  show (dpt 59 _&&(dpt 59 _&&(dpt 59 S&&(dpt 59 S&&true))))=true
  rw[dN,dS]
  rfl
 have q1:evE g (cN g 11) true (.cal 7 (.cons (.var 10) (.cons (.lst (.cons (.var 7) (.cons (.var 7) (.cons (.var 8) (.cons (.var 8) .nil))))) .nil)) .nil [0,1]) (kv l s x2 x3 (.v (.lst (K.map D.str))) x5 (.v (.str t)) (.v (.lst (N.map D.str))) (.v S) (.v (.lst (K.map D.str))) (.v (.lst [.ref h.nx,.lst (N.map D.str),S,S])) x11) h4=.ok (.bl true) h4:=by
  rw[ZdF (Zb7 v10 (Zce (ZdV (Zb7 v7 (Zb7 v7 (Zb7 v8 (Zce v8)))) (show 4≤line by decide)))) (F.df _) rfl]
  exact same4 F rfl c4 (dcS h4) sm dp
 have q2:evE g (cN g 11) true (.cmp .NotEq (.var 9) (.var 4)) (kv l s x2 x3 (.v (.lst (K.map D.str))) x5 (.v (.str t)) (.v (.lst (N.map D.str))) (.v S) (.v (.lst (K.map D.str))) (.v (.lst [.ref h.nx,.lst (N.map D.str),S,S])) x11) h4=.ok (.bl false) h4:=by
  rw[ZcP,v9,bind_ok,v4,bind_ok]
  have e:ZcB .NotEq (.lst (K.map D.str)) (.lst (K.map D.str))=some false:=by
   show (if dpt 60 (.lst (K.map D.str))&&dpt 60 (.lst (K.map D.str)) then some (!deq (.lst (K.map D.str)) (.lst (K.map D.str))) else none)=_
   rw[show dpt 60 (.lst (K.map D.str))=true from (by show dpts 59 (K.map D.str)=true; exact ZkC 58 K),if_pos (show (true&&true)=true from rfl),(smS hK (q:=200) (by omega)).deq]
   rfl
  rw[e]
  rfl
 have q3:evT g (cN g 11) true (.or (.cons (.not (.cal 7 (.cons (.var 10) (.cons (.lst (.cons (.var 7) (.cons (.var 7) (.cons (.var 8) (.cons (.var 8) .nil))))) .nil)) .nil [0,1])) (.cons (.cmp .NotEq (.var 9) (.var 4)) .nil))) (kv l s x2 x3 (.v (.lst (K.map D.str))) x5 (.v (.str t)) (.v (.lst (N.map D.str))) (.v S) (.v (.lst (K.map D.str))) (.v (.lst [.ref h.nx,.lst (N.map D.str),S,S])) x11) h4=.ok false h4:=by
  rw[et_,ee_or,Zni,ZkA,q1,bind_ok]
  show (Res.bind (evOr g (cN g 11) true _ _ h4) _)=_
  rw[Znj,q2]
  rfl
 rw[ZcW,Zft,q3,bindX_ok,if_neg (by decide),ZcV,bind_ok]
 dsimp only
 unfold b10_3
 have nl:(N.map D.str).length < line:=by rw[Zac]; exact Zbr hNl (by decide)
 have s3:evS g (cN g 11) true (.expr (.mm .append (.idx (.var 10) (.cst (.int 0))) (.cons (.cst (.str [113])) .nil))) (kv l s x2 x3 (.v (.lst (K.map D.str))) x5 (.v (.str t)) (.v (.lst (N.map D.str))) (.v S) (.v (.lst (K.map D.str))) (.v (.lst [.ref h.nx,.lst (N.map D.str),S,S])) x11) h4=.ok (.nx (kv l s x2 x3 (.v (.lst (K.map D.str))) x5 (.v (.str t)) (.v (.lst (N.map D.str))) (.v S) (.v (.lst (K.map D.str))) (.v (.lst [.ref h.nx,.lst (N.map D.str),S,S])) x11)) (h4.put h.nx (.lst (N.map D.str++[.str [113]]))):=by
  have e1:evE g (cN g 11) true (.idx (.var 10) (.cst (.int 0))) (kv l s x2 x3 (.v (.lst (K.map D.str))) x5 (.v (.str t)) (.v (.lst (N.map D.str))) (.v S) (.v (.lst (K.map D.str))) (.v (.lst [.ref h.nx,.lst (N.map D.str),S,S])) x11) h4=.ok (.ref h.nx) h4:=by
   rw[Ze9,v10,bind_ok,e_c,bind_ok]
   rfl
  rw[Zjz,ee_mm,e1,bind_ok,if_pos (show Zlb .append (.ref h.nx) h4=true by unfold Zlb; dsimp only; rw[c4]),Zce e_c,bind_ok]
  unfold ZjZ
  dsimp only
  rw[c4]
  dsimp only
  rw[if_pos nl]
  rfl
 rw[ZbG s3]
 unfold b10_2
 obtain⟨h5,hh5⟩:∃h5,h5=h4.put h.nx (.lst (N.map D.str++[.str [113]])):=⟨_,rfl⟩
 rw[← hh5]
 have u5:Up h h5:=by
  rw[hh5]
  have a1:Up h h1:=by rw[hh1]; exact Up.new h _
  exact (((a1.trans u2).trans u3).trans u4).put (Zai _) _
 obtain⟨h6,e6,u6⟩:=ZhS (n:=8) (h:=h5) (env:=kv l s x2 x3 (.v (.lst (K.map D.str))) x5 (.v (.str t)) (.v (.lst (N.map D.str))) (.v S) (.v (.lst (K.map D.str))) (.v (.lst [.ref h.nx,.lst (N.map D.str),S,S])) x11) (e:=.cal 2 (.cons (.var 4) (.cons (.var 6) .nil)) .nil [0,1]) F hK1 hl1 ht1 (x:=.lst (K.map D.str)) (.inl rfl) (ZdF (Zb7 v4 (Zce v6)) (F.df _) rfl)
 rw[← hN] at e6
 have q6:evT g (cN g 11) true (.not (.cal 7 (.cons (.frz (.cal 2 (.cons (.var 4) (.cons (.var 6) .nil)) .nil [0,1])) (.cons (.var 7) .nil)) .nil [0,1])) (kv l s x2 x3 (.v (.lst (K.map D.str))) x5 (.v (.str t)) (.v (.lst (N.map D.str))) (.v S) (.v (.lst (K.map D.str))) (.v (.lst [.ref h.nx,.lst (N.map D.str),S,S])) x11) h5=.ok false h6:=by
  rw[et_,ZkA,ZdF (Zb7 e6 (Zce v7)) (F.df _) rfl,Zjy (n:=10) F.f7 rfl (smN.up (by decide)) (ZkD dN (by decide)),bind_ok]
  rfl
 refine⟨h6,.v (.lst (N.map D.str)),.v S,.v (.lst (K.map D.str)),.v (.lst [.ref h.nx,.lst (N.map D.str),S,S]),?_,u5.trans u6⟩
 rw[ZcW,Zft,q6,bindX_ok,if_neg (by decide),ZcV,bind_ok]
 dsimp only
 rw[ZcV]
theorem Zpo {r:Nat} {h h':AH} (d:ZeL r h) (e:h'.cell r=h.cell r):ZeL r h':=by
 unfold ZeL at *
 rw[e]
 exact d
/-! steps of the calculus -/
theorem ZcL {g:G} {call:Cl} {c:Bool} {env:Rk.Env} {h:AH} {s:S} {r:Ss} {P:Fl→AH→Prop} {X:D→AH→Prop} (hs:Wp (evS g call c s env h) (fun f h'=>match f with
  | .nx e=>Wp (evSs g call c r e h') P X
  |f=>P f h') X):Wp (evSs g call c (.cons s r) env h) P X:=by
 rw[ZcW,Wp_bind]
 refine hs.mono (fun f h' q=>?_) fun _ _ q=>q
 cases f<;>first
  |exact q
  |(rw[Wp_ok]; exact q)
theorem Zhd {env:Rk.Env} {α:Type} {r:Res α} {f:α→AH→Res Fl} {P:Fl→AH→Prop} {X:D→AH→Prop} (hr:Wp r (fun a h'=>Wp (f a h') P X) (fun x h'=>P (.xc x env) h')):Wp (r.bindX env f) P X:=by
 cases r with
 |ok a h=>exact hr
 |exc x h=>exact hr
 |stuck=>exact hr
section
variable {g:G} {call:Cl} {c:Bool} {env:Rk.Env} {h h1:AH} {P:Fl→AH→Prop} {Y:D→AH→Prop} {Q:D→AH→Prop} {Z:List D→AH→Prop}
theorem Zkb {i:Nat} {e:E} (he:Wp (evE g call c e env h) (fun x h'=>P (.nx (env.set i (.v x))) h') (fun x h'=>P (.xc x env) h')):Wp (evS g call c (.asg i e) env h) P Y:=by
 rw[ZdN]
 exact Zhd (he.mono (fun x h' q=>by rw[Wp_ok]; exact q) fun _ _ q=>q)
theorem k_expr {e:E} (he:Wp (evE g call c e env h) (fun x h'=>P (.nx env) h') (fun x h'=>P (.xc x env) h')):Wp (evS g call c (.expr e) env h) P Y:=by
 rw[Zjz]
 exact Zhd (he.mono (fun x h' q=>by rw[Wp_ok]; exact q) fun _ _ q=>q)
theorem ZeP {α:Type} {r:Res α} {a:α} {h':AH} {P:α→AH→Prop} (e:r=.ok a h') (hp:P a h'):Wp r P Y:=by
 rw[e,Wp_ok]
 exact hp
theorem Zhc {e:E} {r:Es} (he:Wp (evE g call c e env h) (fun x h1=>Wp (evEs g call c r env h1) (fun l h2=>Z (x::l) h2) Y) Y):Wp (evEs g call c (.cons e r) env h) Z Y:=by
 rw[ZdU,Wp_bind]
 refine he.mono (fun x h1 q=>?_) fun _ _ q=>q
 rw[Wp_bind]
 exact q.mono (fun l h2 q=>by rw[Wp_ok]; exact q) fun _ _ q=>q
theorem ZfE (hp:Z [] h):Wp (evEs g call c .nil env h) Z Y:=by
 rw[ZcO,Wp_ok]
 exact hp
theorem Zgt {f:Nat} {args:Es} {sel:List Nat} (hd:g.dfl f=[]) (hw:Wp (evEs g call c args env h) (fun l h1=>∃vs,ZbU sel l=some vs∧Wp (call.f c f vs h1) Q Y) Y):Wp (evE g call c (.cal f args .nil sel) env h) Q Y:=by
 rw[Zik,Wp_bind]
 refine hw.mono (fun l h1 q=>?_) fun _ _ q=>q
 obtain⟨vs,hp,q⟩:=q
 rw[ZcO,bind_ok,hd,Zaw,Zaw,hp]
 exact q
theorem k_bin {o:Operator} {a b:E} (ha:Wp (evE g call c a env h) (fun x h1=>Wp (evE g call c b env h1) (fun y h2=>Wp (Zcn o x y h2) Q Y) Y) Y):Wp (evE g call c (.bin o a b) env h) Q Y:=by
 rw[ZcA,Wp_bind]
 refine ha.mono (fun x h1 q=>?_) fun _ _ q=>q
 rw[Wp_bind]
 exact q
theorem k_slc {a e:E} (ha:Wp (evE g call c a env h) (fun x h1=>Wp (evE g call c e env h1) (fun y h2=>∃i,y=.int i∧Wp (Zfo x (some i) none h2) Q Y) Y) Y):Wp (evE g call c (.slc a (.so e) .no) env h) Q Y:=by
 rw[Ze8,Wp_bind]
 refine ha.mono (fun x h1 q=>?_) fun _ _ q=>q
 rw[Wp_bind]
 unfold evOp
 rw[Wp_bind]
 refine q.mono (fun y h2 q=>?_) fun _ _ q=>q
 obtain⟨i,rfl,q⟩:=q
 show Wp (Res.ok (some i) h2) _ _
 rw[Wp_ok]
 show Wp (Res.bind (Res.ok none h2) _) _ _
 rw[bind_ok]
 exact q
theorem Zna {tg:List Nat} {a:E} {b:Ss} (ha:Wp (evE g call c a env h) (fun x h1=>∃N:Int,x=.int N∧(-(2 ^ 62)≤N∧N < 2 ^ 62)∧Wp (ZiT (fun x env h=>match ZbB tg x env with
   |some e=>evSs g call c b e h
   |none=>.stuck) (Zcm 0 N) env h1) P Y) (fun x h'=>P (.xc x env) h')):Wp (evS g call c (.for tg (.rng a) b) env h) P Y:=by
 unfold evS
 refine Zhd ?_
 unfold evIt
 rw[Wp_bind]
 refine ha.mono (fun x h1 q=>?_) fun _ _ q=>q
 obtain⟨N,rfl,hN,q⟩:=q
 dsimp only
 rw[if_pos hN,Wp_ok]
 rw[show (Src.fix (Zcm 0 N)).len h1+1=(Zcm 0 N).length+1 from rfl,ZfM]
 exact q
end
theorem Zjt {w S:List Nat} (hw:w.length≤11) (hS:S.length≤2):(setT (slips w S)).length≤72:=by
 have q1:=Zfq (slips w S)
 have q2:=Zek w S
 have q3:(w.length+1) * (2 * S.length+2)≤12 * 6:=ZgL (by omega) (by omega)
 omega
theorem ZpL (a b:List D) (hl:a.length+b.length≤1000):Zcn .Add (.lst a) (.lst b) h=.ok (.lst (a++b)) h:=by
 show (if a.length+b.length≤line then Res.ok (D.lst (a++b)) h else .stuck)=_
 rw[if_pos (ZaI hl (by decide))]
structure KI (s kk:Nat) (h:AH) (m:Nat) (K:List (List Nat)):Prop where
 dl:ZeL s h
 sl:s < h.nx
 kl:kk < h.nx
 ne:kk≠s
 ce:h.cell kk=.lst (K.map D.str)
 n0:K≠[]
 ln:K.length≤m+1
 sh:Sh (6+m) K
theorem more (F:Fx g) {w:List Nat} {kk m:Nat} (hw:w.length≤6) (hm:m≤4) (I:KI s kk h m K):
  Wp (evSs g (cN g 11) true (.cons (.expr (.mm .append (.var 4) (.cons (.cal 6 (.cons (.var 1) (.cons (.bin .Add (.cal 9 (.cons (.cal 6 (.cons (.var 1) (.cons (.var 4) .nil)) .nil [0,1]) (.cons (.lst (.cons (.cst (.str [97])) (.cons (.cst (.str [57])) .nil))) .nil)) .nil [0,1]) (.lst (.cons (.var 3) .nil))) .nil)) .nil [0,1]) .nil))) .nil) (kv l s x2 (.v (.str w)) (.v (.ref kk)) x5 x6 x7 x8 x9 x10 x11) h)
   (fun f h'=>∃K',f=.nx (kv l s x2 (.v (.str w)) (.v (.ref kk)) x5 x6 x7 x8 x9 x10 x11)∧KI s kk h' (m+1) K') (fun _ _=>False):=by
 refine ZcL (k_expr ?_)
 have mo:Zlb .append (.ref kk) h=true:=by unfold Zlb; dsimp only; rw[I.ce]
 rw[ee_mm,v4,bind_ok,if_pos mo,Wp_bind]
 refine Zhc (Zgt (F.df _) (Zhc (ZeP v1 (Zhc (k_bin (Zgt (F.df _) (Zhc (Zgt (F.df _) (Zhc (ZeP v1 (Zhc (ZeP v4 (ZfE ⟨_,rfl,?_⟩)))))))))))))
 refine ZnR (n:=9) F.f5 F.f6 (F.df _) I.dl I.ne I.ce (fun z=>I.n0 (List.map_eq_nil_iff.mp z)) (by rw[Zac]; have:=I.ln; omega) fun y h1 hy dl1 bt1=>?_
 obtain⟨k,hk,rfl⟩:=Zah.mp hy
 have lk:=I.sh k hk
 refine Zhc (ZeP (ZdV (Zb7 e_c (Zce e_c)) (show 2≤line by decide)) (ZfE ⟨_,rfl,?_⟩))
 refine ZeP (al_ (n:=10) (w:=k) (S:=[97,57]) F (by omega) (by decide)) ?_
 refine ZeP (ZdV (Zce v3) (show 1≤line by decide)) ?_
 have lb:=Zjt (w:=k) (S:=[97,57]) (by omega) (by decide)
 refine ZeP (ZpL _ _ (by rw[Zac]; show _+1≤1000; omega)) ?_
 refine ZfE ⟨_,rfl,?_⟩
 refine Zjb (n:=9) F.f5 F.f6 (F.df _) dl1 (by simp) (by rw[Zal,Zac]; show _+1 < _; omega) fun z h2 hz dl2 bt2=>?_
 have hz':∃t,z=.str t∧t.length≤6+(m+1):=by
  rcases ZaH.mp hz with q |q
  ·obtain⟨t,ht,rfl⟩:=Zah.mp q
   have:=Zge ((Zc7 _ _).mp ht)
   exact⟨t,rfl,by omega⟩
  ·rw[Zar.mp q]
   exact⟨w,rfl,by omega⟩
 obtain⟨t,rfl,lt⟩:=hz'
 refine ZfE ?_
 have ce2:h2.cell kk=.lst (K.map D.str):=(bt2.2 kk I.ne).trans ((bt1.2 kk I.ne).trans I.ce)
 have n2:h2.nx=h.nx:=bt2.1.trans bt1.1
 have ll:(K.map D.str).length < line:=by rw[Zac]; exact Zbr (show K.length≤6 by have:=I.ln; omega) (by decide)
 have ap:ZjZ .append (.ref kk) [.str t] h2=.ok .non (h2.put kk (.lst (K.map D.str++[.str t]))):=by
  unfold ZjZ
  dsimp only
  rw[ce2]
  dsimp only
  rw[if_pos ll]
 refine ZeP ap ?_
 show Wp (evSs g (cN g 11) true .nil _ _) _ _
 rw[ZcV,Wp_ok]
 refine⟨K++[t],rfl,?_,?_,?_,I.ne,?_,by simp,?_,?_⟩
 ·exact Zpo dl2 (if_neg (fun z=>I.ne z.symm))
 ·show s < h2.nx; rw[n2]; exact I.sl
 ·show kk < h2.nx; rw[n2]; exact I.kl
 ·show (if kk=kk then _ else _)=_
  rw[if_pos rfl,Zbs]
  rfl
 ·rw[Zal]; show K.length+1≤_; have:=I.ln; omega
 ·intro q hq
  rcases ZaH.mp hq with hq |hq
  ·have:=I.sh q hq; omega
  ·rw[Zar.mp hq]; exact lt
theorem turn (F:Fx g) (dl:ZeL s h) (sl:s < h.nx):
  Wp (evSs g (cN g 11) true Zis (kv l s x2 x3 x4 x5 x6 x7 x8 x9 x10 x11) h) (fun f h'=>(∃y3 y4 y5 y6 y7 y8 y9 y10,f=.nx (kv l s x2 y3 y4 y5 y6 y7 y8 y9 y10 x11))∧ZeL s h'∧s < h'.nx) (fun _ _=>False):=by
 unfold Zis
 refine ZcL (Zkb (Zgt (F.df _) (Zhc (ZeP v1 (ZfE ⟨_,rfl,wp_ord (n:=8) F.f8 F.f5 F.f6 F.df (by decide) (by decide) dl fun w h1 hw _ dl1 bt1=>?_⟩)))))
 show Wp (evSs g (cN g 11) true ZkZ (kv l s x2 (.v (.str w)) x4 x5 x6 x7 x8 x9 x10 x11) h1) _ _
 unfold ZkZ
 have e4:evE g (cN g 11) true (.hls (.cons (.var 3) .nil)) (kv l s x2 (.v (.str w)) x4 x5 x6 x7 x8 x9 x10 x11) h1=.ok (.ref h1.nx) (h1.new (.lst [.str w])):=by
  rw[ee_hls,Zce v3,bind_ok,if_pos (show [D.str w].length≤line by show 1≤line; decide)]
 refine ZcL (Zkb (ZeP e4 ?_))
 have sl1:s < h1.nx:=by rw[bt1.1]; exact sl
 obtain⟨kk,hkk⟩:∃kk,kk=h1.nx:=⟨_,rfl⟩
 obtain⟨h2,hh2⟩:∃h2,h2=h1.new (.lst [.str w]):=⟨_,rfl⟩
 have I0:KI s kk h2 0 [w]:=by
  rw[hh2,hkk]
  exact⟨Zpo dl1 (if_neg (by omega)),Zcl sl1,Zbc _,by omega,if_pos rfl,by simp,Zai _,fun k hk=>by rw[Zar.mp hk]; omega⟩
 rw[← hh2,← hkk]
 show Wp (evSs g (cN g 11) true Zk0 (kv l s x2 (.v (.str w)) (.v (.ref kk)) x5 x6 x7 x8 x9 x10 x11) h2) _ _
 unfold Zk0
 refine ZcL (Zna (Zgt (F.df _) (Zhc (ZeP v1 (Zhc (ZeP e_c (ZfE ⟨_,rfl,ZdL (n:=10) F.f5 I0.dl (by decide) (by decide) fun N h3 N0 N1 dl3 bt3=>?_⟩)))))))
 refine⟨N,rfl,⟨by omega,by omega⟩,?_⟩
 have I3:KI s kk h3 0 [w]:=⟨dl3,by rw[bt3.1]; exact I0.sl,by rw[bt3.1]; exact I0.kl,I0.ne,(bt3.2 kk I0.ne).trans I0.ce,I0.n0,I0.ln,I0.sh⟩
 have lN:(Zcm 0 N).length≤5:=by
  unfold Zcm
  rw[Zac,Zby]
  omega
 refine Zed (k:=0) (fun i env h'=>∃K y5,env=kv l s x2 (.v (.str w)) (.v (.ref kk)) y5 x6 x7 x8 x9 x10 x11∧KI s kk h' i K) ⟨_,_,rfl,I3⟩ (fun i x env h4 hx z=>?_) fun env h4 z=>?_
 ·obtain⟨K,y5,rfl,I4⟩:=z
  have hi:i < (Zcm 0 N).length:=by
   rcases Nat.lt_or_ge i (Zcm 0 N).length with q |q
   ·exact q
   ·rw[ZbR q] at hx; cases hx
  rw[Zbt] at I4⊢
  show Wp (evSs g (cN g 11) true _ (kv l s x2 (.v (.str w)) (.v (.ref kk)) (.v x) x6 x7 x8 x9 x10 x11) h4) _ _
  refine (more F hw (by omega) I4).mono (fun f h' q=>?_) fun _ _ q=>q
  obtain⟨K',rfl,q⟩:=q
  exact⟨K',_,rfl,q⟩
 ·obtain⟨K,y5,rfl,I4⟩:=z
  rw[Zbt] at I4
  have lK:K.length≤6:=by have:=I4.ln; omega
  have hK:Sh 11 K:=fun k hk=>by have:=I4.sh k hk; omega
  have k1:1≤K.length:=Zdu.mpr I4.n0
  dsimp only
  unfold ZnH
  refine ZcL (Zkb (k_slc (ZeP v4 (Zgt (F.df _) (Zhc (ZeP v1 (Zhc (ZeP e_c (ZfE ⟨_,rfl,ZdL (n:=10) F.f5 I4.dl (by decide) (by decide) fun p h5 p0 p1 dl5 bt5=>?_⟩)))))))))
  refine⟨p,rfl,?_⟩
  have ce5:h5.cell kk=.lst (K.map D.str):=(bt5.2 kk I4.ne).trans I4.ce
  have sc:Zfo (.ref kk) (some p) none h5=.ok (.lst ((K.drop p.toNat).map D.str)) h5:=by
   show (match h5.cell kk with
    | .lst l=>Res.ok (D.lst (cut l (some p) none)) h5
    |_=>.stuck)=_
   rw[ce5]
   dsimp only
   rw[show p=((p.toNat:Nat):Int) by omega,ZdH (by rw[Zac]; omega),Zi1,ZcM]
  refine ZeP sc ?_
  have hK':Sh 11 (K.drop p.toNat):=fun k hk=>hK k (List.mem_of_mem_drop hk)
  have lK':(K.drop p.toNat).length≤6:=by rw[ZbP]; omega
  generalize K.drop p.toNat=K2 at hK' lK'
  show Wp (evSs g (cN g 11) true ZpI (kv l s x2 (.v (.str w)) (.v (.lst (K2.map D.str))) y5 x6 x7 x8 x9 x10 x11) h5) _ _
  unfold ZpI
  have lb:=Zjt (w:=w) (S:=[98]) (by omega) (by decide)
  have ad1:evE g (cN g 11) true (.bin .Add (.bin .Add (.lst (.cons (.var 3) .nil)) (.var 4)) (.cal 9 (.cons (.var 3) (.cons (.lst (.cons (.cst (.str [98])) .nil)) .nil)) .nil [0,1])) (kv l s x2 (.v (.str w)) (.v (.lst (K2.map D.str))) y5 x6 x7 x8 x9 x10 x11) h5=.ok (.lst ([.str w]++K2.map D.str++(setT (slips w [98])).map D.str)) h5:=by
   rw[ZcA,ZcA,ZdV (Zce v3) (show 1≤line by decide),bind_ok,v4,bind_ok,ZpL _ _ (by rw[Zac]; show 1+_≤1000; omega),bind_ok,ZdF (Zb7 v3 (Zce (ZdV (Zce e_c) (show 1≤line by decide)))) (F.df _) rfl]
   show (Res.bind ((cN g (10+1)).f true 9 [.str w,.lst ([98].map fun c=>D.str [c])] h5) _)=_
   rw[al_ (n:=10) (w:=w) (S:=[98]) F (by omega) (by decide),bind_ok,ZpL _ _ (by rw[Zal,Zac,Zac]; show 1+_+_≤1000; omega)]
  refine ZcL (Zkb (Zgt (F.df _) (Zhc (ZeP v1 (Zhc (ZeP ad1 (ZfE ⟨_,rfl,Zjb (n:=9) F.f5 F.f6 (F.df _) dl5 (by simp) (by rw[Zal,Zal,Zac,Zac]; show 1+_+_ < _; omega) fun z h6 hz dl6 bt6=>?_⟩)))))))
  have hz':∃t,z=.str t∧t.length≤11:=by
   rcases ZaH.mp hz with q |q
   ·rcases ZaH.mp q with q |q
    ·rw[Zar.mp q]; exact⟨w,rfl,by omega⟩
    ·obtain⟨t,ht,rfl⟩:=Zah.mp q
     exact⟨t,rfl,hK' t ht⟩
   ·obtain⟨t,ht,rfl⟩:=Zah.mp q
    have:=Zge ((Zc7 _ _).mp ht)
    exact⟨t,rfl,by omega⟩
  obtain⟨t,rfl,lt⟩:=hz'
  show Wp (evSs g (cN g 11) true ZmA (kv l s x2 (.v (.str w)) (.v (.lst (K2.map D.str))) y5 (.v (.str t)) x7 x8 x9 x10 x11) h6) _ _
  obtain⟨h7,y7,y8,y9,y10,e7,u7⟩:=rest (l:=l) (s:=s) (x2:=x2) (x3:=.v (.str w)) (x5:=y5) (x7:=x7) (x8:=x8) (x9:=x9) (x10:=x10) (x11:=x11) (h:=h6) F hK' (by omega) lt
  have s6:s < h6.nx:=by rw[bt6.1,bt5.1]; exact I4.sl
  exact ZeP e7 ⟨⟨_,_,_,_,_,_,_,_,rfl⟩,Zpo dl6 (u7.2 s s6),ZaT s6 u7.1⟩
theorem hv' (F:Fx g) (l:List Int) (hl:l.length≤63) (h:AH):Wp ((cN g 12).f true 10 [.scr l] h) (fun a _=>a=.bl true) (fun _ _=>False):=by
 rw[Zbq,F.f10]
 show Wp (fin (evSs g (cN g 11) true b10 [.v (.scr l),.no,.no,.no,.no,.no,.no,.no,.no,.no,.no,.no] h)) _ _
 suffices H:Wp (evSs g (cN g 11) true b10 [.v (.scr l),.no,.no,.no,.no,.no,.no,.no,.no,.no,.no,.no] h) (fun f _=>f=.rt (.bl true)) (fun _ _=>False) by
  cases e:evSs g (cN g 11) true b10 [.v (.scr l),.no,.no,.no,.no,.no,.no,.no,.no,.no,.no,.no] h with
  |ok f h'=>rw[e] at H; have H:f=.rt (.bl true):=H; subst H; rfl
  |exc x h'=>rw[e] at H; exact H.elim
  |stuck=>rw[e] at H; exact H.elim
 unfold b10
 refine ZcL (Zkb (Zgt (F.df _) (Zhc (ZeP (a:=.scr l) (h':=h) (by rw[Zbp]; rfl) (ZfE ⟨_,rfl,ZnS (n:=10) F.f4 hl fun h1 hn1 hc1 dl1=>?_⟩)))))
 have hs1:h.nx < h1.nx:=by rw[hn1]; exact Zbc _
 generalize h.nx=s at *
 show Wp (evSs g (cN g 11) true ZkY (kv l s .no .no .no .no .no .no .no .no .no .no) h1) _ _
 unfold ZkY
 refine ZcL (Zna (ZeP e_c ⟨4,rfl,by decide,?_⟩))
 refine Zed (k:=0) (fun i env h'=>(∃y2 y3 y4 y5 y6 y7 y8 y9 y10 y11,env=kv l s y2 y3 y4 y5 y6 y7 y8 y9 y10 y11)∧ZeL s h'∧s < h'.nx) ⟨⟨_,_,_,_,_,_,_,_,_,_,rfl⟩,dl1,hs1⟩ (fun i x env h5 hx z=>?_) fun env h5 z=>?_
 ·obtain⟨⟨y2,y3,y4,y5,y6,y7,y8,y9,y10,y11,rfl⟩,dl5,sl5⟩:=z
  show Wp (evSs g (cN g 11) true Zis (kv l s (.v x) y3 y4 y5 y6 y7 y8 y9 y10 y11) h5) _ _
  refine (turn F dl5 sl5).mono (fun f h' q=>?_) fun _ _ q=>q
  obtain⟨⟨z3,z4,z5,z6,z7,z8,z9,z10,rfl⟩,q⟩:=q
  exact⟨⟨_,_,_,_,_,_,_,_,_,_,rfl⟩,q⟩
 ·dsimp only
  unfold b10_1
  have n1:Zdp [] [97]=[]:=rfl
  obtain⟨g1,a1,_⟩:=ZhS (n:=8) (h:=h5) (env:=env) (K:=[]) (t:=[97]) (e:=.cal 2 (.cons (.lst .nil) (.cons (.cst (.str [97])) .nil)) .nil [0,1]) F (fun k hk=>nomatch hk) (by decide) (by decide) (x:=.lst []) (.inl rfl) (ZdF (Zb7 (ZdV ZcO (show 0≤line by decide)) (Zce e_c)) (F.df _) rfl)
  obtain⟨g2,a2,_⟩:=ZcU (n:=7) (h:=g1) F (K:=[]) (t:=[97]) (x:=.lst []) (.inl rfl) (fun k hk=>nomatch hk) (by decide) (by decide)
  obtain⟨g3,a3,_⟩:=ZcU (n:=7) (h:=g2) F (K:=[[97,98],[97,99]]) (t:=[97]) (x:=.lst [.str [97,98],.str [97,99]]) (.inl rfl) (fun k hk=>by simp only[Zak,ZbO,or_false] at hk; rcases hk with rfl |rfl<;>decide) (by decide) (by decide)
  obtain⟨g4,a4,_⟩:=ZcU (n:=7) (h:=g3) F (K:=[[97,98],[97,98]]) (t:=[97]) (x:=.lst [.str [97,98],.str [97,98]]) (.inl rfl) (fun k hk=>by simp only[Zak,ZbO,or_false] at hk; rcases hk with rfl |rfl<;>decide) (by decide) (by decide)
  rw[show ZdZ [] [97]=.non by rfl] at a2
  rw[show ZdZ [[97,98],[97,99]] [97]=.non by rfl] at a3
  rw[show ZdZ [[97,98],[97,98]] [97]=.str [97,98] by rfl] at a4
  have b2':evE g (cN g 11) true (.cal 3 (.cons (.lst .nil) (.cons (.cst (.str [97])) .nil)) .nil [0,1]) env g1=.ok .non g2:=by
   rw[ZdF (Zb7 (ZdV ZcO (show 0≤line by decide)) (Zce e_c)) (F.df _) rfl]
   exact a2
  have b3':evE g (cN g 11) true (.cal 3 (.cons (.lst (.cons (.cst (.str [97,98])) (.cons (.cst (.str [97,99])) .nil))) (.cons (.cst (.str [97])) .nil)) .nil [0,1]) env g2=.ok .non g3:=by
   rw[ZdF (Zb7 (ZdV (Zb7 e_c (Zce e_c)) (show 2≤line by decide)) (Zce e_c)) (F.df _) rfl]
   exact a3
  have b4':evE g (cN g 11) true (.cal 3 (.cons (.lst (.cons (.cst (.str [97,98])) (.cons (.cst (.str [97,98])) .nil))) (.cons (.cst (.str [97])) .nil)) .nil [0,1]) env g3=.ok (.str [97,98]) g4:=by
   rw[ZdF (Zb7 (ZdV (Zb7 e_c (Zce e_c)) (show 2≤line by decide)) (Zce e_c)) (F.df _) rfl]
   exact a4
  have fin':=ZdF (f:=7) (sel:=[0,1]) (g:=g) (call:=cN g 11) (c:=true) (Zb7 (ZdV (Zb7 a1 (Zb7 b2' (Zb7 b3' (Zce b4')))) (show 4≤line by decide)) (Zce (ZdV (Zb7 (ZdV ZcO (show 0≤line by decide)) (Zb7 (e:=.cst .non) (x:=.non) e_c (Zb7 (e:=.cst .non) (x:=.non) e_c (Zce (e:=.cst (.str [97,98])) (x:=.str [97,98]) e_c)))) (show 4≤line by decide)))) (F.df _) rfl
  refine ZcL ?_
  have e7:(cN g 11).f true 7 [.lst [.lst ((Zdp [] [97]).map D.str),.non,.non,.str [97,98]],.lst [.lst [],.non,.non,.str [97,98]]] g4=.ok (.bl true) g4:=by
   rw[n1]
   exact Zjy (n:=10) F.f7 rfl (Sm.of (by decide)) rfl
  rw[ZgY,fin',e7]
  rfl
theorem hv:∀l:List Int,l.length≤63→∃h,callN p.G 12 true 10 [.scr l] ⟨0,fun _=>.no⟩=.ok (.bl true) h:=by
 intro l hl
 obtain⟨a,h,e,rfl⟩:=(hv' fx l hl ⟨0,fun _=>.no⟩).ok
 exact⟨h,e⟩
end
end K56
/-! the head's run of law k56 -/
namespace K56
open PySem PySem.Spec PyProof.Rows L2 Rk
theorem run1 (w:World):Zi6 R 20000 w (seenS R vw lo0 w) (true,PySem.W.openGood vw lo0):=by
 intro os
 kernel_rfl
theorem run2 (w:World):Zi6 R 20000 w (fun s=>(ob s).1) (Zlk p w).1:=by
 intro os
 kernel_rfl
theorem run3 (w:World):Zi6 R 20000 w (fun s=>(ob s).2.1) true:=by
 intro os
 kernel_rfl
theorem run4 (w:World):Zi6 R 20000 w (fun s=>(ob s).2.2.1) (Zlk p w).2.2.1:=by
 intro os
 kernel_rfl
theorem run5 (w:World):Zi6 R 20000 w (fun s=>(ob s).2.2.2.1) true:=by
 intro os
 kernel_rfl
theorem run6 (w:World):Zi6 R 20000 w (fun s=>(ob s).2.2.2.2) (Zlk p w).2.2.2.2:=by
 intro os
 kernel_rfl
theorem run (w:World):HandSHeadRun.RunEq R vw hk ob 20000 lo0 w:=Zg0 (run1 w) (run2 w) (run3 w) (run4 w) (run5 w) (run6 w)
end K56
/-! the law's end,printed by endp.py -/
open PySem PySem.W PySem.Calls PyProof.Rows in
theorem PySem.Challenge.cw_rivalkeys_k56_keys_that_are_near_holds : PySem.Challenge.rw_rivalkeys_k56_keys_that_are_near.Holds := by
 w_on; o_law
 refine HandSHeadRun.head_any (r:=OpenLaw.row PySem.Challenge.rw_rivalkeys_k56_keys_that_are_near) (q:=view (OpenLaw.row PySem.Challenge.rw_rivalkeys_k56_keys_that_are_near).prog [12]) (H:=K56.hk) (ob:=K56.ob) (M:=20000) (loose:=[("is_left_out":PySem.Str),("is_slip":PySem.Str),("near":PySem.Str),("surely":PySem.Str),("_law_deal":PySem.Str),("_law_pick":PySem.Str),("_law_of":PySem.Str),("_law_same":PySem.Str),("_law_ordinary":PySem.Str),("_law_all_slips":PySem.Str)]) (d:=HandSHeadRun.topDef (OpenLaw.row PySem.Challenge.rw_rivalkeys_k56_keys_that_are_near).prog 12) (kwd:=[]) K56.ob_eq
  (by kernel_rfl) (fun s=>by kernel_rfl) K56.run (by kernel_rfl) (by kernel_rfl) (by kernel_rfl) (by rfl) (by first |assumption |decide+kernel) (by decide+kernel) ⟨rfl,rfl,rfl,rfl,rfl,by decide+kernel⟩ ?hw ?hc
 case hw=>w_witness2
 case hc=>
  refine Rk.walkG (l:=PySem.Challenge.rw_rivalkeys_k56_keys_that_are_near) (n:=63) (k:=12) (x:="_law_script") rfl (by decide) (by kernel_rfl) ⟨by decide,by decide,rfl⟩ ?F
  intro w mg fa h Y G hmg0
  obtain⟨Kf,KX,c⟩:=Y
  have S:=Rk.says_of KX c
  have hmg:mg ("law":PySem.Str)=some (.ref fa):=by
   have e:(HandSHeadRun.topDef (OpenLaw.row PySem.Challenge.rw_rivalkeys_k56_keys_that_are_near).prog 12).name=("law":PySem.Str):=by kernel_rfl
   rw[← e]
   exact hmg0
  have efa:fa=Rk.DE.ad (K56.p.K Kf) K56.d10:=by
   have z:=hmg.symm.trans (He.glo_ok S.inK G (Rk.ZfR S (Rk.Znc (show K56.p.ds[10]? =some K56.d10 from rfl) rfl)))
   rw[Rk.Zit (d:=K56.d10) rfl]
   cases z
   rfl
  subst efa
  have F:=Rk.Zdr S K56.pok (show K56.p.ds[10]? =some K56.d10 from rfl) rfl
  refine⟨K56.p.K Kf,K56.p.cs (K56.p.K Kf),Rk.Zng K56.p (K56.p.K Kf) 10,Rk.spF (Rk.Za5 K56.p (K56.p.K Kf)) (Rk.cN K56.p.G 12) true 10,S.inK,S.tab,fun s u=>?_,fun H a l hl hT hS=>Rk.law_sp K56.hv S H a l hl hT hS,fun base _ _ tb=>Rk.prog_fn S G K56.pok K56.pbd tb 12 12 (Nat.le_refl 12) 10 K56.d10 rfl⟩
  exact L2.FunD.bindsA (ps:=["_law_script"]) F (fun _ _ _ _ _ _ us hl=>match us,hl with |[_],_=>rfl) s [u] rfl
