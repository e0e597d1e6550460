import PyProof.Rows.All
import Wide.FinOn
import OpenK.AllK
import Wide.All
import Lean
import PySem.Challenge.RW_xm0487_01
set_option Elab.async false
set_option maxRecDepth 100000
set_option linter.unusedVariables false
open Array renaming length_toList→fH, getElem?_eq_getElem→iA, getElem?_toList→jd, getD→mw, getElem?_eq_some_iff→pr, toList_push→pG
open Bool renaming and_eq_true_iff→aP, false_ne_true→cT, eq_false_iff→gz, not_eq_true'→ia, false_eq_true→jf, eq_iff_iff→jU, noConfusion→k7, or_eq_true_iff→sU
open Classical renaming em→gC
open ForInStep renaming yield→pI
open Iff renaming trans→gU, rfl→iI
open Int renaming ofNat_le→eX, ofNat→fK, natCast_nonneg→gy, ofNat_lt→ib, toNat_natCast→iD, not_lt→jW, toNat_of_nonneg→mf, le_of_lt_add_one→nQ, fmod_eq_emod_of_nonneg→yR
open LawfulBEq renaming eq_of_beq→aN
open List renaming length_map→aB, length_append→aG, not_mem_nil→aJ, mem_singleton→aM, mem_map→aS, mem_cons→bC, map_append→bJ, append_nil→ck, forall_mem_cons→cx, append_assoc→cz, map_map→cD, mem_append_right→cH, length→cI, mem_append_left→cS, cons_ne_nil→cX, mem_append→cY, range→c0, all_eq_true→dn, forall_mem_append→eG, nodup_cons→eU, getElem?_eq_some_iff→fG, getElem?_map→f9, length_pos_iff→gx, range'→gT, getElem?_eq_getElem→iB, size_toArray→jg, mem_flatMap→jh, lookup_cons→ji, compareLex→jk, map_eq_nil_iff→jR, map→jY, length_eq_zero_iff→kR, getElem?_eq_none→kS, contains_iff_mem→kU, length_cons→k5, replicate→lb, mem_range→lf, map_congr_left→me, any_eq_true→mj, map_cons→mm, exists_mem_of_ne_nil→nO, getElem?_toArray→nP, take_append_drop→pz, mem_of_getElem?→pC, getElem?_of_mem→pD, nodup_append→pE, append_eq_nil_iff→sM, dropWhile_cons→sQ, flatMap_cons→tc, take_of_length_le→yX, length_singleton→y0, reverse_reverse→y2, zip_eq_zipWith→y3, takeWhile_cons→y4, append_toArray→y5, append_ne_nil_of_right_ne_nil→Hb, takeWhile_append_of_pos→Hc, dropWhile_append_of_pos→He, idxOf_lt_length_of_mem→Hf
open List.cons renaming inj→eH
open Nat renaming le_trans→ai, le_add_right→aR, le_refl→aT, lt_of_le_of_lt→aX, le_of_eq→bg, zero_le→bz, zero_add→bQ, add_le_add_left→cy, add_right_comm→c9, lt_succ_self→dm, le_succ→dI, add_assoc→dS, ne_of_lt→dT, le_of_lt→eW, lt_of_lt_of_le→fc, le_add_left→gc, lt_irrefl→gA, add_comm→gB, ble→gE, succ_le_succ→gS, le_of_ble_eq_true→jc, add_le_add_right→je, lt_trans→li, lt_of_succ_lt→mi, succ_mul→mn, mul_le_mul_left→nR, lt_succ_of_le→nX, le_succ_of_le→nY, le_of_not_lt→nZ, add_le_add→n4, not_succ_le_zero→sO, lt_succ_of_lt→sZ, le_mul_of_pos_right→yU, mul_le_mul_right→y1
open Nat.succ renaming inj→mo
open Ne renaming symm→gW
open Option renaming bind_eq_some_iff→bG, map_eq_some_iff→cC, ite_none_right_eq_some→cG, map→gD, eq_none_iff_forall_ne_some→yQ
open Option.some renaming inj→a8
open Prod renaming fst→gV
open Prod.mk renaming inj→mq
open PyProof.Rows renaming seqObj→cp
open PyProof.Rows.F renaming plain_set_update_loop→Ha
open PySem renaming PyData→aa, wpAny_bind→ag, wpAny_pure→ak, SetTable→bB, intKind→bR, wpAny_mono→cZ, rawInt→c4, builtinsNs→du, sizeLine→dJ, wpAny_holding→dR, mainGlobals→dU, sizeLine_eq→ff, codeAny→fg, pyNext→fh, Builtin→fJ, starEach→gd, NameKind→gf, getItem→gg, wpAny_setState_of→gR, wpAny_rule→iH, codeAny_builtin→jj, wpAny_standAt→jl, Comprehension→jQ, sysModules→jV, compareOp→jX, wpAny_newObj_type→kY, wpAny_call_entry→kZ, wpAny_ite_split→k8, wpAny_setField→k9, plainId_quiet→lg, wpAny_truthy_bool→nV, letOwnedTupleGo→pH, wpAny_askSetting→td, wpAny_items_nil→te
open PySem.Around renaming under_plainId→kW
open PySem.Builtin.List renaming listExtendWith→sL
open PySem.Builtin.Tuple renaming tupleItemsOf→yS, tupleExact→yT
open PySem.F renaming called_set→mh, plain_any_loop→yV, plain_all_loop→yW, slot_tuple_lt→yY, slot_list_pop→yZ
open PySem.Heap renaming get?_push_of_some→bH, get?_push_size→dH, lt_size→fI, SameBut→gv, get?_none_of_le→gw, get?_update_other→l8, get?_update_self→l9, size_push→pK
open PySem.Heap.SameBut renaming update→kX
open PySem.NameKind renaming free→lh, cell→pM
open PySem.Obj renaming mapSeq→fP, putSet→mv
open PySem.PyData renaming int→bv, list→jm, depthAll→ml, eqv→mu, tuple→nU, eqvAll→n6
open PySem.SetTable renaming below→cA, runEnd→fe, grown→iE, leap→iF, bits→iG, insertAt→nW, turns→pJ, laid→pL, layClean→sK
open PySem.SetTable.below renaming go→sY
open PySem.SetTable.layClean renaming free→iC
open PySem.SetTable.probe renaming go→jT
open PySem.Str renaming ofString→ac
open PySem.Value renaming type→fM, none→jn
open PySem.W renaming look_both→dW, boot_heap→mx
section
set_option genInjectivity false
set_option genSizeOf false
open PySem
namespace Mine
inductive PV where
 |d (x:aa)
 |o (k:Nat)
 |kd (kvs:List (Int×aa))
 |rg (n:Nat)
inductive Slot where
 |pv (p:PV)
 |lst (xs:List aa)
 |dct (kvs:List (Int×aa))
 |tdct (kvs:List (aa×Int))
structure Ob where
 cls:Nat
 at':List (Str×Slot)
noncomputable def aH:Nat:=65536
noncomputable def eI (x:aa):Bool:=SeqAt.shaped x
mutual
noncomputable def gF:aa→Bool
 | .int _=>true
 | .str x=>PyData.strOk x
 | .tuple xs=>keyAll xs
 | _=>false
noncomputable def keyAll:List aa→Bool
 |[]=>true
 |x::xs=>gF x&&keyAll xs
end
noncomputable def cg:aa→Option Int
 | .int i=>some i
 | _=>none
noncomputable def lj:aa→Option (List aa)
 | .list xs=>some xs
 | _=>none
noncomputable def jZ:aa→Option (List aa)
 | .tuple xs=>some xs
 | _=>none
noncomputable def ic:aa→Option (List aa)
 | .tuple xs=>some xs
 | .list xs=>some xs
 | _=>none
noncomputable def cq (x:aa):Bool:=gF x&&decide (x.depth≤6)&&(jZ x).isSome
noncomputable def cU (xs:List aa)(i:Int):Option aa:=
 if 0≤i then xs[i.toNat]? else if 0≤i+(xs.length:Int) then xs[(i+(xs.length:Int)).toNat]? else none
noncomputable def fj (kvs:List (Int×aa))(k:Int):Option aa:=(kvs.find? (fun p=>p.1==k)).map (·.2)
noncomputable def j0 (kvs:List (Int×aa))(k:Int)(v:aa):List (Int×aa):=
 if kvs.any (fun p=>p.1==k) then kvs.map (fun p=>if p.1==k then (p.1,v) else p) else kvs++[(k,v)]
open Classical in
noncomputable def eJ (kvs:List (aa×Int))(k:aa):Option Int:=(kvs.find? (fun p=>decide (p.1=k))).map (·.2)
open Classical in
noncomputable def n7 (kvs:List (aa×Int))(k:aa)(v:Int):List (aa×Int):=
 if (eJ kvs k).isSome then kvs.map (fun p=>if p.1=k then (p.1,v) else p) else kvs++[(k,v)]
noncomputable def y6:aa→Option Bool
 | .bool b=>some b
 | _=>none
noncomputable def Hg:aa→aa→Option aa
 | .int x=>fun b=>(cg b).map fun y=>.int (x+y)
 | .list x=>fun b=>(lj b).bind fun y=>if x.length+y.length≤aH then some (.list (x++y)) else none
 | .tuple x=>fun b=>(jZ b).bind fun y=>if x.length+y.length≤aH then some (.tuple (x++y)) else none
 | _=>fun _=>none
noncomputable def n8 (f:Int→Int→Option aa)(a b:aa):Option aa:=(cg a).bind fun x=>(cg b).bind fun y=>f x y
noncomputable def ie:Operator→aa→aa→Option aa
 | .Add=>Hg
 | .Sub=>n8 fun x y=>some (.int (x - y))
 | .Mult=>n8 fun x y=>if -1000≤y∧y≤1000 then some (.int (x*y)) else none
 | .FloorDiv=>n8 fun x y=>if 1≤y∧y≤1000000 then some (.int (x.fdiv y)) else none
 | .Mod=>n8 fun x y=>if y=0 then none else some (.int (x.fmod y))
 | _=>fun _ _=>none
noncomputable def n9 (f:Int→Int→Bool)(a b:aa):Option Bool:=(cg a).bind fun x=>(cg b).map fun y=>f x y
noncomputable def tf:aa→aa→Option Bool
 | .bool x=>fun b=>(y6 b).map fun y=>x==y
 |x=>fun y=>if eI x&&eI y then some (mu x y) else none
noncomputable def dg:CmpOp→aa→aa→Option Bool
 | .Lt=>n9 fun x y=>decide (x<y)
 | .LtE=>n9 fun x y=>decide (x≤y)
 | .Gt=>n9 fun x y=>decide (y<x)
 | .GtE=>n9 fun x y=>decide (y≤x)
 | .Eq=>tf
 | .NotEq=>fun a b=>(tf a b).map fun c=> !c
 | _=>fun _ _=>none
noncomputable def tg (xs:List aa)(k:aa):Option Bool:=if xs.all eI&&eI k then some (xs.any fun y=>mu y k) else none
noncomputable def Hh:PV→aa→Option Bool
 | .d x=>fun k=>(ic x).bind fun xs=>tg xs k
 | .kd kvs=>fun k=>(cg k).map fun i=>(fj kvs i).isSome
 | _=>fun _=>none
noncomputable def y7 (kvs:List (Int×aa)):aa→Option Bool
 | .int i=>some (fj kvs i).isSome
 |k=>if kvs.isEmpty&&cq k then some false else none
noncomputable def dv:Slot→aa→Option Bool
 | .pv p=>Hh p
 | .dct kvs=>y7 kvs
 | .tdct kvs=>fun k=>if cq k then some (eJ kvs k).isSome else none
 | .lst _=>fun _=>none
noncomputable def y8:PV→aa→Option aa
 | .d x=>fun k=>(ic x).bind fun xs=>(cg k).bind fun i=>cU xs i
 | .kd kvs=>fun k=>(cg k).bind fun i=>fj kvs i
 | _=>fun _=>none
noncomputable def j3:Slot→aa→Option aa
 | .pv p=>y8 p
 | .lst xs=>fun k=>(cg k).bind fun i=>cU xs i
 | .dct kvs=>fun k=>(cg k).bind fun i=>fj kvs i
 | .tdct kvs=>fun k=>if cq k then (eJ kvs k).map .int else none
noncomputable def Hi:PV→Option Nat
 | .d x=>(ic x).map fun xs=>xs.length
 | .kd kvs=>if kvs.length≤aH then some kvs.length else none
 | _=>none
noncomputable def og:Slot→Option Nat
 | .pv p=>Hi p
 | .lst xs=>some xs.length
 | .dct kvs=>if kvs.length≤aH then some kvs.length else none
 | .tdct _=>none
noncomputable def pO:aa→Option Bool
 | .bool b=>some b
 | .int i=>some (i !=0)
 | .list xs=>some (!xs.isEmpty)
 | .tuple xs=>some (!xs.isEmpty)
 | _=>none
noncomputable def Hj:PV→Option Bool
 | .d x=>pO x
 | _=>none
noncomputable def my:Slot→Option Bool
 | .pv p=>Hj p
 | .lst xs=>some (!xs.isEmpty)
 | _=>none
noncomputable def still:Slot→Option PV
 | .pv p=>some p
 | .lst xs=>some (.d (.list xs))
 | .dct kvs=>some (.kd kvs)
 | .tdct _=>none
noncomputable def gh:PV→Option (List aa)
 | .d x=>ic x
 | .kd kvs=>some (kvs.map fun p=>.int p.1)
 | .rg n=>some ((c0 n).map fun(i:Nat)=>bv (fK i))
 | .o _=>none
noncomputable def pP:PV→Option (List aa)
 | .rg _=>none
 |p=>gh p
noncomputable def iJ:Slot→aa→aa→Option Slot
 | .dct kvs=>fun k v=>match cg k with
  |some i=>if kvs.length<aH then some (.dct (j0 kvs i v)) else none
  |none=>if kvs.isEmpty&&cq k then (cg v).map fun j=>.tdct [(k,j)] else none
 | .tdct kvs=>fun k v=>if cq k&&kvs.length<aH then (cg v).map fun j=>.tdct (n7 kvs k j) else none
 | _=>fun _ _=>none
noncomputable def y9 (xs:List aa):Option Int→Option Int→Option (List aa)
 |some a,none=>if 0≤a then some (xs.drop a.toNat) else none
 |none,some b=>if 0≤b then some (xs.take b.toNat) else none
 |some a,some b=>if 0≤a∧a≤b∧b≤xs.length then some ((xs.drop a.toNat).take (b.toNat - a.toNat)) else none
 |none,none=>none
noncomputable def zc (xs:List aa):Option Int→Option Int→Option (List aa)
 |some a,some b=>if a=1∧b=2∧2≤xs.length then some ((xs.drop 1).take 1) else none
 | _,_=>none
noncomputable def ll:aa→Option Int→Option Int→Option aa
 | .list xs=>fun a b=>(y9 xs a b).map .list
 | .tuple xs=>fun a b=>(zc xs a b).map .tuple
 | _=>fun _ _=>none
noncomputable def Hk (x:aa):Option aa:=(cg x).map fun i=>.int (-i)
noncomputable def pQ (x:aa):Option Nat:=(cg x).bind fun i=>if 0≤i∧i≤aH then some i.toNat else none
noncomputable def zd:PV→Option Nat
 | .o k=>some k
 | _=>none
noncomputable def Hl:Slot→Option PV
 | .pv p=>some p
 | _=>none
noncomputable def lm:Slot→Option (List aa)
 | .lst xs=>some xs
 | _=>none
noncomputable def j8:PV→Option aa
 | .d x=>some x
 | _=>none
noncomputable def iK (l:List (Str×Slot))(x:Str)(s:Slot):List (Str×Slot):=l.map fun p=>if p.1==x then (p.1,s) else p
section
variable {α:Type}(le:α→α→Bool)
noncomputable def jo (x:α):List α→List α
 |[]=>[x]
 |y::r=>if le x y then x::y::r else y::jo x r
noncomputable def a9:List α→List α
 |[]=>[]
 |x::r=>jo le x (a9 r)
end
noncomputable def b0 {α:Type}[BEq α]:List α→List α
 |[]=>[]
 |x::r=>if r.contains x then b0 r else x::b0 r
abbrev ae:=List (List Int×Int)
noncomputable def ig (a b:List Int×Int):Ordering:=(jk compare a.1 b.1).then (compare a.2 b.2)
noncomputable def gX:ae→ae→Ordering:=jk ig
noncomputable def bn (a b:Int):Bool:=decide (a≤b)
noncomputable def bw (a b:ae):Bool:=(gX a b).isLE
noncomputable def jp {α:Type}(f:aa→Option α):List aa→Option (List α)
 |[]=>some []
 |x::r=>(f x).bind fun a=>(jp f r).map fun as=>a::as
noncomputable def iL:List aa→Option (List Int):=jp cg
noncomputable def pR (x:aa):Option (List Int×Int):=(jZ x).bind fun l=>match l with
 |[a,b]=>(jZ a).bind fun xs=>(iL xs).bind fun is=>(cg b).map fun s=>(is,s)
 | _=>none
noncomputable def ze (x:aa):Option ae:=(jZ x).bind (jp pR)
noncomputable def pT:List aa→Option (List ae):=jp ze
noncomputable def aA (xs:List Int):List aa:=xs.map .int
noncomputable def dw (e:List Int×Int):aa:=.tuple [.tuple (aA e.1),.int e.2]
noncomputable def aQ (f:ae):aa:=.tuple (f.map dw)
noncomputable def ch (fs:List ae):List aa:=fs.map aQ
noncomputable def iM (xs:List aa):Option (List aa):=
 match iL xs with
 |some is=>if is.length<64 then some (aA (a9 bn is)) else none
 |none=>(pT xs).bind fun fs=>if fs.length≤6∧fs.Nodup then some (ch (a9 bw fs)) else none
noncomputable def j9 (xs:List aa):Option (List aa):=
 match iL xs with
 |some is=>if is.length<4000∧(b0 is).length<64 then some (aA (a9 bn (b0 is))) else none
 |none=>(pT xs).bind fun fs=>if fs.length≤6 then some (ch (a9 bw (b0 fs))) else none
noncomputable def ka:List aa→Option (List Bool):=jp pO
end Mine
end
section
set_option autoImplicit false
open PySem
namespace Mine
section
variable {α:Type}{le:α→α→Bool}
theorem zf {x y:α}{r:List α}:jo le x (y::r)=if le x y=true then x::y::r else y::jo le x r:=rfl
theorem th (le:α→α→Bool)(x:α):∀l:List α,(jo le x l).Perm (x::l)
 |[]=>.refl _
 |y::r=>by
  rw[zf]
  split
  ·exact .refl _
  ·exact((th le x r).cons y).trans (.swap x y r)
theorem dy (le:α→α→Bool):∀l:List α,(a9 le l).Perm l
 |[]=>.refl _
 |x::r=>(th le x _).trans ((dy le r).cons x)
theorem zg (tot:∀a b,le a b=true∨le b a=true)(tr:∀a b c,le a b=true→le b c=true→le a c=true)(x:α):∀{l:List α},l.Pairwise (fun a b=>le a b=true)→(jo le x l).Pairwise (fun a b=>le a b=true)
 |[],_=>.cons (fun _ h=>(aJ h).elim) .nil
 |y::r,h=>by
  have h':=List.pairwise_cons.mp h
  rw[zf]
  split
  ·rename_i hxy
   exact .cons (fun z hz=>(bC.mp hz).elim (fun e=>e▸hxy) fun hz=>tr _ _ _ hxy (h'.1 z hz)) h
  ·rename_i hxy
   exact .cons (fun z hz=>(bC.mp ((th le x r).mem_iff.mp hz)).elim (fun e=>e▸(tot z y).resolve_left (e▸hxy)) (h'.1 z)) (zg tot tr x h'.2)
theorem oh (tot:∀a b,le a b=true∨le b a=true)(tr:∀a b c,le a b=true→le b c=true→le a c=true):∀l:List α,(a9 le l).Pairwise fun a b=>le a b=true
 |[]=>.nil
 |x::r=>zg tot tr x (oh tot tr r)
theorem ti (tot:∀a b,le a b=true∨le b a=true)(tr:∀a b c,le a b=true→le b c=true→le a c=true)(anti:∀a b,le a b=true→le b a=true→a=b){xs ys:List α}(p:xs.Perm ys)(h:xs.Pairwise fun a b=>le a b=true):xs=a9 le ys:=
 (p.trans (dy le ys).symm).eq_of_pairwise (fun a b _ _=>anti a b) h (oh tot tr ys)
end
theorem tj (a b:Int):bn a b=true∨bn b a=true:=(Int.le_total a b).imp decide_eq_true decide_eq_true
theorem tm (a b c:Int)(h:bn a b=true)(k:bn b c=true):bn a c=true:=decide_eq_true (Int.le_trans (of_decide_eq_true h) (of_decide_eq_true k))
theorem zh (a b:Int)(h:bn a b=true)(k:bn b a=true):a=b:=Int.le_antisymm (of_decide_eq_true h) (of_decide_eq_true k)
open Std
theorem pU:TransCmp ig where
 eq_swap:=fun {a b}=>by unfold ig;rw[Ordering.swap_then,←OrientedCmp.eq_swap (cmp:=jk compare),←OrientedCmp.eq_swap (cmp:=(compare:Int→Int→Ordering))]
 isLE_trans:=fun {a b c}=>TransCmp.isLE_trans (cmp:=compareLex (compareOn fun x:List Int×Int=>x.1) (compareOn fun x=>x.2))
theorem zi:LawfulEqCmp ig where
 compare_self:=fun {a}=>ReflCmp.compare_self (cmp:=compareLex (compareOn fun x:List Int×Int=>x.1) (compareOn fun x=>x.2))
 eq_of_compare:=fun {a b} h=>have q:=Ordering.then_eq_eq.mp h;Prod.ext (LawfulEqCmp.eq_of_compare q.1) (LawfulEqCmp.eq_of_compare q.2)
theorem pV (a b:ae):bw a b=true∨bw b a=true:=by
 have:=pU
 unfold bw gX
 rw[OrientedCmp.eq_swap (cmp:=jk ig) (a:=b)]
 cases jk ig a b
 ·exact .inl rfl
 ·exact .inl rfl
 ·exact .inr rfl
theorem tn (a b c:ae)(h:bw a b=true)(k:bw b c=true):bw a c=true:=have:=pU;TransCmp.isLE_trans (cmp:=jk ig) h k
theorem zj (a b:ae)(h:bw a b=true)(k:bw b a=true):a=b:=have:=pU;have:=zi;LawfulEqCmp.eq_of_compare (cmp:=jk ig) (OrientedCmp.isLE_antisymm h k)
end Mine
end
section
open PySem PySem.W PyProof.Rows
namespace Mine
noncomputable def jq {α:Type}(n:Nat)(lt:Nat→Nat→Bool):KasT α→Option α
 | .ret a=>some a
 | .ask i j k=>if i<n∧j<n then jq n lt (k (lt i j)) else none
noncomputable def jr:List Nat→List (List Nat)
 |[]=>[[]]
 |x::r=>(jr r).flatMap (insAll x)
where
 insAll (x:Nat):List Nat→List (List Nat)
  |[]=>[[x]]
  |y::r=>(x::y::r)::(insAll x r).map (y::·)
theorem zk {x:Nat}:∀{l m:List Nat},x∈l→l.erase x=m→l∈jr.insAll x m
 |y::l,m,h,e=>by
  by_cases hy:y=x
  ·subst hy
   rw[List.erase_cons_head] at e
   subst e
   cases l with
   |nil=>simp [jr.insAll]
   |cons z l=>simp [jr.insAll]
  ·rw[List.erase_cons_tail (by simpa using hy)] at e
   subst e
   have h':x∈l:=(bC.mp h).resolve_left (fun z=>hy z.symm)
   unfold jr.insAll
   exact .tail _ (aS.mpr ⟨l,zk h' rfl,rfl⟩)
theorem zl:∀{m l:List Nat},l.Perm m→l∈jr m
 |[],l,h=>by rw[List.Perm.eq_nil h];simp [jr]
 |x::r,l,h=>by
  have hx:x∈l:=h.mem_iff.mpr (List.mem_cons_self ..)
  have:=(List.perm_cons_erase hx).symm.trans h
  unfold jr
  exact jh.mpr ⟨l.erase x,zl (List.Perm.cons_inv this),zk hx rfl⟩
noncomputable def Hm (n:Nat):Bool:=(jr (c0 n)).all fun r=>
 match jq n (fun i j=>decide (r.getD i 0<r.getD j 0)) (kas_sort n) with
 |some p=>p.toList.map (fun i=>r.getD i 0)==c0 n&&p.toList.all (fun i=>decide (i<n))
 |none=>false
theorem Hn:(c0 7).all Hm=true:=by kernel_rfl
end Mine
end
section
set_option autoImplicit false
open PySem PySem.W PyProof.Rows
namespace Mine
theorem tq {α:Type}{n:Nat}{l1 l2:Nat→Nat→Bool}(h:∀i j,i<n→j<n→l1 i j=l2 i j):∀(t:KasT α),jq n l1 t=jq n l2 t
 | .ret a=>rfl
 | .ask i j k=>by
  unfold jq
  split
  ·rename_i hij
   rw[h i j hij.1 hij.2];exact tq h _
  ·rfl
theorem zm {α:Type}{n:Nat}{lt:Nat→Nat→Bool}{cmp:Nat→Nat→(Bool→Shared→Prop)→Shared→Prop}{s:Shared}(hc:∀i j C,i<n→j<n→C (lt i j) s→cmp i j C s){Q:α→Shared→Prop}:
 ∀(t:KasT α) (a:α),jq n lt t=some a→Q a s→t.kasWp cmp Q s
 | .ret b,a,e,q=>by cases e;exact q
 | .ask i j k,a,e,q=>by
  have p:=cG.mp e
  exact hc i j _ p.1.1 p.1.2 (zm hc (k (lt i j)) a p.2 q)
section
variable {α:Type}
theorem Ho {fs:List α}{ρ:α→Nat}{at':Nat→α}(h6:fs.length≤6)(hp:(fs.map ρ).Perm (c0 fs.length))(ha:∀f∈fs,at' (ρ f)=f)(d:α):
 ∃p,jq fs.length (fun i j=>decide (ρ (fs.getD i d)<ρ (fs.getD j d))) (kas_sort fs.length)=some p∧p.toList.map (fun i=>fs.getD i d)=(c0 fs.length).map at'∧∀i∈p.toList,i<fs.length:=by
 have hc:=dn.mp (dn.mp Hn fs.length (lf.mpr (nX h6))) _ (zl hp)
 have ge:∀i,i<fs.length→(fs.map ρ).getD i 0=ρ (fs.getD i d):=fun i hi=>by simp [hi]
 rw[tq (l2:=fun i j=>decide (ρ (fs.getD i d)<ρ (fs.getD j d))) fun i j hi hj=>by rw[ge i hi,ge j hj]] at hc
 cases hr:jq fs.length (fun i j=>decide (ρ (fs.getD i d)<ρ (fs.getD j d))) (kas_sort fs.length) with
 |none=>rw[hr] at hc;cases hc
 |some p=>
  rw[hr] at hc
  have q:=aP.mp hc
  have h2:∀i∈p.toList,i<fs.length:=fun i hi=>of_decide_eq_true (dn.mp q.2 i hi)
  refine⟨p,rfl,?_,h2⟩
  rw[←aN q.1,cD]
  refine me fun i hi=>?_
  have hi:=h2 i hi
  show _=at' ((fs.map ρ).getD i 0)
  rw[ge i hi]
  exact(ha _ (by simp [hi])).symm
end
end Mine
end
section
set_option autoImplicit false
open PySem PySem.W PyProof.Rows Std
namespace Mine
theorem Hp (a b:ae):(gX a b== .lt)= !bw b a:=by
 unfold bw gX
 have:=pU
 rw[OrientedCmp.eq_swap (cmp:=jk ig) (a:=b)]
 cases jk ig a b<;>rfl
theorem Hq {ss:List ae}(hs:ss.Pairwise fun a b=>bw a b=true){a b:ae}(ha:a∈ss)(hb:b∈ss):(gX a b== .lt)=decide (ss.idxOf a<ss.idxOf b):=by
 have h1:=Hf ha
 have h2:=Hf hb
 have g1:ss[ss.idxOf a]=a:=List.getElem_idxOf h1
 have g2:ss[ss.idxOf b]=b:=List.getElem_idxOf h2
 have P:=List.pairwise_iff_getElem.mp hs
 rw[Hp]
 by_cases x:ss.idxOf a<ss.idxOf b
 ·rw[decide_eq_true x,ia]
  refine gz.mpr fun h=>?_
  have e:=zj a b (by have:=P _ _ h1 h2 x;rwa [g1,g2] at this) h
  rw[e] at x;exact gA _ x
 ·rw[decide_eq_false x,Bool.not_eq_false']
  rcases Nat.eq_or_lt_of_le (nZ x) with y|y
  ·have e:b=a:=g2.symm.trans ((getElem_congr_idx y).trans g1)
   rw[e];exact(pV a a).elim id id
  ·have:=P _ _ h2 h1 y;rwa [g1,g2] at this
theorem Hr {l:List ae}(hn:l.Nodup):l.map (fun f=>l.idxOf f)=c0 l.length:=
 List.ext_getElem (by simp) fun i h1 h2=>by
  rw[List.getElem_map,List.getElem_range]
  exact List.Nodup.idxOf_getElem hn i (by simpa using h1)
theorem Hs {fs:List ae}(h6:fs.length≤6)(hn:fs.Nodup):
 ∃p,jq fs.length (fun i j=>gX (fs.getD i []) (fs.getD j [])== .lt) (kas_sort fs.length)=some p∧p.toList.map (fun i=>fs.getD i [])=a9 bw fs∧∀i∈p.toList,i<fs.length:=by
 have hp:=dy bw fs
 have hs:=oh pV tn fs
 have hns:(a9 bw fs).Nodup:=hp.nodup_iff.mpr hn
 have mem:∀f∈fs,f∈a9 bw fs:=fun f h=>hp.mem_iff.mpr h
 have r:=Ho (fs:=fs) (ρ:=fun f=>(a9 bw fs).idxOf f) (at':=fun i=>(a9 bw fs).getD i []) h6 (by
  have:=(hp.symm.map fun f=>(a9 bw fs).idxOf f)
  rw[Hr hns,hp.length_eq] at this
  exact this) (fun f h=>by
   have:=Hf (mem f h)
   simp [this]) []
 have e:(c0 fs.length).map (fun i=>(a9 bw fs).getD i [])=a9 bw fs:=by
  rw[←hp.length_eq]
  exact List.ext_getElem (by simp) fun i h1 h2=>by simp [h2]
 rw[e] at r
 rw[tq (l2:=fun i j=>decide ((a9 bw fs).idxOf (fs.getD i [])<(a9 bw fs).idxOf (fs.getD j []))) fun i j hi hj=>Hq hs (mem _ (by simp [hi])) (mem _ (by simp [hj]))]
 exact r
end Mine
end
section
set_option autoImplicit false
open PySem PySem.W PyProof.Rows
namespace Mine
mutual
theorem oi:∀k:aa,gF k=true→k.canLay0=true
 | .int _=>fun _=>rfl
 | .str _=>fun h=>h
 | .tuple xs=>fun h=>keyAll_lay xs h
 | .none| .bool _| .list _| .dict _=>fun h=>(cT h).elim
theorem keyAll_lay:∀xs:List aa,keyAll xs=true→PyData.canLayAll0 xs=true
 |[]=>fun _=>rfl
 |x::xs=>fun h=>have q:=aP.mp h;aP.mpr ⟨oi x q.1,keyAll_lay xs q.2⟩
end
mutual
theorem pW:∀d e:aa,gF d=true→gF e=true→(mu d e=true↔d=e)
 | .int i,e=>fun _ h=>by cases e<;>first|exact gU (beq_iff_eq (a:=i)) ⟨congrArg bv,PyData.int.inj⟩|exact(cT h).elim|exact⟨fun z=>(cT z).elim,fun z=>nomatch z⟩
 | .str i,e=>fun _ h=>by cases e<;>first|exact gU (beq_iff_eq (a:=i)) ⟨congrArg PyData.str,PyData.str.inj⟩|exact(cT h).elim|exact⟨fun z=>(cT z).elim,fun z=>nomatch z⟩
 | .tuple xs,e=>fun k h=>by cases e<;>first|exact(eqvAll_key xs _ k h).trans ⟨congrArg nU,PyData.tuple.inj⟩|exact(cT h).elim|exact⟨fun z=>(cT z).elim,fun z=>nomatch z⟩
 | .none,_| .bool _,_| .list _,_| .dict _,_=>fun h=>(cT h).elim
theorem eqvAll_key:∀ds es:List aa,keyAll ds=true→keyAll es=true→(n6 ds es=true↔ds=es)
 |[],[]=>fun _ _=>⟨fun _=>rfl,fun _=>rfl⟩
 |[],_:: _=>fun _ _=>⟨fun z=>(cT z).elim,fun z=>nomatch z⟩
 | _:: _,[]=>fun _ _=>⟨fun z=>(cT z).elim,fun z=>nomatch z⟩
 |d::ds,e::es=>fun k h=>have p:=aP.mp k;have q:=aP.mp h;aP.trans
  ⟨fun z=>by rw[(pW d e p.1 q.1).mp z.1,(eqvAll_key ds es p.2 q.2).mp z.2],fun z=>by injection z with a b;exact⟨(pW d e p.1 q.1).mpr a,(eqvAll_key ds es p.2 q.2).mpr b⟩⟩
end
mutual
noncomputable def oj:aa→Nat
 | .tuple xs=>keyDrawsL xs+1
 | _=>1
noncomputable def keyDrawsL:List aa→Nat
 |[]=>0
 |x::xs=>oj x+keyDrawsL xs
end
mutual
noncomputable def keyHash (w:World):aa→Int
 | .int i=>hashInt i
 | .str x=>hashStr w x
 | .tuple xs=>reduceHash (Builtin.Tuple.tupleHashOf (keyHashL w xs))
 | _=>0
noncomputable def keyHashL (w:World):List aa→List Int
 |[]=>[]
 |x::xs=>keyHash w x::keyHashL w xs
end
section
variable {prog:Program}{w:World}{E:Value→Shared→Prop}
mutual
theorem zn:∀(k:aa) (v:Value) (as:List Addr) (A:Around) (s:Shared) (Q:Int→Shared→Prop),gF k=true→Reads s.heap v k as→A.units+k.depth<cLine→
 Q (keyHash w k) {s with toks:=s.toks+oj k}→wpAny (model prog w) A (pyHash v) Q E s
 | .int i,_,_,A,s,Q=>fun _ x _ h=>by cases x;exact wpAny_pyHash_int h
 | .str y,_,_,A,s,Q=>fun _ x _ h=>by cases x;exact wpAny_pyHash_str h
 | .tuple xs,v,_,A,s,Q=>fun hk x hu h=>by
  cases x with
  | @tuple a _ vs _ _ _ hg hc hd hw=>
   refine pyHash_slot (T:="tuple") ⟨_,hg,hc⟩ F.slot_tuple_hash F.entry_tuple_hash (F.args_tuple_hash_1 _) (beq_builtin_none _) (.inr (by omega)) ?_
   refine ag (m:=yS (.ref a)) (wpAny_tupleItemsOf hg hd ?_)
   refine ag ?_
   rw[←Array.forIn_toList]
   refine hashLoopD xs vs.toList _ A.in1 s #[] _ hk hw (by simp only[PyData.depth] at hu;show A.units+1+ _< _;omega) fun b hb=>?_
   show wpAny _ _ (retInt (Builtin.Tuple.tupleHashOf b.toList)) _ _ _
   rw[hb]
   exact ag (wpAny_mkInt (ak ⟨_,_,rfl,h⟩))
 | .none,_,_,_,_,_| .bool _,_,_,_,_,_| .list _,_,_,_,_,_| .dict _,_,_,_,_,_=>fun h=>(cT h).elim
theorem hashLoopD:∀(xs:List aa) (vs:List Value) (as:List Addr) (A:Around) (s:Shared) (b:Array Int) (Q:Array Int→Shared→Prop),keyAll xs=true→ReadsAll s.heap vs xs as→A.units+ml xs<cLine→
 (∀b',b'.toList=b.toList++keyHashL w xs→Q b' {s with toks:=s.toks+keyDrawsL xs})→
 wpAny (model prog w) A (forIn vs b fun x r=>do let h ←pyHash x;pure PUnit.unit;pure (pI (r.push h))) Q E s
 |[],_,_,A,s,b,Q=>fun _ x _ h=>by cases x;exact ak (h b (ck _).symm)
 |k::xs,_,_,A,s,b,Q=>fun hk x hu h=>by
  cases x with
  |cons x1 x2=>
   have q:=aP.mp hk
   simp only[ml] at hu
   rw[List.forIn_cons]
   refine ag (ag (zn k _ _ A s _ q.1 x1 (by omega) ?_))
   refine ag (ak (ak ?_))
   refine hashLoopD xs _ _ A {s with toks:=s.toks+oj k} _ Q q.2 x2 (by omega) fun b' hb=>?_
   have:=h b' (by rw[hb,pG,cz];rfl)
   rwa [show s.toks+keyDrawsL (k::xs)=s.toks+oj k+keyDrawsL xs from(dS ..).symm] at this
end
mutual
theorem pX:∀(k:aa) (n:Nat) (v:Value) (as:List Addr) (A:Around) (s:Shared) (Q:Bool→Shared→Prop),gF k=true→k.depth≤n→Reads s.heap v k as→Q true s→wpAny (model prog w) A (eqIsQuiet n v) Q E s
 | .int i,_,_,_,A,s,Q=>fun _ _ x h=>by cases x;exact wpAny_of_eq (eqIsQuiet_byValue _ rfl) h
 | .str y,_,_,_,A,s,Q=>fun _ _ x h=>by cases x;exact wpAny_of_eq (eqIsQuiet_byValue _ rfl) h
 | .tuple xs,0,v,_,A,s,Q=>fun hk hd x h=>by simp only[PyData.depth] at hd;omega
 | .tuple xs,n+1,v,_,A,s,Q=>fun hk hn x h=>by
  cases x with
  | @tuple a _ vs _ _ _ hg hc hd hw=>
   have hT:s.TypeIs (.ref a) "tuple":=⟨_,hg,hc⟩
   unfold eqIsQuiet
   refine ag (wpAny_specialOf hT F.slot_tuple_eq.lookup ?_)
   refine ag (m:=isInstance (.ref a) (.type "tuple")) (wpAny_isInstance hT isSubtype_tuple_tuple ?_)
   simp only[Bool.not_true,jf,if_false]
   refine ag (wpAny_seqItems hg hd ?_)
   refine ag ?_
   show wpAny _ _ (forIn vs _ _) _ _ s
   rw[←Array.forIn_toList]
   refine quietL xs n vs.toList _ A s _ hk ?_ hw ?_
   ·simp only[PyData.depth] at hn;omega
   ·exact ak h
 | .none,_,_,_,_,_,_| .bool _,_,_,_,_,_,_| .list _,_,_,_,_,_,_| .dict _,_,_,_,_,_,_=>fun h=>(cT h).elim
theorem quietL:∀(xs:List aa) (n:Nat) (vs:List Value) (as:List Addr) (A:Around) (s:Shared) (Q:Option Bool×Unit→Shared→Prop),keyAll xs=true→ml xs≤n→ReadsAll s.heap vs xs as→Q (none,()) s→
 wpAny (model prog w) A (forIn vs ((none,()):Option Bool×Unit) fun x r=>do let b ←eqIsQuiet n x;if (!b)=true then pure (ForInStep.done (some false,())) else pure (pI (none,()))) Q E s
 |[],_,_,_,_,_,_=>fun _ _ x h=>by cases x;exact ak h
 |k::xs,n,_,_,A,s,Q=>fun hk hn x h=>by
  cases x with
  |cons x1 x2=>
   have q:=aP.mp hk
   simp only[ml] at hn
   rw[List.forIn_cons]
   exact ag (ag (pX k n _ _ A s _ q.1 (by omega) x1 (ak (quietL xs n _ _ A s Q q.2 (by omega) x2 h))))
end
end
section
open Classical
def mz (h:Heap)(k:aa)(a:Addr):Prop:=cq k=true∧∃as,Reads h (.ref a) k as
theorem gi {k:aa}(h:cq k=true):gF k=true∧k.depth≤6:=have q:=aP.mp (aP.mp h).1;⟨q.1,of_decide_eq_true q.2⟩
theorem Ht {d e:aa}(h1:gF d=true)(h2:gF e=true):mu d e=decide (d=e):=jU.mpr ((pW d e h1 h2).trans decide_eq_true_iff.symm)
mutual
theorem zo {h h':Heap}{d:Addr}{o:Obj}{es:Array DictEntry}{ep:Nat}(ho:h.get? d=some o)(hd:o.data= .dict es ep)(hs:gv d h h'):∀(k:aa) (v:Value) (as:List Addr),gF k=true→Reads h v k as→Reads h' v k as
 | .int i,_,_=>fun _ x=>by cases x;exact .int _ _
 | .str i,_,_=>fun _ x=>by cases x;exact .str _ _
 | .tuple xs,_,_=>fun hk x=>by
  cases x with
  | @tuple a o' vs _ _ _ hg hc hd' hw=>
   refine .tuple ((hs.2 a ?_).trans hg) hc hd' (readsKeyAll ho hd hs xs _ _ hk hw)
   rintro rfl
   obtain rfl:o'=o:=a8 (hg.symm.trans ho)
   exact nomatch hd.symm.trans hd'
 | .none,_,_| .bool _,_,_| .list _,_,_| .dict _,_,_=>fun h=>(cT h).elim
theorem readsKeyAll {h h':Heap}{d:Addr}{o:Obj}{es:Array DictEntry}{ep:Nat}(ho:h.get? d=some o)(hd:o.data= .dict es ep)(hs:gv d h h'):∀(xs:List aa) (vs:List Value) (as:List Addr),keyAll xs=true→ReadsAll h vs xs as→ReadsAll h' vs xs as
 |[],_,_=>fun _ x=>by cases x;exact .nil
 |k::ks,_,_=>fun hk x=>by
  cases x with
  |cons r1 r2=>have q:=aP.mp hk;exact .cons (zo ho hd hs k _ _ q.1 r1) (readsKeyAll ho hd hs ks _ _ q.2 r2)
end
noncomputable def gj (prog:Program)(w:World):HeapKind prog w aa where
 is:=mz
 hash:=keyHash w
 draws:=oj
 room:=fun A=>A.units+8<cLine
 inj:=fun⟨hk,_,rx⟩ ⟨_,_,ry⟩=>SeqAt.Reads.unique _ _ _ _ _ (oi _ (gi hk).1) rx ry
 keeps:=fun⟨hk,_,rx⟩ ho hd hs=>⟨hk,_,zo ho hd hs _ _ _ (gi hk).1 rx⟩
 pyHash:=fun hu ⟨hk,_,rx⟩ h=>zn _ _ _ _ _ _ (gi hk).1 rx (by have:=(gi hk).2;omega) h
 eqBool:=fun {A E s x y a b Q} hu ⟨hk,_,rx⟩ ⟨hk',_,ry⟩ h=>by
  refine SeqAt.eqAt_reads _ _ _ _ _ _ _ _ rx ry (oi _ (gi hk).1) (oi _ (gi hk').1) (by have:=Nat.min_le_left x.depth y.depth;have:=(gi hk).2;omega) prog w E Q ?_
  rw[Ht (gi hk).1 (gi hk').1]
  exact h
 quiet:=fun⟨hk,_,rx⟩ h=>pX _ 8 _ _ _ _ _ (gi hk).1 (ai (gi hk).2 (by decide)) rx h
end
end Mine
end
section
set_option genInjectivity false
set_option genSizeOf false
open PySem
namespace Mine
abbrev L:=List (Option Slot)
abbrev O:=List Ob
structure R where
 call:Str→List PV→O→(PV→O→Prop)→Prop
 meth:Nat→Str→List PV→O→(PV→O→Prop)→Prop
abbrev EP (α:Type):=R→L→O→(α→L→O→Prop)→Prop
abbrev SP:=R→L→O→(L→O→Prop)→(PV→O→Prop)→Prop
noncomputable def am {α:Type}(o:Option α)(Q:α→Prop):Prop:=match o with
 |some a=>Q a
 |none=>False
noncomputable def mA (o:Option (Option Slot))(Q:Slot→Prop):Prop:=match o with
 |some (some s)=>Q s
 | _=>False
noncomputable def on:Slot→Option Nat
 | .pv p=>zd p
 | _=>none
noncomputable def mB (o:O)(k:Nat)(x:Str):Option Slot:=(o[k]?).bind fun b=>b.at'.lookup x
noncomputable def Hu (o:O)(k:Nat)(x:Str)(s:Slot):Option O:=(o[k]?).bind fun b=>(b.at'.lookup x).map fun _=>o.set k {b with at':=iK b.at' x s}
noncomputable def Br (c:Bool)(a b:Prop):Prop:=if c=true then a else b
noncomputable def pF {α:Type}:EP α:=fun _ _ _ _=>False
noncomputable def Hv:PV→Option Unit
 | .d .none=>some ()
 | _=>none
noncomputable def tt:aa→Option (List aa)
 | .tuple xs=>some xs
 | _=>none
noncomputable def eC (x:aa):EP PV:=fun r l o k=>k (.d x) l o
noncomputable def eP (p:PV):EP PV:=fun r l o k=>k p l o
noncomputable def eV (i:Nat):EP PV:=fun r l o k=>mA l[i]? fun s=>am (still s) fun p=>k p (l.set i (some (.pv p))) o
noncomputable def eD (a:EP PV):EP aa:=fun r l o k=>a r l o fun p l o=>am (j8 p) fun x=>k x l o
noncomputable def eL:List (EP PV)→EP (List aa)
 |[]=>fun r l o k=>k [] l o
 |e::es=>fun r l o k=>eD e r l o fun x l o=>eL es r l o fun xs l o=>k (x::xs) l o
noncomputable def eA:List (EP PV)→EP (List PV)
 |[]=>fun r l o k=>k [] l o
 |e::es=>fun r l o k=>e r l o fun x l o=>eA es r l o fun xs l o=>k (x::xs) l o
noncomputable def ap (es:List (EP PV)):EP PV:=fun r l o k=>eL es r l o fun xs l o=>k (.d (.tuple xs)) l o
noncomputable def bK (es:List (EP PV)):EP PV:=fun r l o k=>eL es r l o fun xs l o=>k (.d (.list xs)) l o
noncomputable def aI (op:Operator)(a b:EP PV):EP PV:=fun r l o k=>eD a r l o fun x l o=>eD b r l o fun y l o=>am (ie op x y) fun z=>k (.d z) l o
noncomputable def tu (a:EP PV):EP PV:=fun r l o k=>a r l o fun p l o=>am (my (.pv p)) fun b=>k (.d (.bool (!b))) l o
noncomputable def dX (a:EP PV):EP PV:=fun r l o k=>eD a r l o fun x l o=>am (Hk x) fun z=>k (.d z) l o
noncomputable def ii (t:EP Bool)(a b:EP PV):EP PV:=fun r l o k=>t r l o fun c l o=>Br c (a r l o k) (b r l o k)
noncomputable def eB (t:EP Bool):EP PV:=fun r l o k=>t r l o fun b l o=>k (.d (.bool b)) l o
noncomputable def c5 (m:EP (List aa)):EP PV:=fun r l o k=>m r l o fun xs l o=>k (.d (.list xs)) l o
noncomputable def tv (a b:EP PV):EP PV:=fun r l o k=>a r l o fun p l o=>am (my (.pv p)) fun c=>Br c (k p l o) (b r l o k)
noncomputable def pY (a b:EP PV):EP PV:=fun r l o k=>a r l o fun p l o=>am (my (.pv p)) fun c=>Br c (b r l o k) (k p l o)
noncomputable def sV (m:EP PV):EP Slot:=fun r l o k=>m r l o fun p l o=>k (.pv p) l o
noncomputable def bT (s:EP Slot):EP PV:=fun r l o k=>s r l o fun s l o=>am (og s) fun n=>k (.d (.int n)) l o
noncomputable def ij (a:EP PV):EP PV:=fun r l o k=>eD a r l o fun x l o=>am (pQ x) fun n=>k (.rg n) l o
noncomputable def fQ (a:EP PV):EP PV:=fun r l o k=>eD a r l o fun x l o=>am (ic x) fun xs=>k (.d (.tuple xs)) l o
noncomputable def oo (a:EP PV):EP PV:=fun r l o k=>eD a r l o fun x l o=>am (ic x) fun xs=>k (.d (.list xs)) l o
noncomputable def pZ (a:EP PV):EP PV:=fun r l o k=>eD a r l o fun x l o=>am (lj x) fun xs=>am (j9 xs) fun ys=>k (.d (.list ys)) l o
noncomputable def kb (a:EP PV):EP PV:=fun r l o k=>a r l o fun p l o=>am (pP p) fun xs=>am (iM xs) fun ys=>k (.d (.list ys)) l o
noncomputable def p3 (a:EP PV):EP PV:=fun r l o k=>eD a r l o fun x l o=>am (lj x) fun xs=>am (ka xs) fun bs=>k (.d (.bool (bs.any id))) l o
noncomputable def tw (a:EP PV):EP PV:=fun r l o k=>eD a r l o fun x l o=>am (lj x) fun xs=>am (ka xs) fun bs=>k (.d (.bool (bs.all id))) l o
noncomputable def aC (f:Str)(args:List (EP PV)):EP PV:=fun r l o k=>eA args r l o fun vs l o=>r.call f vs o fun p o=>k p l o
noncomputable def mC:List (Nat×Str):=[(0,"__init__"),(0,"put"),(1,"__init__"),(1,"force")]
noncomputable def dY (ob:EP PV)(m:Str)(args:List (EP PV)):EP PV:=fun r l o k=>ob r l o fun p l o=>am (zd p) fun i=>am ((o[i]?).map fun b:Ob=>b.cls) fun c=>mC.contains (c,m)=true∧eA args r l o fun vs l o=>r.meth c m (.o i::vs) o fun p o=>k p l o
noncomputable def p4 (c:Nat)(args:List (EP PV)):EP PV:=fun r l o k=>eA args r l o fun vs l o=>r.meth c "__init__" (.o o.length::vs) (o++[{cls:=c,at':=[]}]) fun p o'=>am (Hv p) fun _=>k (.o o.length) l o'
inductive K0 where
 |loc (i:Nat)
 |att (k:Nat) (x:Str)
noncomputable def iP (l:L)(o:O):K0→Option Slot
 | .loc i=>(l[i]?).join
 | .att k x=>mB o k x
noncomputable def zp (l:L)(o:O)(s:Slot):K0→Option (L×O)
 | .loc i=>some (l.set i (some s),o)
 | .att k x=>(Hu o k x s).map fun o=>(l,o)
noncomputable def p5 (l:L)(i:Nat):Option Nat:=(l[i]?).join.bind on
inductive Pl where
 |n (i:Nat)
 |a (i:Nat) (x:Str)
 |b (i:Nat) (y x:Str)
noncomputable def Pl.key (l:L)(o:O):Pl→Option K0
 | .n i=>some (.loc i)
 | .a i x=>(p5 l i).map fun j=>.att j x
 | .b i y x=>(p5 l i).bind fun j=>(mB o j y).bind fun s=>(on s).map fun j=>.att j x
noncomputable def Pl.g (p:Pl):EP Slot:=fun r l o k=>am (p.key l o) fun κ=>am (iP l o κ) fun s=>k s l o
noncomputable def Pl.p (p:Pl)(s:Slot):EP Unit:=fun r l o k=>am (p.key l o) fun κ=>am (zp l o s κ) fun q=>k () q.1 q.2
noncomputable abbrev Hw (i:Nat):Pl:=.n i
noncomputable abbrev plA (i:Nat)(x:Str):Pl:=.a i x
noncomputable abbrev aEO (i:Nat)(y x:Str):Pl:=.b i y x
noncomputable abbrev gL (i:Nat):EP Slot:=(Hw i).g
noncomputable def cB (p:Pl)(e:EP PV):EP PV:=fun r l o k=>p.g r l o fun s l o=>am (lm s) fun _=>e r l o fun v l o=>am (j8 v) fun x=>p.g r l o fun s l o=>am (lm s) fun xs=>xs.length<aH∧p.p (.lst (xs++[x])) r l o fun _ l o=>k (.d .none) l o
noncomputable def p6 (p:Pl)(e:EP PV):EP PV:=fun r l o k=>p.g r l o fun s l o=>am (lm s) fun _=>e r l o fun v l o=>am (j8 v) fun x=>am (lj x) fun ys=>p.g r l o fun s l o=>am (lm s) fun xs=>xs.length+ys.length<aH∧p.p (.lst (xs++ys)) r l o fun _ l o=>k (.d .none) l o
noncomputable def p7 (p:Pl):EP PV:=fun r l o k=>p.g r l o fun s l o=>am (lm s) fun xs=>xs≠[]∧p.p (.lst xs.dropLast) r l o fun _ l o=>k (.d (xs.getLastD .none)) l o
noncomputable def p8 (p:Pl):EP PV:=fun r l o k=>p.g r l o fun s l o=>am (lm s) fun xs=>xs≠[]∧p.p (.lst xs.tail) r l o fun _ l o=>k (.d (xs.headD .none)) l o
noncomputable def oq (p:Pl):EP PV:=fun r l o k=>p.g r l o fun s l o=>am (Hl s) fun p=>k p l o
noncomputable def oN:EP (Option Int):=fun r l o k=>k none l o
noncomputable def oS (a:EP PV):EP (Option Int):=fun r l o k=>eD a r l o fun x l o=>am (cg x) fun i=>k (some i) l o
noncomputable def gk (e:EP PV)(lo hi:EP (Option Int)):EP PV:=fun r l o k=>eD e r l o fun x l o=>lo r l o fun a l o=>hi r l o fun b l o=>am (ll x a b) fun z=>k (.d z) l o
noncomputable def ao (p:Pl)(i:EP PV):EP PV:=fun r l o k=>p.g r l o fun _ l o=>eD i r l o fun x l o=>p.g r l o fun s l o=>am (j3 s x) fun z=>k (.d z) l o
noncomputable def bq (e i:EP PV):EP PV:=fun r l o k=>e r l o fun p l o=>eD i r l o fun x l o=>am (j3 (.pv p) x) fun z=>k (.d z) l o
noncomputable def gG (s:EP Slot):EP Bool:=fun r l o k=>s r l o fun s l o=>am (my s) fun b=>k b l o
noncomputable def dK (a:EP PV)(s:EP Slot):EP Bool:=fun r l o k=>eD a r l o fun x l o=>s r l o fun s l o=>am (dv s x) fun b=>k b l o
noncomputable def mD (a:EP PV)(s:EP Slot):EP Bool:=fun r l o k=>eD a r l o fun x l o=>s r l o fun s l o=>am (dv s x) fun b=>k (!b) l o
noncomputable def av (op:CmpOp)(a b:EP PV):EP Bool:=fun r l o k=>eD a r l o fun x l o=>eD b r l o fun y l o=>am (dg op x y) fun b=>k b l o
noncomputable def mE (t:EP Bool):EP Bool:=fun r l o k=>t r l o fun b l o=>k (!b) l o
noncomputable def dz (a b:EP Bool):EP Bool:=fun r l o k=>a r l o fun c l o=>Br c (b r l o k) (k false l o)
noncomputable def fk (a b:EP Bool):EP Bool:=fun r l o k=>a r l o fun c l o=>Br c (k true l o) (b r l o k)
abbrev TP:=aa→EP Unit
noncomputable def ay (i:Nat):TP:=fun x r l o k=>k () (l.set i (some (.pv (.d x)))) o
noncomputable def mF:List Nat→List aa→L→Option L
 |[],[]=>fun l=>some l
 |i::is,d::ds=>fun l=>mF is ds (l.set i (some (.pv (.d d))))
 | _,_=>fun _=>none
noncomputable def cJ (is:List Nat):TP:=fun x r l o k=>am (tt x) fun ds=>am (mF is ds l) fun l=>k () l o
noncomputable def sN:SP:=fun r l o n t=>n l o
noncomputable def sX:SP:=fun r l o n t=>False
noncomputable def sS (a b:SP):SP:=fun r l o n t=>a r l o (fun l o=>b r l o n t) t
noncomputable def sE (e:EP PV):SP:=fun r l o n t=>e r l o fun p l o=>n l o
noncomputable def sR (e:EP PV):SP:=fun r l o n t=>e r l o fun p l o=>t p o
noncomputable def sA (i:Nat)(e:EP Slot):SP:=fun r l o n t=>e r l o fun s l o=>n (l.set i (some s)) o
noncomputable def gH (as:TP)(e:EP PV):SP:=fun r l o n t=>eD e r l o fun x l o=>as x r l o fun _ l o=>n l o
noncomputable def ik (p:Pl)(i v:EP PV):SP:=fun r l o n t=>eD v r l o fun v l o=>p.g r l o fun _ l o=>eD i r l o fun k l o=>p.g r l o fun s l o=>am (iJ s k v) fun s'=>p.p s' r l o fun _ l o=>n l o
noncomputable def sI (c:EP Bool)(a b:SP):SP:=fun r l o n t=>c r l o fun c l o=>Br c (a r l o n t) (b r l o n t)
noncomputable def ba (as:TP)(b:SP)(r:R)(n:L→O→Prop)(t:PV→O→Prop):List aa→L→O→Prop
 |[],l,o=>n l o
 |x::xs,l,o=>as x r l o fun _ l o=>b r l o (ba as b r n t xs) t
noncomputable def sF (as:TP)(e:EP PV)(b:SP):SP:=fun r l o n t=>e r l o fun p l o=>am (gh p) fun xs=>ba as b r n t xs l o
noncomputable def kh (c:EP Bool)(b:SP)(r:R)(n:L→O→Prop)(t:PV→O→Prop):Nat→L→O→Prop
 |0,l,o=>False
 |m+1,l,o=>c r l o fun d l o=>Br d (b r l o (kh c b r n t m) t) (n l o)
noncomputable def sW (c:EP Bool)(b:SP):SP:=fun r l o n t=>∃m,kh c b r n t m l o
noncomputable def fL (es:List (EP PV)):EP Slot:=fun r l o k=>eL es r l o fun xs l o=>k (.lst xs) l o
noncomputable def ki:EP Slot:=fun r l o k=>k (.dct []) l o
noncomputable def fR (m:EP (List aa)):EP Slot:=fun r l o k=>m r l o fun xs l o=>k (.lst xs) l o
noncomputable def tx (a:EP PV):EP Slot:=fun r l o k=>eD a r l o fun x l o=>am (ic x) fun xs=>k (.lst xs) l o
noncomputable def tz (i:Nat)(a:EP PV):SP:=fun r l o n t=>eD (eV i) r l o fun x l o=>eD a r l o fun y l o=>am (cg x) fun x=>am (cg y) fun y=>n (l.set i (some (.pv (.d (.int (x+y)))))) o
noncomputable def p9 (i j:Nat)(a:EP PV):SP:=fun r l o n t=>eD a r l o fun x l o=>am (tt x) fun ds=>am (mF [j,i] ds.reverse l) fun l=>n l o
noncomputable def tA (o:O)(j:Nat)(x:Str)(s:Slot):Option O:=(o[j]?).bind fun b=>if (b.at'.lookup x).isNone=true∧b.at'.length<60 then some (o.set j {b with at':=b.at'++[(x,s)]}) else none
noncomputable def eY (i:Nat)(x:Str)(f:EP Slot):SP:=fun r l o n t=>f r l o fun s l o=>am (p5 l i) fun j=>am (tA o j x s) fun o=>n l o
noncomputable def cQ (f:List aa→aa→EP (List aa))(r:R)(k:List aa→L→O→Prop):List aa→List aa→L→O→Prop
 |acc,[],l,o=>k acc l o
 |acc,x::xs,l,o=>f acc x r l o fun acc l o=>cQ f r k acc xs l o
noncomputable def bf (as:TP)(c:EP Bool)(e:EP PV)(items acc:List aa):EP (List aa):=fun r l o k=>
 cQ (fun acc x r l o k=>as x r l o fun _ l o=>c r l o fun c l o=>Br c (eD e r l o fun v l o=>acc.length<aH∧k (acc++[v]) l o) (k acc l o)) r k acc items l o
noncomputable def tB (as:TP)(c:EP Bool)(it:EP PV)(g:List aa→List aa→EP (List aa))(items acc:List aa):EP (List aa):=fun r l o k=>
 cQ (fun acc x r l o k=>as x r l o fun _ l o=>c r l o fun c l o=>Br c (it r l o fun p l o=>am (gh p) fun xs=>g xs acc r l o k) (k acc l o)) r k acc items l o
noncomputable def tT:EP Bool:=fun r l o k=>k true l o
noncomputable def bA (nl nts:Nat)(it:EP PV)(g:List aa→List aa→EP (List aa)):EP (List aa):=fun r l o k=>
 it r l o fun p l o=>am (gh p) fun xs=>l.length=nl∧g xs [] r (l++lb nts none) o fun acc l o=>k acc (l.take nl) o
end Mine
end
section
open PySem
namespace Mine
noncomputable def ot:List Str:=[ac "str_type",ac "num_type",ac "array_type",ac "last_mark",ac "needed_to_last",ac "one_rest",ac "tuple_type",ac "new_param",ac "parts_of",ac "whole_of_row",ac "regular_twin",ac "join_bools",ac "stays_beside",ac "top_of",ac "union",ac "add_undef",ac "index_kids",ac "sig_kids",ac "object_kids",ac "row_kids",ac "row_binds",ac "inner_kids",ac "reached",ac "free_params",ac "has_params",ac "is_open",ac "has_spread",ac "kindsplice_spread_kind",ac "union_places",ac "kindsplice_list_part",ac "cut_open",ac "splice_union",ac "splice",ac "_law_join",ac "_law_settled",ac "_law_choices",ac "_law_forms",ac "_law_atoms",ac "_law_elems",ac "_law_seen",ac "_law_kinds",ac "_law_list",ac "_law_joined",ac "_law_met",ac "_law_single",ac "_law_element",ac "_law_lost",ac "_law_whole",ac "_law_parted",ac "_law_pieces",ac "law"]
noncomputable def mG:List Str:=[ac "rows",ac "index",ac "decls",ac "bounds",ac "defaults",ac "names",ac "origins",ac "renamed",ac "shaping",ac "putting",ac "tab",ac "deep",ac "most_rounds",ac "most_deep",ac "lib"]
noncomputable def qa:List (Str×Nat):=[(ac "TypeTable",0),(ac "Thin",1)]
noncomputable def mH:PV:=(.d (.tuple [(.tuple [(.int (1)),(.str (ac "any"))]),(.tuple [(.int (1)),(.str (ac "unknown"))]),(.tuple [(.int (1)),(.str (ac "never"))]),(.tuple [(.int (1)),(.str (ac "void"))]),(.tuple [(.int (1)),(.str (ac "undefined"))]),(.tuple [(.int (1)),(.str (ac "null"))]),(.tuple [(.int (1)),(.str (ac "string"))]),(.tuple [(.int (1)),(.str (ac "number"))]),(.tuple [(.int (2)),(.int (0)),(.int (0))]),(.tuple [(.int (2)),(.int (1)),(.int (0))]),(.tuple [(.int (1)),(.str (ac "object"))]),(.tuple [(.int (8)),(.tuple []),(.tuple []),(.tuple []),(.tuple []),(.tuple []),(.int (0))]),(.tuple [(.int (6)),(.tuple [(.int (8)),(.int (9))])]),(.tuple [(.int (1)),(.str (ac "error"))]),(.tuple [(.int (2)),(.int (0)),(.int (1))]),(.tuple [(.int (2)),(.int (1)),(.int (1))])]))
noncomputable def tD:PV:=(.d (.tuple [(.int (2)),(.int (3)),(.int (4)),(.int (5)),(.int (8))]))
noncomputable def qb:PV:=(.kd [(11,(.tuple [(.int (1)),(.int (2))])),(14,(.tuple [(.int (1)),(.int (2))])),(15,(.tuple [(.int (1)),(.int (3))])),(16,(.tuple [(.int (1)),(.int (5))])),(17,(.tuple [(.int (2)),(.int (5))]))])
noncomputable def tF:PV:=(.d (.tuple [(.int (10)),(.int (14)),(.int (15)),(.int (16)),(.int (17)),(.int (19))]))
noncomputable def qc:List (Str×PV):=[(ac "Y_KEY",.d (.int (1))),(ac "Y_BOOL",.d (.int (2))),(ac "Y_STR",.d (.int (3))),(ac "Y_NUM",.d (.int (4))),(ac "Y_ENUM",.d (.int (5))),(ac "Y_UNION",.d (.int (6))),(ac "Y_INTER",.d (.int (7))),(ac "Y_OBJ",.d (.int (8))),(ac "Y_REF",.d (.int (9))),(ac "Y_PARAM",.d (.int (10))),(ac "Y_ARRAY",.d (.int (11))),(ac "Y_TUPLE",.d (.int (12))),(ac "Y_SIG",.d (.int (13))),(ac "Y_KEYOF",.d (.int (14))),(ac "Y_INDEX",.d (.int (15))),(ac "Y_COND",.d (.int (16))),(ac "Y_MAPPED",.d (.int (17))),(ac "Y_TPL",.d (.int (18))),(ac "Y_ALIAS",.d (.int (19))),(ac "ANY",.d (.int (0))),(ac "UNKNOWN",.d (.int (1))),(ac "NEVER",.d (.int (2))),(ac "UNDEF",.d (.int (4))),(ac "STRING",.d (.int (6))),(ac "NUMBER",.d (.int (7))),(ac "FALSE_T",.d (.int (8))),(ac "TRUE_T",.d (.int (9))),(ac "ERR",.d (.int (13))),(ac "FRESH_F",.d (.int (14))),(ac "FRESH_T",.d (.int (15))),(ac "E_NEED",.d (.int (0))),(ac "E_OPT",.d (.int (1))),(ac "E_REST",.d (.int (2))),(ac "E_SPREAD",.d (.int (3))),(ac "MAX_UNION",.d (.int (400))),(ac "FIRST_ROWS",mH),(ac "MARKED_ROWS",tD),(ac "KID_SPANS",qb),(ac "OPEN_KINDS",tF),(ac "MOST_ELEMS",.d (.int (10000))),(ac "MOST_ROUNDS",.d (.int (200))),(ac "MOST_SHAPES",.d (.int (40)))]
end Mine
end
section
set_option genInjectivity false
set_option genSizeOf false
open PySem PySem.W PyProof.Rows
namespace Mine
inductive b7 where
 |loc (d i:Nat)
 |att (k:Nat) (x:Str)
inductive b8 where
 |free
 |frz (o:Obj)
 |inst (k:Nat) (o:Obj)
 |own (κ:b7)
 |odict (k:Nat)
 |stor (r:Nat)
 |acc (r:Nat)
 |hold
abbrev RM:=Addr→b8
inductive At (ρ P:Addr→Obj→Prop)(v:Value):Prop
 |mk (a:Addr) (o:Obj) (e:v= .ref a) (f:ρ a o) (p:P a o)
theorem At.elim {ρ P:Addr→Obj→Prop}{v:Value}{Q:Prop}(h:At ρ P v)(k:∀(a:Addr) (o:Obj),v= .ref a→ρ a o→P a o→Q):Q:=h.casesOn k
theorem At.map {ρ P ρ' P':Addr→Obj→Prop}{v:Value}(h:At ρ P v)(f:∀a o,ρ a o→ρ' a o)(p:∀a o,P a o→P' a o):At ρ' P' v:=h.elim fun a o e x y=>⟨a,o,e,f a o x,p a o y⟩
inductive gY (T:String)(P:List Value→Prop)(a:Addr)(o:Obj):Prop
 |mk (vs:List Value) (n:Nat) (c:o.cls= .type T) (d:o.data= .seq vs.toArray n) (z:vs.length≤dJ) (r:P vs)
theorem gY.elim {T:String}{P:List Value→Prop}{a:Addr}{o:Obj}{Q:Prop}(h:gY T P a o)(k:∀(vs:List Value) (n:Nat),o.cls= .type T→o.data= .seq vs.toArray n→vs.length≤dJ→P vs→Q):Q:=h.casesOn k
theorem gY.map {T:String}{P P':List Value→Prop}{a:Addr}{o:Obj}(k:∀vs,P vs→P' vs)(h:gY T P a o):gY T P' a o:=h.elim fun vs n c d z r=>⟨vs,n,c,d,z,k vs r⟩
noncomputable def gZ (vs:List Value)(n:Nat):Obj:={cls:=.type "list",data:=.seq vs.toArray n}
inductive gJ (P:List Value→Prop)(a:Addr)(o:Obj):Prop
 |mk (vs:List Value) (n:Nat) (e:o=gZ vs n) (z:vs.length≤dJ) (r:P vs)
theorem gJ.elim {P:List Value→Prop}{a:Addr}{o:Obj}{Q:Prop}(h:gJ P a o)(k:∀(vs:List Value) (n:Nat),o=gZ vs n→vs.length≤dJ→P vs→Q):Q:=h.casesOn k
theorem gJ.seq {P:List Value→Prop}{a:Addr}{o:Obj}(h:gJ P a o):gY "list" P a o:=h.elim fun vs n e z r=>⟨vs,n,e▸rfl,e▸rfl,z,r⟩
theorem gJ.map {P P':List Value→Prop}{a:Addr}{o:Obj}(k:∀vs,P vs→P' vs)(h:gJ P a o):gJ P' a o:=h.elim fun vs n e z r=>⟨vs,n,e,z,k vs r⟩
noncomputable def Fz (γ:RM)(a:Addr)(o:Obj):Prop:=γ a= .frz o
mutual
noncomputable def Rd (γ:RM):aa→Value→Prop
 | .none=>fun v=>v= .none
 | .bool b=>fun v=>v= .bool b
 | .int i=>fun v=>∃t,v= .int i t
 | .str x=>fun v=>∃t,v= .str x t
 | .list xs=>At (Fz γ) (gY "list" (RdL γ xs))
 | .tuple xs=>At (Fz γ) (gY "tuple" (RdL γ xs))
 | .dict _=>fun _=>False
noncomputable def RdL (γ:RM):List aa→List Value→Prop
 |[]=>fun vs=>vs=[]
 |x::xs=>fun vs=>∃v ws,vs=v::ws∧Rd γ x v∧RdL γ xs ws
end
noncomputable def iQ (γ γ':RM):Prop:=∀a o,γ a= .frz o→γ' a= .frz o
mutual
theorem Rd.mono {γ γ':RM}(l:iQ γ γ'):∀(d:aa) (v:Value),Rd γ d v→Rd γ' d v
 | .none=>fun _ h=>h
 | .bool _=>fun _ h=>h
 | .int _=>fun _ h=>h
 | .str _=>fun _ h=>h
 | .list xs=>fun _ h=>h.map l fun _ _=>gY.map (RdL.mono l xs)
 | .tuple xs=>fun _ h=>h.map l fun _ _=>gY.map (RdL.mono l xs)
 | .dict _=>fun _ h=>h
theorem RdL.mono {γ γ':RM}(l:iQ γ γ'):∀(ds:List aa) (vs:List Value),RdL γ ds vs→RdL γ' ds vs
 |[]=>fun _ h=>h
 |x::xs=>fun _ ⟨v,ws,e,h⟩=>⟨v,ws,e,Rd.mono l x v h.1,RdL.mono l xs ws h.2⟩
end
noncomputable def b9 (γ:RM)(h:Heap):Prop:=∀a o,γ a= .frz o→h.get? a=some o
mutual
theorem Rd.reads {γ:RM}{h:Heap}(x:b9 γ h):∀(d:aa) (v:Value),Rd γ d v→∃as,Reads h v d as
 | .none=>fun _ e=>e▸⟨_,.none⟩
 | .bool b=>fun _ e=>e▸⟨_,.bool b⟩
 | .int i=>fun _ ⟨t,e⟩=>e▸⟨_,.int i t⟩
 | .str y=>fun _ ⟨t,e⟩=>e▸⟨_,.str y t⟩
 | .list xs=>fun _ h=>h.elim fun a o e f p=>p.elim fun vs n c d z r=>e▸(RdL.reads x xs _ r).elim fun _ r=>⟨_,.list (x _ _ f) c d r⟩
 | .tuple xs=>fun _ h=>h.elim fun a o e f p=>p.elim fun vs n c d z r=>e▸(RdL.reads x xs _ r).elim fun _ r=>⟨_,.tuple (x _ _ f) c d r⟩
 | .dict _=>fun _ h=>h.elim
theorem RdL.reads {γ:RM}{h:Heap}(x:b9 γ h):∀(ds:List aa) (vs:List Value),RdL γ ds vs→∃as,ReadsAll h vs ds as
 |[]=>fun _ e=>e▸⟨_,.nil⟩
 |y::ys=>fun _ ⟨v,ws,e,h⟩=>e▸(Rd.reads x y v h.1).elim fun _ r=>(RdL.reads x ys ws h.2).elim fun _ q=>⟨_,.cons r q⟩
end
section
variable {γ:RM}
theorem RdL.length:∀(ds:List aa) (vs:List Value),RdL γ ds vs→vs.length=ds.length
 |[]=>fun _ e=>e▸rfl
 | _::xs=>fun _ ⟨_,_,e,h⟩=>e▸congrArg (·+1) (RdL.length xs _ h.2)
theorem RdL.append:∀(ds:List aa) {vs ws:List Value} {es:List aa},RdL γ ds vs→RdL γ es ws→RdL γ (ds++es) (vs++ws)
 |[]=>fun e k=>(show _=[] from e)▸k
 | _::xs=>fun⟨v,us,e,h⟩ k=>e▸⟨v,us++ _,rfl,h.1,RdL.append xs h.2 k⟩
theorem RdL.get:∀(ds:List aa) (vs:List Value) {k:Nat} {d:aa},RdL γ ds vs→ds[k]? =some d→∃v,vs[k]? =some v∧Rd γ d v
 |[],_,_,_=>fun _ e=>nomatch e
 | _:: _,_,0,_=>fun⟨v,_,e,h⟩ q=>a8 q▸⟨v,e▸rfl,h.1⟩
 | _::xs,_,k+1,_=>fun⟨_,ws,e,h⟩ q=>e▸RdL.get xs ws (k:=k) h.2 q
theorem RdL.get':∀(ds:List aa) (vs:List Value) {k:Nat} {v:Value},RdL γ ds vs→vs[k]? =some v→∃d,ds[k]? =some d∧Rd γ d v
 |[],_,_,_=>fun e q=>by subst e;cases q
 |d:: _,_,0,_=>fun⟨_,_,e,h⟩ q=>⟨d,rfl,a8 (e▸q)▸h.1⟩
 | _::xs,_,k+1,_=>fun⟨_,ws,e,h⟩ q=>RdL.get' xs ws (k:=k) h.2 (by subst e;exact q)
theorem RdL.take:∀(n:Nat) (ds:List aa) (vs:List Value),RdL γ ds vs→RdL γ (ds.take n) (vs.take n)
 |0,_,_=>fun _=>rfl
 |n+1,[],_=>fun e=>(show _=[] from e)▸rfl
 |n+1,_::xs,_=>fun⟨v,ws,e,h⟩=>e▸⟨v,ws.take n,rfl,h.1,RdL.take n xs ws h.2⟩
theorem RdL.drop:∀(n:Nat) (ds:List aa) (vs:List Value),RdL γ ds vs→RdL γ (ds.drop n) (vs.drop n)
 |0,_,_=>fun h=>h
 |n+1,[],_=>fun e=>(show _=[] from e)▸rfl
 |n+1,_::xs,_=>fun⟨_,ws,e,h⟩=>e▸RdL.drop n xs ws h.2
end
structure Cx where
 names:List (Str×gf)
 ix:List (Str×Nat)
 nl:Nat
structure CI where
 ad:Nat→Addr
 ok:Nat→Str→Prop
structure Bs where
 prog:Program
 w:World
 CA:CI
 hT:Heap
abbrev Bs.m (Z:Bs):Model:=model Z.prog Z.w
structure Fr where
 A:Around
 env:Env
 c:Cx
 d:Nat
 r:Nat
structure Gh where
 γ:RM
 val:b7→Option Value
 da:Nat→Addr
noncomputable def fS (d:Nat)(l:L)(o:O):b7→Option Slot
 | .loc e i=>if e=d then (l[i]?).join else none
 | .att k x=>mB o k x
inductive zq (Z:Bs)(o:Obj)(kvs:List (Int×Value)):Prop
 |mk (es:Array DictEntry) (ep:Nat) (e:o.ExactDict) (d:o.data= .dict es ep) (k:KeysOf (bR Z.prog Z.w) es) (p:Pairs (bR Z.prog Z.w) es.toList kvs) (n:(kvs.map (·.1)).Nodup)
noncomputable def dA (γ:RM)(kvs:List (Int×aa))(us:List (Int×Value)):Prop:=us.map (·.1)=kvs.map (·.1)∧RdL γ (kvs.map (·.2)) (us.map (·.2))
inductive gm (Z:Bs)(γ:RM)(kvs:List (Int×aa))(a:Addr)(o:Obj):Prop
 |mk (us:List (Int×Value)) (s:a≠jV) (d:zq Z o us) (r:dA γ kvs us)
theorem gm.elim {Z:Bs}{γ:RM}{kvs:List (Int×aa)}{a:Addr}{o:Obj}{Q:Prop}(h:gm Z γ kvs a o)(k:∀(us:List (Int×Value)),a≠jV→zq Z o us→dA γ kvs us→Q):Q:=h.casesOn k
noncomputable def Hx (o:Obj)(n:Nat):Prop:=n≤aH∧∃t u v,o={cls:=.type "range",dict:=none,data:=.fields #[.int 0 t,.int n u,.int 1 v],slots:=#[]}
noncomputable def bL (Z:Bs)(γ:RM):PV→Value→Prop
 | .d x=>Rd γ x
 | .o k=>At (fun a o=>γ a= .inst k o) fun _ _=>True
 | .kd kvs=>At (Fz γ) (gm Z γ kvs)
 | .rg n=>At (Fz γ) fun _ o=>Hx o n
noncomputable def bU (γ:RM):List (aa×Int)→List (aa×Addr×Value)→Prop
 |[]=>fun xs=>xs=[]
 |p::kvs=>fun xs=>∃a t ys,xs=(p.1,a,.int p.2 t)::ys∧cq p.1=true∧Rd γ p.1 (.ref a)∧bU γ kvs ys
section
open Classical
inductive lq (Z:Bs)(γ:RM)(kvs:List (aa×Int))(a:Addr)(o:Obj):Prop
 |mk (xs:List (aa×Addr×Value)) (s:a≠jV) (es:Array DictEntry) (ep:Nat) (e:o.ExactDict) (d:o.data= .dict es ep) (k:es.toList=xs.map (entryOfKey (gj Z.prog Z.w))) (n:(xs.map (·.1)).Nodup) (r:bU γ kvs xs)
end
theorem bU.mono {γ γ':RM}(l:iQ γ γ'):∀kvs xs,bU γ kvs xs→bU γ' kvs xs
 |[]=>fun _ h=>h
 |p::kvs=>fun xs ⟨a,t,ys,e,h⟩=>⟨a,t,ys,e,h.1,Rd.mono l _ _ h.2.1,bU.mono l kvs ys h.2.2⟩
theorem lq.mono {Z:Bs}{γ γ':RM}(l:iQ γ γ'){kvs:List (aa×Int)}(a:Addr)(o:Obj)(h:lq Z γ kvs a o):lq Z γ' kvs a o:=h.casesOn fun xs s es ep e d k n r=>⟨xs,s,es,ep,e,d,k,n,r.mono l⟩
def Ow (γ:RM)(h:Heap)(ρ:b8)(a:Addr)(o:Obj):Prop:=γ a=ρ∧h.get? a=some o
noncomputable def bj (Z:Bs)(γ:RM)(h:Heap)(ρ:b8):Slot→Value→Prop
 | .pv p=>bL Z γ p
 | .lst xs=>At (Ow γ h ρ) (gJ (RdL γ xs))
 | .dct kvs=>At (Ow γ h ρ) (gm Z γ kvs)
 | .tdct kvs=>At (Ow γ h ρ) (lq Z γ kvs)
theorem gm.mono {Z:Bs}{γ γ':RM}(l:iQ γ γ'){kvs}(a o)(h:gm Z γ kvs a o):gm Z γ' kvs a o:=h.elim fun us s d r=>⟨us,s,d,r.1,RdL.mono l _ _ r.2⟩
structure js (γ γ':RM):Prop where
 f:iQ γ γ'
 i:∀k a o,γ a= .inst k o→γ' a= .inst k o
theorem bL.mono {Z:Bs}{γ γ':RM}(l:js γ γ'):∀(p:PV) {v:Value},bL Z γ p v→bL Z γ' p v
 | .d x,v=>Rd.mono l.f x v
 | .o k,v=>fun h=>h.map (l.i k) fun _ _ h=>h
 | .kd kvs,v=>fun h=>h.map l.f (gm.mono l.f)
 | .rg n,v=>fun h=>h.map l.f fun _ _ h=>h
theorem bj.mono {Z:Bs}{γ γ':RM}{h h':Heap}{ρ ρ':b8}(l:js γ γ')(hk:∀a o,Ow γ h ρ a o→Ow γ' h' ρ' a o):∀(s:Slot) {v:Value},bj Z γ h ρ s v→bj Z γ' h' ρ' s v
 | .pv p,v=>bL.mono l p
 | .lst xs,v=>fun h=>h.map hk fun _ _=>gJ.map (RdL.mono l.f xs)
 | .dct kvs,v=>fun h=>h.map hk (gm.mono l.f)
 | .tdct kvs,v=>fun h=>h.map hk (lq.mono l.f)
structure mI (F:Fr)(g:Gh)(h:Heap):Prop where
 m:∃m,h.Ns F.env.locals m∧∀x i,F.c.ix.lookup x=some i→F.env.kindOf x=some .local→m x=g.val (.loc F.d i)
 mr:g.γ F.env.locals= .stor F.r
 cell:∀x i,F.c.ix.lookup x=some i→F.env.kindOf x≠some .local→∃c r,(r=F.r∨(r<F.r∧F.c.names.lookup x=some .free))∧(F.env.kindOf x=some .cell∨F.env.kindOf x=some .free)∧F.env.cells.lookup x=some c∧g.γ c= .stor r∧h.IsCell c (g.val (.loc F.d i))
noncomputable def kj (h:Heap)(a:Addr)(m:Str→Option Value)(z:Nat):Prop:=
 ∃o es ep,h.get? a=some o∧o.data= .dict es ep∧StrKeys es∧(∀name,nsFind es name=m name)∧es.size≤z
structure km (Z:Bs)(g:Gh)(o:O)(h:Heap)(k:Nat)(ob:Obj)(b:Ob):Prop where
 e:o[k]? =some b
 i:ob=instObj (Z.CA.ad b.cls) (g.da k)
 r:g.γ (g.da k)= .odict k
 m:kj h (g.da k) (fun x=>g.val (.att k x)) b.at'.length
 u:∀x,b.at'.lookup x=none→g.val (.att k x)=none
 c:∀x s,b.at'.lookup x=some s→Z.CA.ok b.cls x
structure SR (Z:Bs)(F:Fr)(g:Gh)(l:L)(o:O)(h:Heap):Prop where
 frz:b9 g.γ h
 ist:∀k a ob,g.γ a= .inst k ob→h.get? a=some ob∧∃b,km Z g o h k ob b
 top:∀a ob,Z.hT.get? a=some ob→g.γ a= .frz ob
 live:∀a,g.γ a≠ .free→∃ob,h.get? a=some ob
 sto:mI F g h
 slot:∀κ s,fS F.d l o κ=some s→∃v,g.val κ=some v∧bj Z g.γ h (.own κ) s v
 nov:∀(k:Nat) x,o[k]? =none→g.val (.att k x)=none
noncomputable def qd (κ:b7):b8→Prop
 | .free=>False
 | .hold=>False
 | .acc _=>False
 | .stor _=>False
 | .own κ'=>κ'≠κ
 | _=>True
noncomputable def gn (d a b:Nat):b8→Prop
 | .free=>False
 | .frz _=>True
 | .inst _ _=>True
 | .own (.loc e _)=>e<d
 | .own (.att _ _)=>False
 | .odict _=>False
 | .stor r=>r<a
 | .acc r=>r<b
 | .hold=>True
noncomputable def kq (d m:Nat):b7→Prop
 | .loc e i=>e<d∨(e=d∧i<m)
 | .att _ _=>True
noncomputable def jt (u u':Option Value):b7→Prop
 | .loc _ _=>u'=u
 | .att _ _=>∀v,u=some v→u'=some v
theorem jt.of {u u':Option Value}(h:u'=u):∀κ,jt u u' κ
 | .loc _ _=>h
 | .att _ _=>fun _ e=>h.trans e
theorem jt.get {u u':Option Value}{v:Value}(e:u=some v):∀{κ},jt u u' κ→u'=some v
 | .loc _ _=>fun h=>(show u'=u from h).trans e
 | .att _ _=>fun h=>h v e
theorem jt.trans {u u' u'':Option Value}:∀{κ},jt u u' κ→jt u' u'' κ→jt u u'' κ
 | .loc _ _=>fun h k=>(show u''=u' from k).trans h
 | .att _ _=>fun h k v e=>k v (h v e)
structure Le (d a b m:Nat)(g:Gh)(s:Shared)(g':Gh)(s':Shared):Prop where
 rest:s'.gens=s.gens∧s'.os=s.os
 role:∀x ρ,g.γ x=ρ→gn d a b ρ→g'.γ x=ρ∧s'.heap.get? x=s.heap.get? x
 val:∀κ,kq d m κ→jt (g.val κ) (g'.val κ) κ
section
variable {Z:Bs}{F:Fr}{g g' g'':Gh}{l l':L}{o o':O}{h h':Heap}{s s' s'':Shared}{d a b m d' a' b' m':Nat}
theorem Le.refl:Le d a b m g s g s:=⟨⟨rfl,rfl⟩,fun _ _ e _=>⟨e,rfl⟩,fun κ _=>.of rfl κ⟩
theorem Le.trans (x:Le d a b m g s g' s')(y:Le d a b m g' s' g'' s''):Le d a b m g s g'' s'':=
 ⟨⟨y.rest.1.trans x.rest.1,y.rest.2.trans x.rest.2⟩,fun z ρ e k=>have p:=x.role z ρ e k;have q:=y.role z ρ p.1 k;⟨q.1,q.2.trans p.2⟩,fun κ k=>(x.val κ k).trans (y.val κ k)⟩
theorem Le.vs (x:Le d a b m g s g' s'){κ:b7}{v:Value}(k:kq d m κ)(e:g.val κ=some v):g'.val κ=some v:=(x.val κ k).get e
theorem tG (hd:d'≤d)(ha:a'≤a)(hb:b'≤b):∀ρ,gn d' a' b' ρ→gn d a b ρ
 | .free=>id
 | .frz _=>id
 | .inst _ _=>id
 | .own (.loc _ _)=>fun k=>fc k hd
 | .own (.att _ _)=>id
 | .odict _=>id
 | .stor _=>fun k=>fc k ha
 | .acc _=>fun k=>fc k hb
 | .hold=>id
theorem Le.ro (x:Le d a b m g s g' s'):js g.γ g'.γ:=⟨fun z o e=>(x.role z _ e trivial).1,fun k z o e=>(x.role z _ e trivial).1⟩
theorem SR.set (S:SR Z F g l o h)(κ:b7)(K:∀x ρ,g.γ x=ρ→qd κ ρ→g'.γ x=ρ∧h'.get? x=h.get? x)
 (I:b9 g'.γ h') (L:∀a,g'.γ a≠ .free→∃ob,h'.get? a=some ob) (st:mI F g' h') (ob:∀k a ob,g'.γ a= .inst k ob→h'.get? a=some ob∧∃b,km Z g' o' h' k ob b)
 (sl:∀κ' s,κ'≠κ→fS F.d l' o' κ'=some s→fS F.d l o κ'=some s∧g'.val κ'=g.val κ') (nv:∀(k:Nat) x,o'[k]? =none→g'.val (.att k x)=none) (sκ:∀s,fS F.d l' o' κ=some s→∃v,g'.val κ=some v∧bj Z g'.γ h' (.own κ) s v):SR Z F g' l' o' h' where
 frz:=I
 ist:=ob
 top:=fun a ob e=>(K a _ (S.top a ob e) trivial).1
 live:=L
 sto:=st
 slot:=fun κ' s e=>(gC (κ'=κ)).elim (fun z=>z▸sκ s (z▸e)) fun z=>
  (S.slot κ' s (sl κ' s z e).1).elim fun v p=>⟨v,(sl κ' s z e).2.trans p.1,p.2.mono ⟨fun x o e=>(K x _ e trivial).1,fun k x o e=>(K x _ e trivial).1⟩
   fun x o e=>have q:=K x (.own κ') e.1 z;⟨q.1,q.2.trans e.2⟩⟩
 nov:=nv
end
noncomputable def d7 (n:Nat):b8→Prop
 | .free=>False
 | .hold=>False
 | .acc _=>False
 | .stor q=>q≤n
 | _=>True
theorem zr {κ:b7}{n:Nat}:∀ρ,qd κ ρ→d7 n ρ
 | .free=>id
 | .hold=>id
 | .acc _=>id
 | .stor _=>False.elim
 | .own _=>fun _=>trivial
 | .frz _=>id
 | .inst _ _=>id
 | .odict _=>id
noncomputable def eZ (γ:RM)(a:Addr)(r:b8):RM:=fun b=>if b=a then r else γ b
theorem dL {γ:RM}{a:Addr}{r:b8}:eZ γ a r a=r:=if_pos rfl
theorem cV {γ:RM}{a b:Addr}{r:b8}(h:b≠a):eZ γ a r b=γ b:=if_neg h
section
variable {Z:Bs}{F:Fr}{g g' g₀:Gh}{l l':L}{o o':O}{h h':Heap}{s s' s₀:Shared}{d a b m d' a' b' m':Nat}{γ':RM}
theorem mI.keep (S:mI F g h)(K:∀x r,r≤F.r→g.γ x= .stor r→γ' x= .stor r∧h'.get? x=h.get? x):mI F {g with γ:=γ'} h' where
 m:=S.m.elim fun m p=>⟨m,p.1.elim fun o q=>q.elim fun es q=>q.elim fun ep q=>⟨o,es,ep,(K _ _ (aT _) S.mr).2.trans q.1,q.2⟩,p.2⟩
 mr:=(K _ _ (aT _) S.mr).1
 cell:=fun x i e n=>(S.cell x i e n).elim fun c q=>q.elim fun r q=>have le:r≤F.r:=q.1.elim bg fun z=>eW z.1;⟨c,r,q.1,q.2.1,q.2.2.1,(K _ _ le q.2.2.2.1).1,q.2.2.2.2.elim fun o z=>⟨o,(K _ _ le q.2.2.2.1).2.trans z.1,z.2⟩⟩
theorem kj.same {x:Addr}{m:Str→Option Value}{z:Nat}(n:kj h x m z)(e:h'.get? x=h.get? x):kj h' x m z:=
 n.elim fun o q=>q.elim fun es q=>q.elim fun ep q=>⟨o,es,ep,e.trans q.1,q.2⟩
theorem km.keep {k:Nat}{ob:Obj}{b:Ob}(R:km Z g o h k ob b)(K:γ' (g.da k)= .odict k∧h'.get? (g.da k)=h.get? (g.da k)):km Z {g with γ:=γ'} o h' k ob b:=
 ⟨R.e,R.i,K.1,R.m.same K.2,R.u,R.c⟩
theorem SR.keep (S:SR Z F g l o h)(K:∀x ρ,g.γ x=ρ→d7 F.r ρ→γ' x=ρ∧h'.get? x=h.get? x)(I:b9 γ' h')(N:∀k a ob,γ' a= .inst k ob→g.γ a= .inst k ob)(L:∀a,γ' a≠ .free→∃ob,h'.get? a=some ob):
 SR Z F {g with γ:=γ'} l o h':=
 S.set (.loc (F.d+1) 0) (fun x ρ e k=>K x ρ e (zr ρ k)) I L (S.sto.keep fun x r l e=>K x _ e l)
  (fun k a ob e=>(S.ist k a ob (N k a ob e)).elim fun x y=>⟨(K a _ (N k a ob e) trivial).2.trans x,y.elim fun b R=>⟨b,R.keep (K _ _ R.r trivial)⟩⟩) (fun _ _ _ e=>⟨e,rfl⟩) S.nov
  fun s e=>nomatch (if_neg (Nat.succ_ne_self F.d)).symm.trans e
noncomputable def fq (h:Heap)(a:Addr):b8→Prop
 | .free=>True
 | .frz ob=>h.get? a=some ob
 | .inst _ _=>False
 | _=>∃ob,h.get? a=some ob
theorem fq.live {a:Addr}:∀ρ,fq h a ρ→ρ≠ .free→∃ob,h.get? a=some ob
 | .free=>fun _ k=>(k rfl).elim
 | .frz ob=>fun e _=>⟨ob,e⟩
 | .inst _ _=>False.elim
 | .own _=>fun e _=>e
 | .odict _=>fun e _=>e
 | .stor _=>fun e _=>e
 | .acc _=>fun e _=>e
 | .hold=>fun e _=>e
theorem SR.upd1 (S:SR Z F g l o h){x:Addr}(hx:¬d7 F.r (g.γ x))(hγ:∀y,y≠x→γ' y=g.γ y)(hk:∀b ob,b≠x→h.get? b=some ob→h'.get? b=some ob)(hρ:fq h' x (γ' x)):SR Z F {g with γ:=γ'} l o h':=
 have E:∀y ρ,γ' y=ρ→y=x∧fq h' x ρ∨y≠x∧g.γ y=ρ:=fun y ρ e=>(gC (y=x)).elim (fun z=>.inl ⟨z,e▸z▸hρ⟩) fun n=>.inr ⟨n,(hγ y n).symm.trans e⟩
 S.keep (fun y σ e k=>have n:y≠x:=fun z=>hx (z▸e.symm▸k);⟨(hγ y n).trans e,(S.live y (e▸fun z=>(z▸k:d7 F.r .free).elim)).elim fun ob p=>(hk y ob n p).trans p.symm⟩)
  (fun y ob e=>(E y _ e).elim (fun z=>z.1▸z.2) fun n=>hk y ob n.1 (S.frz y ob n.2)) (fun k y ob e=>(E y _ e).elim (fun z=>z.2.elim) fun n=>n.2)
  fun y e=>(E y _ rfl).elim (fun z=>z.1▸fq.live _ z.2 e) fun n=>(S.live y fun q=>e (n.2.symm.trans q)).elim fun ob p=>⟨ob,hk y ob n.1 p⟩
theorem SR.vac (S:SR Z F g l o h){x:Addr}(hx:h.get? x=none):g.γ x= .free:=
 Classical.byContradiction fun n=>(S.live x n).elim fun _ e=>nomatch hx.symm.trans e
theorem Le.upd1 (P:Le d a b m g₀ s₀ g s)(S:SR Z F g l o s.heap){x:Addr}(hx:¬gn d a b (g₀.γ x))(hγ:∀y,y≠x→γ' y=g.γ y)(hk:∀b ob,b≠x→s.heap.get? b=some ob→s'.heap.get? b=some ob)(hr:s'.gens=s.gens∧s'.os=s.os):
 Le d a b m g₀ s₀ {g with γ:=γ'} s':=
 ⟨⟨hr.1.trans P.rest.1,hr.2.trans P.rest.2⟩,fun y σ e k=>have n:y≠x:=fun z=>hx (z▸e.symm▸k);have q:=P.role y σ e k;
  ⟨(hγ y n).trans q.1,(S.live y (q.1▸fun z=>(z▸k:gn d a b .free).elim)).elim fun ob p=>(hk y ob n p).trans (p.symm.trans q.2)⟩,P.val⟩
end
section
variable {Z:Bs}{F:Fr}{g g' g₀:Gh}{l l':L}{o o':O}{h h':Heap}{s s' s₀:Shared}{d a b m d' a' b' m':Nat}{γ':RM}
theorem qe {d i:Nat}{x:Option Slot}{κ:b7}(n:κ≠ .loc d i):fS d (l.set i x) o κ=fS d l o κ:=by
 cases κ with
 |att k x=>rfl
 |loc e j=>
  show (if e=d then _ else _)=if e=d then _ else _
  by_cases z:e=d
  ·rw[if_pos z,if_pos z,List.getElem?_set_ne fun q=>n (by rw[z,q])]
  ·rw[if_neg z,if_neg z]
theorem zt {d i:Nat}{s:Slot}(e:l[i]? =some (some s)):fS d l o (.loc d i)=some s:=(if_pos rfl).trans (congrArg Option.join e)
theorem qf {d i:Nat}{t s s':Slot}(e:fS d (l.set i (some t)) o (.loc d i)=some s):t=s:=by
 have e:((l.set i (some t))[i]?).join=some s:=(if_pos rfl).symm.trans e
 by_cases z:i<l.length
 ·rw[List.getElem?_set_self z] at e;exact a8 e
 ·rw[kS (by rw[List.length_set];exact nZ z)] at e;cases e
structure zu (b b':Ob):Prop where
 c:b'.cls=b.cls
 n:b'.at'.length=b.at'.length
 x:∀x,b'.at'.lookup x=none↔b.at'.lookup x=none
theorem SR.turn (S:SR Z F g l o h){κ:b7}{v:Value}(hv:g.val κ=some v)(K:∀x ρ,g.γ x=ρ→d7 F.r ρ→ρ≠ .own κ→γ' x=ρ∧h'.get? x=h.get? x)(I:b9 γ' h')(N:∀k a ob,γ' a= .inst k ob→g.γ a= .inst k ob)(L:∀a,γ' a≠ .free→∃ob,h'.get? a=some ob)
 (ho:∀(k:Nat) (b:Ob),o[k]? =some b→∃b',o'[k]? =some b'∧zu b b')
 (sl:∀κ',κ'≠κ→fS F.d l' o' κ'=fS F.d l o κ') (sκ:∀s,fS F.d l' o' κ=some s→bj Z γ' h' (.own κ) s v):SR Z F {g with γ:=γ'} l' o' h':=
 S.set κ (fun x ρ e k=>K x ρ e (zr ρ k) fun z=>by subst z;exact k rfl) I L (S.sto.keep fun x r l e=>K x _ e l nofun)
  (fun k a ob e=>(S.ist k a ob (N k a ob e)).elim fun x y=>⟨(K a _ (N k a ob e) trivial nofun).2.trans x,y.elim fun b R=>(ho k b R.e).elim fun b' q=>
   ⟨b',q.1,q.2.c.symm▸R.i,(K _ _ R.r trivial nofun).1,q.2.n.symm▸R.m.same (K _ _ R.r trivial nofun).2,fun x n=>R.u x ((q.2.x x).mp n),fun x s n=>q.2.c.symm▸(Option.ne_none_iff_exists'.mp fun z=>nomatch n.symm.trans ((q.2.x x).mpr z)).elim fun s' e=>R.c x s' e⟩⟩)
  (fun κ' s n e=>⟨(sl κ' n).symm.trans e,rfl⟩) (fun k x e=>S.nov k x (yQ.mpr fun b q=>(ho k b q).elim fun b' p=>nomatch e.symm.trans p.1)) fun s e=>⟨v,hv,sκ s e⟩
theorem tH (o:O)(k:Nat)(b:Ob)(e:o[k]? =some b):∃b',o[k]? =some b'∧zu b b':=⟨b,e,rfl,rfl,fun _=>iI⟩
theorem SR.lay (S:SR Z F g l o h){i:Nat}{p:PV}{v:Value}(hv:g.val (.loc F.d i)=some v){P:Addr→Obj→Prop}(w:At (Ow g.γ h (.own (.loc F.d i))) P v){Q:Prop}
 (hp:∀γ',js g.γ γ'→At (Fz γ') P v→bL Z γ' p v) (k:∀γ',Le F.d a b m g s {g with γ:=γ'} s→SR Z F {g with γ:=γ'} (l.set i (some (.pv p))) o h→bL Z γ' p v→Q):Q:=
 w.elim fun x ob ex f q=>
  have K:∀y ρ,g.γ y=ρ→ρ≠ .own (.loc F.d i)→eZ g.γ x (.frz ob) y=ρ∧h.get? y=h.get? y:=fun y ρ e n=>⟨(cV fun z=>n (e.symm.trans ((congrArg g.γ z).trans f.1))).trans e,rfl⟩
  have hp:=hp (eZ g.γ x (.frz ob)) ⟨fun y ob e=>(K y _ e nofun).1,fun k y ob e=>(K y _ e nofun).1⟩ ⟨x,ob,ex,dL,q⟩
  have E:∀y,y=x∨y≠x:=fun y=>gC _
  k _ ⟨⟨rfl,rfl⟩,fun y ρ e k=>⟨(K y ρ e fun z=>by subst z;exact gA _ k).1,rfl⟩,fun κ _=>.of rfl κ⟩
   (S.turn hv (fun y ρ e k n=>K y ρ e n) (fun y ob' e=>(E y).elim (fun z=>by subst z;cases dL.symm.trans e;exact f.2) fun n=>S.frz y ob' ((cV n).symm.trans e))
    (fun k y ob' e=>(E y).elim (fun z=>by subst z;cases dL.symm.trans e) fun n=>(cV n).symm.trans e) (fun y e=>(E y).elim (fun z=>⟨ob,z▸f.2⟩) fun n=>S.live y fun q=>e ((cV n).trans q))
    (tH o) (fun κ' n=>qe n) fun s e=>qf (s':=s) e▸hp) hp
theorem SR.still (S:SR Z F g l o s.heap){i:Nat}{t:Slot}{p:PV}{v:Value}(hv:g.val (.loc F.d i)=some v)(e:bj Z g.γ s.heap (.own (.loc F.d i)) t v)(hs:Mine.still t=some p){Q:Prop}
 (k:∀γ',Le F.d a b m g s {g with γ:=γ'} s→SR Z F {g with γ:=γ'} (l.set i (some (.pv p))) o s.heap→bL Z γ' p v→Q):Q:=by
 cases t with
 |pv q=>
  cases hs
  exact k g.γ .refl (S.turn hv (fun y ρ e _ _=>⟨e,rfl⟩) S.frz (fun _ _ _ e=>e) S.live (tH o) (fun κ' n=>qe n) fun s' e'=>qf (s':=s') e'▸e) e
 |lst xs=>cases hs;exact S.lay (p:=.d (.list xs)) hv e (fun γ' r w=>w.map (fun _ _ e=>e) fun _ _ q=>q.seq.map (RdL.mono r.f xs)) k
 |dct kvs=>cases hs;exact S.lay (p:=.kd kvs) hv e (fun γ' r w=>w.map (fun _ _ e=>e) (gm.mono r.f)) k
 |tdct kvs=>cases hs
end
end Mine
end
section
set_option autoImplicit false
set_option genInjectivity false
set_option genSizeOf false
open PySem PySem.W PyProof.Rows
namespace Mine
structure bu (F:Fr):Prop where
 names:∀x k,k≠ .free→F.c.names.lookup x=some k→F.env.kindOf x=some k
 kind:F.env.scope.kind= .function
 glob:F.env.globals=dU
 bi:F.env.builtins=du
 inj:∀x y i,F.c.ix.lookup x=some i→F.c.ix.lookup y=some i→x=y
 cinj:∀x y a,F.env.cells.lookup x=some a→F.env.cells.lookup y=some a→x=y
 cls:∀x i,F.c.ix.lookup x=some i→(x==("__debug__":Str))=false∧(x==("__classdict__":Str))=false
 hd:F.A.handled=none
 lt:∀x i,F.c.ix.lookup x=some i→i<F.c.nl
structure iR (A:Around)(n:Nat):Prop where
 dp:A.depth+n<900
 un:A.units+40*n+200<cLine
structure WF (K:Frag)(CA:CI)(hT:Heap):Prop where
 inT:K.In hT
 fld:∀k x,CA.ok k x→findIn K (.ref (CA.ad k)) x=some none
 hd:∀k,(clsIn K (CA.ad k)).any (·.hasDict)=true
 ga:∀k,findIn K (.ref (CA.ad k)) "__getattribute__"=some (some (.builtin "object.__getattribute__"))
 gt:∀k,findIn K (.ref (CA.ad k)) "__getattr__"=some none
 sa:∀k,findIn K (.ref (CA.ad k)) "__setattr__"=some (some (.builtin "object.__setattr__"))
 po:∀k,plainOver K (CA.ad k)=true
 mkd:∀k,makesIn K (CA.ad k)=true
 big:∃a o,jV<a∧K.lookup a=some o
noncomputable def dh (Z:Bs)(γ:RM):List PV→List Value→Prop
 |[]=>fun vs=>vs=[]
 |p::ps=>fun vs=>∃v ws,vs=v::ws∧bL Z γ p v∧dh Z γ ps ws
noncomputable def fT (hT:Heap):RM:=fun a=>match hT.get? a with
 |some o=>.frz o
 |none=>.free
noncomputable def bV:Bool→String→Value
 |true,b=>.type b
 |false,b=>.builtin b
def tI:List (Bool×String):=[(false,"len"),(true,"range"),(true,"tuple"),(true,"list"),(false,"sorted"),(false,"any"),(false,"all"),(true,"set")]
abbrev ou (x:Str):Prop:=(x==("__debug__":Str))=false
structure Wd where
 Z:Bs
 K:Frag
 fa:Str→Addr
 ma:Nat→Str→Addr
 wf:WF K Z.CA Z.hT
 gl:∀x p,qc.lookup x=some p→ou x∧∃v,nsIn K dU x=some (some v)∧bL Z (fT Z.hT) p v
 bi:∀ty b,tI.contains (ty,b)=true→nsIn K dU (ac b)=some none∧nsIn K du (ac b)=some (some (bV ty b))∧ou (ac b)
 ats:∀k x,mG.contains x=true→Z.CA.ok k x
 cl:∀x k,qa.lookup x=some k→ou x∧nsIn K dU x=some (some (.ref (Z.CA.ad k)))∧keepIn K (.ref (Z.CA.ad k))=true
 fn:∀x,ot.contains x=true→ou x∧nsIn K dU x=some (some (.ref (fa x)))∧keepIn K (.ref (fa x))=true
 mt:∀k m,mC.contains (k,m)=true→findIn K (.ref (Z.CA.ad k)) m=some (some (.ref (ma k m)))∧typeIn K (.ref (ma k m))=some (.type "function")∧keepIn K (.ref (ma k m))=true
def mJ (Z:Bs)(n:Nat)(a:Addr)(vs:List PV)(o:O)(K:PV→O→Prop):Prop:=
 ∀(F:Fr) (g:Gh) (l:L) (s:Shared) (args:List Value) (Q:Result→Shared→Prop),bu F→iR F.A n→SR Z F g l o s.heap→dh Z g.γ vs args→
  (∀p v g' o' s',SR Z F g' l o' s'.heap→Le F.d (F.r+1) (F.r+1) F.c.nl g s g' s'→bL Z g'.γ p v→K p o'→Q (.ok (.ret v)) s')→fg Z.m F.A (.call (.ref a) ⟨args,[]⟩) Q s
structure mK (W:Wd)(n:Nat)(r:R):Prop where
 call:∀x vs o K,ot.contains x=true→r.call x vs o K→mJ W.Z n (W.fa x) vs o K
 meth:∀k m vs o K,mC.contains (k,m)=true→r.meth k m vs o K→mJ W.Z n (W.ma k m) vs o K
structure Fc (W:Wd) where
 F:Fr
 r:R
 n:Nat
 ok:bu F
 rm:iR F.A (n+1)
 rok:mK W n r
structure Cp (W:Wd)(f:Fc W) where
 g:Gh
 l:L
 o:O
 s:Shared
 sr:SR W.Z f.F g l o s.heap
noncomputable def Nx:Value→Shared→Prop:=fun _ _=>False
section
variable {W:Wd}
noncomputable abbrev Fc.wp (f:Fc W){β:Type}(x:Sem β)(Q:β→Shared→Prop)(s:Shared):Prop:=wpAny W.Z.m f.F.A x Q Nx s
def bb (f:Fc W)(C C':Cp W f):Prop:=Le f.F.d (f.F.r+1) (f.F.r+1) f.F.c.nl C.g C.s C'.g C'.s
def mL (f:Fc W){α β:Type}(C:Cp W f)(Rel:Cp W f→α→β→Prop)(k:α→L→O→Prop)(Q:β→Shared→Prop):Prop:=
 ∀a b (C':Cp W f),bb f C C'→Rel C' a b→k a C'.l C'.o→Q b C'.s
def Fc.Ok (f:Fc W){α β:Type}(w:EP α)(x:Sem β)(Rel:Cp W f→α→β→Prop):Prop:=
 ∀(C:Cp W f) k Q,w f.r C.l C.o k→mL f C Rel k Q→f.wp x Q C.s
def c6 (f:Fc W)(C:Cp W f)(p:PV)(v:Value):Prop:=bL W.Z C.g.γ p v
def RD (f:Fc W)(C:Cp W f)(x:aa)(v:Value):Prop:=Rd C.g.γ x v
def RDL (f:Fc W)(C:Cp W f)(x:List aa)(v:List Value):Prop:=RdL C.g.γ x v
def RB (f:Fc W)(C:Cp W f)(b v:Bool):Prop:=v=b
def Hy (f:Fc W)(C:Cp W f)(ps:List PV)(vs:List Value):Prop:=dh W.Z C.g.γ ps vs
theorem am.elim {α:Type}{o:Option α}{K:α→Prop}{P:Prop}(h:am o K)(k:∀a,o=some a→K a→P):P:=by
 cases o with
 |none=>exact False.elim h
 |some a=>exact k a rfl h
theorem mA.elim {o:Option (Option Slot)}{K:Slot→Prop}{P:Prop}(h:mA o K)(k:∀s,o=some (some s)→K s→P):P:=by
 rcases o with _| _|s
 ·exact False.elim h
 ·exact False.elim h
 ·exact k s rfl h
theorem qg {p:PV}{d:aa}(e:j8 p=some d):p= .d d:=by cases p<;>cases e;rfl
variable {f:Fc W}{C C' C'':Cp W f}{Q:Value→Shared→Prop}
theorem bb.refl:bb f C C:=Le.refl
theorem bb.trans (x:bb f C C')(y:bb f C' C''):bb f C C'':=Le.trans x y
def Cp.tok (C:Cp W f)(t:Nat):Cp W f:={C with s:={C.s with toks:=t},sr:=C.sr}
theorem bb.tok {t:Nat}:bb f C (C.tok t):=⟨⟨rfl,rfl⟩,fun _ _ e _=>⟨e,rfl⟩,fun κ _=>.of rfl κ⟩
theorem c7 {w:EP PV}{x:Sem Value}(h:f.Ok w x (c6 f)):f.Ok (eD w) x (RD f):=fun C k Q hk hQ=>
 h C _ Q hk fun p v C' l r kk=>kk.elim fun d e k=>hQ d v C' l (by rw[qg e] at r;exact r) k
theorem zv {x:Str}{i:Nat}{v:Value}(hx:f.F.c.ix.lookup x=some i)(hv:C.g.val (.loc f.F.d i)=some v)(q:Q v C.s):f.wp (loadName f.F.env x) Q C.s:=by
 by_cases hk:f.F.env.kindOf x=some .local
 ·exact C.sr.sto.m.elim fun m p=>wpAny_loadName_local f.ok.kind hk p.1 ((p.2 x i hx hk).trans hv) q
 ·refine(C.sr.sto.cell x i hx hk).elim fun c z=>z.elim fun r z=>z.2.1.elim (fun y=>wpAny_loadName_cell f.ok.kind y z.2.2.1 (hv▸z.2.2.2.2) q) fun y=>wpAny_loadName_free f.ok.kind y z.2.2.1 (hv▸z.2.2.2.2) q (f.ok.cls x i hx).2
theorem ox {x:Str}{pos:Pos}{i:Nat}{v:Value}(hx:f.F.c.ix.lookup x=some i)(hv:C.g.val (.loc f.F.d i)=some v)(q:Q v C.s):f.wp (eval (.Name x pos) f.F.env) Q C.s:=
 wpAny_Name (zv hx hv q) (f.ok.cls x i hx).1
theorem zw {x:Str}{pos:Pos}{i:Nat}(hx:f.F.c.ix.lookup x=some i):f.Ok (eV i) (eval (.Name x pos) f.F.env) (c6 f):=fun C k Q hk hQ=>
 mA.elim hk fun t e hk=>am.elim hk fun p e2 hk=>(C.sr.slot (.loc f.F.d i) t (zt e)).elim fun v z=>
  ox hx z.1 (C.sr.still z.1 z.2 e2 fun γ' l S r=>hQ p v ⟨_,_,_,C.s,S⟩ l r hk)
def aU (f:Fc W)(C:Cp W f)(Q:Value→Shared→Prop)(p:PV):Prop:=
 ∀v g' s',SR W.Z f.F g' C.l C.o s'.heap→Le f.F.d (f.F.r+1) (f.F.r+1) f.F.c.nl C.g C.s g' s'→bL W.Z g'.γ p v→Q v s'
theorem mL.out {k:PV→L→O→Prop}{p:PV}(hQ:mL f C (c6 f) k Q)(l:bb f C C')(hk:k p C'.l C'.o):aU f C' Q p:=fun v g s S L r=>hQ p v ⟨g,C'.l,C'.o,s,S⟩ (l.trans L) r hk
theorem aU.same {p:PV}{v:Value}(h:aU f C Q p)(r:bL W.Z C.g.γ p v):Q v C.s:=h v C.g C.s C.sr .refl r
theorem aU.tok {p:PV}{v:Value}{t:Nat}(h:aU f C Q p)(r:bL W.Z C.g.γ p v):Q v {C.s with toks:=t}:=h v C.g {C.s with toks:=t} C.sr ⟨⟨rfl,rfl⟩,fun _ _ e _=>⟨e,rfl⟩,fun κ _=>.of rfl κ⟩ r
theorem Cp.free (C:Cp W f){x:Addr}(hx:C.s.heap.get? x=none):C.g.γ x= .free:=C.sr.vac hx
theorem ju {n:Nat}{ρ:b8}(e:ρ= .free):¬d7 n ρ:=fun h=>(e▸h:d7 n .free)
theorem g0 {d a b:Nat}{ρ:b8}(e:ρ= .free):¬gn d a b ρ:=fun h=>(e▸h:gn d a b .free)
theorem aU.newA {p:PV}{s':Shared}{x:Addr}{ob:Obj}(h:aU f C Q p)(hx:C.s.heap.get? x=none)(ho:s'.heap.get? x=some ob)(hk:∀b o,C.s.heap.get? b=some o→s'.heap.get? b=some o)(hr:s'.gens=C.s.gens∧s'.os=C.s.os)
 (r:∀γ',js C.g.γ γ'→γ' x= .frz ob→bL W.Z γ' p (.ref x)):Q (.ref x) s':=
 have L:=Le.upd1 (d:=f.F.d) (a:=f.F.r+1) (b:=f.F.r+1) (m:=f.F.c.nl) (γ':=eZ C.g.γ x (.frz ob)) .refl C.sr (g0 (C.free hx)) (fun y n=>cV n) (fun b o _=>hk b o) hr
 h (.ref x) _ s' (C.sr.upd1 (ju (C.free hx)) (fun y n=>cV n) (fun b o _=>hk b o) (dL (γ:=C.g.γ)▸ho)) L (r _ L.ro dL)
theorem aU.new {p:PV}{ob:Obj}{t:Nat}(h:aU f C Q p)(hf:ob.isFreed=false)(r:∀γ',js C.g.γ γ'→γ' C.s.heap.objs.size= .frz ob→bL W.Z γ' p (.ref C.s.heap.objs.size)):
 Q (.ref C.s.heap.objs.size) {C.s with heap:=C.s.heap.push ob,toks:=t}:=
 h.newA (gw (aT _)) (dH _ hf) (fun _ _ e=>bH _ e) ⟨rfl,rfl⟩ r
theorem ls {T:String}{xs:List aa}{vs:List Value}{n:Nat}{x:Addr}{ob:Obj}(r:RdL C.g.γ xs vs)(hz:vs.length≤dJ)(hc:ob.cls= .type T)(hd:ob.data= .seq vs.toArray n)(γ':RM)(l:js C.g.γ γ')(e:γ' x= .frz ob):
 At (Fz γ') (gY T (RdL γ' xs)) (.ref x):=⟨x,ob,rfl,e,vs,n,hc,hd,hz,RdL.mono l.f _ _ r⟩
theorem Rd.int' {γ:RM}{x:aa}{v:Value}{i:Int}(r:Rd γ x v)(e:cg x=some i):∃t,v= .int i t:=by
 cases x<;>cases e;exact r
theorem qh {op:Operator}{g:Int→Int→Option aa}{x y z:aa}{u v:Value}(ra:Rd C.g.γ x u)(rb:Rd C.g.γ y v)(e:n8 g x y=some z)(h:aU f C Q (.d z))
 (k:∀x y t t' z,g x y=some z→aU f C Q (.d z)→f.wp (binaryOp op (.int x t) (.int y t')) Q C.s):f.wp (binaryOp op u v) Q C.s:=
 (bG.mp e).elim fun x p=>(bG.mp p.2).elim fun y q=>(ra.int' p.1).elim fun t e1=>(rb.int' q.1).elim fun t' e2=>e1▸e2▸k x y t t' z q.2 h
theorem aU.int {i:Int}{z:aa}(h:aU f C Q (.d z))(e:some (.int i)=some z):Q (.int i C.s.toks) {C.s with toks:=C.s.toks+1}:=(a8 e▸h:aU f C Q (.d (.int i))).tok ⟨_,rfl⟩
abbrev lw (W:Wd)(op:Operator):Prop:=∀(f:Fc W) x y z u v (C:Cp W f) Q,Rd C.g.γ x u→Rd C.g.γ y v→ie op x y=some z→aU f C Q (.d z)→f.wp (binaryOp op u v) Q C.s
theorem Hz:lw W .Sub:=fun f x y z u v C Q ra rb e h=>qh ra rb e h fun x y t t' z e h=>P.sub_int (h.int e)
theorem HA:lw W .Mult:=fun f x y z u v C Q ra rb e h=>qh ra rb e h fun x y t t' z e h=>have q:=cG.mp e;P.mul_int (h.int q.2) (IntMulOk.of_right (intBits_le_64 (by omega) (by omega)))
theorem qi:lw W .FloorDiv:=fun f x y z u v C Q ra rb e h=>qh ra rb e h fun x y t t' z e h=>have q:=cG.mp e;floordiv_int (fun n=>absurd (n▸q.1.1) (by decide)) (h.int q.2) (.inl (PyProof.noPylong_small (by omega)))
theorem tJ:lw W .Mod:=fun f x y z u v C Q ra rb e h=>qh ra rb e h fun x y t t' z e h=>have q:=Option.ite_none_left_eq_some.mp e;mod_int' q.1 (h.int q.2)
theorem HB {op:Operator}{a b:Expr}{pos:Pos}{wa wb:EP PV}(ha:f.Ok wa (eval a f.F.env) (c6 f))(hb:f.Ok wb (eval b f.F.env) (c6 f))
 (h:lw W op):f.Ok (aI op wa wb) (eval (.BinOp a op b pos) f.F.env) (c6 f):=fun C k Q hk hQ=>
 wpAny_BinOp (c7 ha C _ _ hk fun x u C1 l1 r1 hk=>c7 hb C1 _ _ hk fun y v C2 l2 r2 hk=>am.elim hk fun z e hk=>h f x y z u v C2 Q (Rd.mono l2.ro.f x u r1) r2 e (hQ.out (l1.trans l2) hk))
end
end Mine
end
section
set_option autoImplicit false
open PySem PySem.W PyProof.Rows
namespace Mine
theorem lx:aH≤dJ:=by rw[ff];decide
theorem ly {n:Nat}(h:n≤dJ):(n:Int)<2 ^ 63:=by rw[ff] at h;omega
section
variable {γ:RM}{h:Heap}{v:Value}
inductive fU (T:String)(h:Heap)(γ:RM)(xs:List aa)(v:Value):Prop
 |mk (a:Addr) (vs:List Value) (o:Obj) (n:Nat) (e:v= .ref a) (g:h.get? a=some o) (c:o.cls= .type T) (d:o.data= .seq vs.toArray n) (z:vs.length≤dJ) (r:RdL γ xs vs)
theorem fU.elim {T:String}{xs:List aa}{Q:Prop}(x:fU T h γ xs v)(k:∀(a:Addr) (vs:List Value) (o:Obj) (n:Nat),v= .ref a→h.get? a=some o→o.cls= .type T→o.data= .seq vs.toArray n→vs.length≤dJ→RdL γ xs vs→Q):Q:=x.casesOn k
theorem bI {T:String}{xs:List aa}(x:b9 γ h)(r:At (Fz γ) (gY T (RdL γ xs)) v):fU T h γ xs v:=r.elim fun a o e f p=>p.elim fun vs n c d z r=>⟨a,vs,o,n,e,x a o f,c,d,z,r⟩
theorem qj {xs:List aa}{ρ:b8}(r:At (Ow γ h ρ) (gJ (RdL γ xs)) v):fU "list" h γ xs v:=r.elim fun a o e f p=>p.seq.elim fun vs n c d z r=>⟨a,vs,o,n,e,f.2,c,d,z,r⟩
theorem lz {x:aa}{xs:List aa}(e:ic x=some xs):x= .list xs∨x= .tuple xs:=by cases x<;>cases e<;>first|exact .inl rfl|exact .inr rfl
theorem oy {x:aa}{xs:List aa}(e:lj x=some xs):x= .list xs:=by cases x<;>cases e;rfl
theorem oz {x:aa}{xs:List aa}(e:jZ x=some xs):x= .tuple xs:=by cases x<;>cases e;rfl
end
section
variable {W:Wd}{f:Fc W}{C:Cp W f}{Q:Value→Shared→Prop}{v u:Value}{Qb:Bool→Shared→Prop}
theorem HC {xs ys:List aa}{z:aa}(ra:Rd C.g.γ (.list xs) u)(rb:Rd C.g.γ (.list ys) v)(e:(if xs.length+ys.length≤aH then some (jm (xs++ys)) else none)=some z)(h:aU f C Q (.d z)):f.wp (binaryOp .Add u v) Q C.s:=
 have q:=cG.mp e
 (bI C.sr.frz ra).elim fun a vs o n e1 g1 c1 d1 z1 r1=>(bI C.sr.frz rb).elim fun b ws o' n' e2 g2 c2 d2 z2 r2=>by
  subst e1 e2
  obtain⟨cls,dd,data,sl⟩:=o
  obtain⟨cls',dd',data',sl'⟩:=o'
  cases c1;cases c2;cases d1;cases d2;cases q.2
  have hz:vs.length+ws.length≤dJ:=by rw[RdL.length _ _ r1,RdL.length _ _ r2];exact ai q.1 lx
  refine concat_meets ⟨_,g1,rfl⟩ ⟨_,g2,rfl⟩ noFill_list_add seq_list_add PySem.F.slot_list_add PySem.F.entry_list_add (PySem.F.args_list_add_2 _ _) (list_addW a b vs.toArray ws.toArray n n' dd dd' sl sl' hz) ⟨g1,g2,?_⟩
  rw[y5]
  exact h.new (t:=C.s.toks) rfl (ls (RdL.append _ r1 r2) (by rw[aG];exact hz) rfl rfl)
theorem HD {xs ys:List aa}{z:aa}(ra:Rd C.g.γ (.tuple xs) u)(rb:Rd C.g.γ (.tuple ys) v)(e:(if xs.length+ys.length≤aH then some (nU (xs++ys)) else none)=some z)(h:aU f C Q (.d z)):f.wp (binaryOp .Add u v) Q C.s:=
 have q:=cG.mp e
 (bI C.sr.frz ra).elim fun a vs o n e1 g1 c1 d1 z1 r1=>(bI C.sr.frz rb).elim fun b ws o' n' e2 g2 c2 d2 z2 r2=>by
  have hz:vs.length+ws.length≤dJ:=by rw[RdL.length _ _ r1,RdL.length _ _ r2];exact ai q.1 lx
  subst e1 e2
  obtain⟨cls,dd,data,sl⟩:=o
  obtain⟨cls',dd',data',sl'⟩:=o'
  cases c1;cases c2;cases d1;cases d2;cases q.2
  have go:=fun B (m:Meets (fJ.«tuple.__add__» ⟨[.ref a,.ref b],[]⟩) B) (h:B f.F.A (wants Q Nx) C.s)=>concat_meets (prog:=W.Z.prog) (w:=W.Z.w) (a:=.ref a) (b:=.ref b) (s:=C.s) (T:="tuple") (E:=Nx) (Q:=Q) ⟨_,g1,rfl⟩ ⟨_,g2,rfl⟩ noFill_tuple_add seq_tuple_add PySem.F.slot_tuple_add PySem.F.entry_tuple_add (PySem.F.args_tuple_add_2 _ _) m h
  by_cases hv:vs=[]
  ·subst hv
   cases xs with
   |cons _ _=>exact nomatch RdL.length _ _ r1
   |nil=>exact go _ (tuple_addW0 a b #[] ws.toArray n n' dd dd' sl sl' rfl) ⟨g1,g2,h.same rb⟩
  ·by_cases hw:ws=[]
   ·subst hw
    cases ys with
    |cons _ _=>exact nomatch RdL.length _ _ r2
    |nil=>exact go _ (tuple_addW1 a b vs.toArray #[] n n' dd dd' sl sl' (by simpa using hv) rfl) ⟨g1,g2,h.same (by rw[ck];exact ra)⟩
   ·refine go _ (tuple_addW2 a b vs.toArray ws.toArray n n' dd dd' sl sl' (by simpa using hv) (by simpa using hw) hz) ⟨g1,g2,?_⟩
    rw[y5]
    exact h.new (t:=C.s.toks) rfl (ls (RdL.append _ r1 r2) (by rw[aG];exact hz) rfl rfl)
theorem HE:lw W .Add:=fun f x y z u v C Q ra rb e h=>by
 cases x with
 |int i=>exact(cC.mp e).elim fun j q=>ra.elim fun t e1=>(rb.int' q.1).elim fun t' e2=>e1▸e2▸P.add_int (h.int (congrArg some q.2))
 |list xs=>exact(bG.mp e).elim fun ys q=>HC ra (oy q.1▸rb) q.2 h
 |tuple xs=>exact(bG.mp e).elim fun ys q=>HD ra (oz q.1▸rb) q.2 h
 | _=>cases e
end
theorem Fc.un {W:Wd}(f:Fc W):f.F.A.units+200<cLine:=by have:=f.rm.un;omega
section
variable {W:Wd}{f:Fc W}{C:Cp W f}{Q:Value→Shared→Prop}{v u:Value}{Qb:Bool→Shared→Prop}
theorem aU.bool {b:Bool}(h:aU f C Q (.d (.bool b))):Q (.bool b) C.s:=h.same (show Rd _ _ _ from rfl)
abbrev kn (W:Wd)(op:CmpOp):Prop:=∀(f:Fc W) x y b u v (C:Cp W f) Q,Rd C.g.γ x u→Rd C.g.γ y v→dg op x y=some b→Q (.bool b) C.s→f.wp (jX op u v) Q C.s
theorem qk {op:CmpOp}{g:Int→Int→Bool}{x y:aa}{b:Bool}(ra:Rd C.g.γ x u)(rb:Rd C.g.γ y v)(e:n9 g x y=some b)(h:Q (.bool b) C.s)
 (k:∀x y t t',Q (.bool (g x y)) C.s→f.wp (jX op (.int x t) (.int y t')) Q C.s):f.wp (jX op u v) Q C.s:=
 (bG.mp e).elim fun x p=>(cC.mp p.2).elim fun y q=>(ra.int' p.1).elim fun t e1=>(rb.int' q.1).elim fun t' e2=>e1▸e2▸k x y t t' (q.2.symm▸h)
theorem HF:kn W .Lt:=fun f x y b u v C Q ra rb e h=>qk ra rb e h fun x y t t' h=>P.lt_int h
theorem HG:kn W .LtE:=fun f x y b u v C Q ra rb e h=>qk ra rb e h fun x y t t' h=>P.le_int h
theorem HH:kn W .Gt:=fun f x y b u v C Q ra rb e h=>qk ra rb e h fun x y t t' h=>P.gt_int h
theorem HI:kn W .GtE:=fun f x y b u v C Q ra rb e h=>qk ra rb e h fun x y t t' h=>P.ge_int h
theorem HJ {x:aa}{b:Bool}(e:y6 x=some b):x= .bool b:=by cases x<;>cases e;rfl
theorem zx {x y:aa}{b:Bool}(e:tf x y=some b):eI x=true∧eI y=true∧mu x y=b:=by
 have gen:(if (eI x&&eI y)=true then some (mu x y) else none)=some b→eI x=true∧eI y=true∧mu x y=b:=fun e=>
  have q:=cG.mp e;⟨(aP.mp q.1).1,(aP.mp q.1).2,a8 q.2⟩
 cases x with
 |bool c=>exact(cC.mp e).elim fun d q=>HJ q.1▸⟨rfl,rfl,q.2⟩
 | _=>exact gen e
theorem HM:kn W .Eq:=fun f x y b u v C Q ra rb e h=>have q:=zx e
 (Rd.reads C.sr.frz _ _ ra).elim fun _ ra=>(Rd.reads C.sr.frz _ _ rb).elim fun _ rb=>eq_dataH ra rb q.1 q.2.1 (by have:=f.un;omega) (q.2.2.symm▸h)
theorem HN:kn W .NotEq:=fun f x y b u v C Q ra rb e h=>(cC.mp e).elim fun c p=>have q:=zx p.1
 (Rd.reads C.sr.frz _ _ ra).elim fun _ ra=>(Rd.reads C.sr.frz _ _ rb).elim fun _ rb=>ne_dataH ra rb q.1 q.2.1 (by have:=f.un;omega) (by rw[q.2.2,p.2];exact h)
theorem ql {vs:List Value}{xs:List aa}(h:vs.length=xs.length):(!vs.toArray.isEmpty)= !xs.isEmpty:=by
 cases vs<;>cases xs<;>first|rfl|cases h
abbrev qo (C:Cp W f)(Qb:Bool→Shared→Prop)(b:Bool):Prop:=∀t,Qb b {C.s with toks:=t}
theorem zy {xs:List aa}(x:fU "list" C.s.heap C.g.γ xs v)(h:qo C Qb (!xs.isEmpty)):f.wp (truthy v) Qb C.s:=
 x.elim fun a vs o n e g c d z r=>e▸wpAny_truthy_list ⟨o,g,c,n,d⟩ (by simpa using ly z) (ql (RdL.length _ _ r)▸h _)
theorem HO {xs:List aa}(x:fU "tuple" C.s.heap C.g.γ xs v)(h:qo C Qb (!xs.isEmpty)):f.wp (truthy v) Qb C.s:=
 x.elim fun a vs o n e g c d z r=>e▸truthy_tuple ⟨o,g,c,n,d⟩ (by simpa using ly z) (ql (RdL.length _ _ r)▸h _)
theorem HP {x:aa}{b:Bool}(r:Rd C.g.γ x v)(e:pO x=some b)(h:qo C Qb b):f.wp (truthy v) Qb C.s:=by
 cases x with
 |bool c=>cases e;exact(show v= _ from r)▸nV (h _)
 |int i=>cases e;exact r.elim fun t e=>e▸P.truthy_int (h _)
 |list xs=>cases e;exact zy (bI C.sr.frz r) h
 |tuple xs=>cases e;exact HO (bI C.sr.frz r) h
 | _=>cases e
theorem qp {s:Slot}{ρ:b8}{b:Bool}(r:bj W.Z C.g.γ C.s.heap ρ s v)(e:my s=some b)(h:qo C Qb b):f.wp (truthy v) Qb C.s:=by
 cases s with
 |pv p=>cases p with
  |d x=>exact HP r e h
  | _=>cases e
 |lst xs=>cases e;exact zy (qj r) h
 | _=>cases e
theorem aU.nat {n m:Nat}(h:aU f C Q (.d (.int n)))(e:m=n){t u:Nat}:Q (.int m u) {C.s with toks:=t}:=e▸h.tok ⟨_,rfl⟩
theorem zz {xs:List aa}(x:fU "list" C.s.heap C.g.γ xs v)(h:aU f C Q (.d (.int xs.length))):f.wp (call (.builtin "len") [v]) Q C.s:=
 x.elim fun a vs o n e g c d z r=>e▸len_list ⟨o,g,c,n,d⟩ (by simpa using ly z) (h.nat (RdL.length _ _ r))
theorem HQ {xs:List aa}(x:fU "tuple" C.s.heap C.g.γ xs v)(h:aU f C Q (.d (.int xs.length))):f.wp (call (.builtin "len") [v]) Q C.s:=
 x.elim fun a vs o n e g c d z r=>e▸len_tuple ⟨o,g,c,n,d⟩ (by simpa using ly z) (h.nat (RdL.length _ _ r))
inductive iS (Z:Bs)(h:Heap)(γ:RM)(kvs:List (Int×aa))(v:Value):Prop
 |mk (a:Addr) (us:List (Int×Value)) (e:v= .ref a) (s:a≠jV) (d:h.DictOf (bR Z.prog Z.w) a us) (r:dA γ kvs us)
theorem iS.elim {Z:Bs}{h:Heap}{γ:RM}{kvs:List (Int×aa)}{P:Prop}(x:iS Z h γ kvs v)(k:∀(a:Addr) (us:List (Int×Value)),v= .ref a→a≠jV→h.DictOf (bR Z.prog Z.w) a us→dA γ kvs us→P):P:=x.casesOn k
theorem gm.at' {Z:Bs}{h:Heap}{γ:RM}{kvs:List (Int×aa)}{a:Addr}{o:Obj}(e:v= .ref a)(g:h.get? a=some o)(p:gm Z γ kvs a o):iS Z h γ kvs v:=
 p.elim fun us s d r=>d.casesOn fun es ep x1 x2 x3 x4 x5=>⟨a,us,e,s,⟨o,es,ep,g,x1,x2,x3,x4,x5⟩,r⟩
theorem oA {kvs:List (Int×aa)}(r:bL W.Z C.g.γ (.kd kvs) v):iS W.Z C.s.heap C.g.γ kvs v:=At.elim r fun a o e f p=>p.at' e (C.sr.frz a o f)
theorem qq {kvs:List (Int×aa)}{ρ:b8}(r:bj W.Z C.g.γ C.s.heap ρ (.dct kvs) v):iS W.Z C.s.heap C.g.γ kvs v:=At.elim r fun a o e f p=>p.at' e f.2
theorem dA.length {γ:RM}{us:List (Int×Value)}{kvs:List (Int×aa)}(h:dA γ kvs us):us.length=kvs.length:=by have:=congrArg cI h.1;simpa using this
theorem zB {kvs:List (Int×aa)}{k:Nat}(x:iS W.Z C.s.heap C.g.γ kvs v)(e:(if kvs.length≤aH then some kvs.length else none)=some k)(h:aU f C Q (.d (.int k))):f.wp (call (.builtin "len") [v]) Q C.s:=
 have q:=cG.mp e
 x.elim fun a us e s d r=>e▸call_len_dict (by simpa using s) d (ly (ai (r.length▸q.1) lx)) (h.nat (r.length.trans (a8 q.2)))
theorem HR {s:Slot}{ρ:b8}{k:Nat}(r:bj W.Z C.g.γ C.s.heap ρ s v)(e:og s=some k)(h:aU f C Q (.d (.int k))):f.wp (call (.builtin "len") [v]) Q C.s:=by
 cases s with
 |pv p=>cases p with
  |d x=>exact(cC.mp e).elim fun xs q=>(lz q.1).elim (fun z=>by subst z;exact zz (bI C.sr.frz r) (q.2.symm▸h)) fun z=>by subst z;exact HQ (bI C.sr.frz r) (q.2.symm▸h)
  |kd kvs=>exact zB (oA r) e h
  | _=>cases e
 |lst xs=>cases e;exact zz (qj r) h
 |dct kvs=>exact zB (qq r) e h
 | _=>cases e
end
theorem oB {α β:Type}(g:α→β)(q:α→Bool)(a:α)(l:List α):((a::l).find? q).map g=if q a=true then some (g a) else (l.find? q).map g:=by rw[List.find?_cons];cases q a<;>rfl
theorem dA.find {γ:RM}(k:Int):∀(kvs:List (Int×aa)) (us:List (Int×Value)),dA γ kvs us→(valueAt us k).isSome=(fj kvs k).isSome∧∀d,fj kvs k=some d→∃v,valueAt us k=some v∧Rd γ d v
 |[],us,h=>by cases us with
  |nil=>exact⟨rfl,fun _ e=>nomatch e⟩
  |cons _ _=>exact nomatch h.1
 |(b,d)::kvs,us,h=>by
  cases us with
  |nil=>exact nomatch h.1
  |cons u us=>
   obtain⟨a,v⟩:=u
   have h1:=eH h.1
   have ab:a=b:=h1.1
   obtain⟨v',ws,e2,r⟩:=h.2
   have e2:=eH e2
   have ih:=dA.find k kvs us ⟨h1.2,(show us.map Prod.snd=ws from e2.2)▸r.2⟩
   have x1:=oB (fun p:Int×aa=>p.2) (fun p=>p.1==k) (b,d) kvs
   by_cases hk:a=k
   ·have x1:fj ((b,d)::kvs) k=some d:=x1.trans (if_pos (beq_iff_eq.mpr (ab.symm.trans hk)))
    have x2:valueAt ((a,v)::us) k=some v:=(oB (fun p:Int×Value=>p.2) (fun p=>decide (p.1=k)) (a,v) us).trans (if_pos (decide_eq_true hk))
    rw[x1,x2]
    exact⟨rfl,fun d' e=>a8 e▸⟨v,rfl,(show v=v' from e2.1)▸r.1⟩⟩
   ·have x1:fj ((b,d)::kvs) k=fj kvs k:=x1.trans (if_neg fun z=>hk (ab.trans (beq_iff_eq.mp z)))
    have x2:valueAt ((a,v)::us) k=valueAt us k:=(oB (fun p:Int×Value=>p.2) (fun p=>decide (p.1=k)) (a,v) us).trans (if_neg fun z=>hk (of_decide_eq_true z))
    rw[x1,x2]
    exact ih
section
open Classical
theorem bU.find {γ:RM}{k:aa}:∀(kvs:List (aa×Int)) (xs:List (aa×Addr×Value)),bU γ kvs xs→(atKey xs k).isSome=(eJ kvs k).isSome∧∀i,eJ kvs k=some i→∃a t,atKey xs k=some (a,.int i t)
 |[],xs,h=>(show xs=[] from h)▸⟨rfl,fun _ e=>nomatch e⟩
 |p::kvs,xs,⟨a,t,ys,e,h⟩=>by
  subst e
  have ih:=bU.find (k:=k) kvs ys h.2.2
  have x1:=oB (fun p:aa×Int=>p.2) (fun p=>decide (p.1=k)) p kvs
  have x2:=oB (fun x:aa×Addr×Value=>x.2) (fun x=>decide (x.1=k)) (p.1,a,.int p.2 t) ys
  by_cases hk:p.1=k
  ·rw[show eJ (p::kvs) k=some p.2 from x1.trans (if_pos (decide_eq_true hk)),show atKey ((p.1,a,.int p.2 t)::ys) k=some (a,.int p.2 t) from x2.trans (if_pos (decide_eq_true hk))]
   exact⟨rfl,fun i e=>a8 e▸⟨a,t,rfl⟩⟩
  ·rw[show eJ (p::kvs) k=eJ kvs k from x1.trans (if_neg fun z=>hk (of_decide_eq_true z)),show atKey ((p.1,a,.int p.2 t)::ys) k=atKey ys k from x2.trans (if_neg fun z=>hk (of_decide_eq_true z))]
   exact ih
theorem bU.keys {γ:RM}{h:Heap}(S:b9 γ h):∀(kvs:List (aa×Int)) (xs:List (aa×Addr×Value)),bU γ kvs xs→∀x∈xs,mz h x.1 x.2.1
 |[],xs=>fun e x hx=>nomatch ((show xs=[] from e)▸hx:x∈([]:List (aa×Addr×Value)))
 |p::kvs,xs=>fun r x hx=>Exists.elim r fun a q=>q.elim fun t q=>q.elim fun ys q=>(bC.mp (q.1▸hx:x∈(p.1,a,Value.int p.2 t)::ys)).elim (fun z=>by subst z;exact⟨q.2.1,Rd.reads S _ _ q.2.2.1⟩) fun z=>bU.keys S kvs ys q.2.2.2 x z
end
section
variable {W:Wd}{f:Fc W}{C:Cp W f}{Q:Value→Shared→Prop}{v u:Value}
inductive lA (Z:Bs)(h:Heap)(γ:RM)(kvs:List (aa×Int))(v:Value):Prop
 |mk (a:Addr) (xs:List (aa×Addr×Value)) (e:v= .ref a) (s:a≠jV) (d: @Heap.DictOfH _ _ _ (fun a b=>Classical.propDecidable (a=b)) (gj Z.prog Z.w) h a xs) (r:bU γ kvs xs)
theorem lA.elim {Z:Bs}{h:Heap}{γ:RM}{kvs:List (aa×Int)}{P:Prop}(x:lA Z h γ kvs v)(k:∀(a:Addr) (xs:List (aa×Addr×Value)),v= .ref a→a≠jV→ @Heap.DictOfH _ _ _ (fun a b=>Classical.propDecidable (a=b)) (gj Z.prog Z.w) h a xs→bU γ kvs xs→P):P:=x.casesOn k
theorem qr {kvs:List (aa×Int)}{ρ:b8}(r:bj W.Z C.g.γ C.s.heap ρ (.tdct kvs) v):lA W.Z C.s.heap C.g.γ kvs v:=
 At.elim r fun a o e f p=>p.casesOn fun xs s es ep x1 x2 x3 x4 r=>⟨a,xs,e,s,⟨o,es,ep,f.2,x1,x2,x3,bU.keys C.sr.frz _ _ r,x4⟩,r⟩
theorem zG {kvs:List (Int×aa)}{ρ:b8}(r:bj W.Z C.g.γ C.s.heap ρ (.dct kvs) v)(e:kvs.isEmpty=true):lA W.Z C.s.heap C.g.γ [] v:=
 At.elim r fun a o e' f p=>p.elim fun us s d r=>by
  cases kvs with
  |cons _ _=>cases e
  |nil=>
   have:us=[]:=kR.mp r.length
   subst this
   exact d.casesOn fun es ep x1 x2 x3 x4 x5=>⟨a,[],e',s,⟨o,es,ep,f.2,x1,x2,(by cases hq:es.toList with|nil=>rfl|cons _ _=>rw[hq] at x4;cases x4),fun x hx=>(aJ hx).elim,List.nodup_nil⟩,rfl⟩
theorem Rd.key {k:aa}(r:Rd C.g.γ k v)(h:cq k=true):∃a,v= .ref a∧mz C.s.heap k a:=by
 cases k with
 |tuple xs=>exact At.elim r fun a o e f p=>⟨a,e,h,e▸Rd.reads C.sr.frz _ _ r⟩
 | _=>exact absurd (aP.mp h).2 nofun
abbrev oC (C:Cp W f)(Q:Value→Shared→Prop)(b:Value):Prop:=∀t,Q b {C.s with toks:=t}
theorem Fc.un9 (f:Fc W):f.F.A.units+1+8<cLine:=by have:=f.un;omega
theorem HS {x k:aa}{xs:List aa}{b:Bool}(rc:Rd C.g.γ x v)(e:ic x=some xs)(rk:Rd C.g.γ k u)(e2:tg xs k=some b)(h:Q (.bool b) C.s):f.wp (jX .In u v) Q C.s:=
 have q:=cG.mp e2
 have q1:=aP.mp q.1
 have hk:=aP.mp q1.2
 have all:∀ys:List aa,ys.all eI=true→PyData.canLayAll0 ys=true∧ml ys≤64:=fun ys=>by
  induction ys with
  |nil=>exact fun _=>⟨rfl,bz _⟩
  |cons y ys ih=>exact fun h=>have p:=aP.mp h;have p1:=aP.mp p.1;⟨aP.mpr ⟨p1.1,(ih p.2).1⟩,Nat.max_le.mpr ⟨of_decide_eq_true p1.2,(ih p.2).2⟩⟩
 have hz:f.F.A.units+1+min (ml xs) k.depth<cLine:=aX (cy (ai (Nat.min_le_left _ _) (all xs q1.1).2) _) (by have:=f.un;omega)
 (Rd.reads C.sr.frz _ _ rk).elim fun _ rk=>(Rd.reads C.sr.frz _ _ rc).elim fun _ rc=>(lz e).elim
  (fun z=>by subst z;exact SeqAt.in_list_reads rc rk (all xs q1.1).1 hk.1 hz ((a8 q.2).symm▸h))
  fun z=>by subst z;exact SeqAt.in_tuple_reads rc rk (all xs q1.1).1 hk.1 hz ((a8 q.2).symm▸h)
theorem zH {kvs:List (Int×aa)}{k:aa}{i:Int}(x:iS W.Z C.s.heap C.g.γ kvs v)(rk:Rd C.g.γ k u)(e:cg k=some i)(h:oC C Q (.bool (fj kvs i).isSome)):f.wp (jX .In u v) Q C.s:=
 x.elim fun a us e1 s d r=>(rk.int' e).elim fun t e2=>e1▸e2▸wpAny_in_of (knd:=bR W.Z.prog W.Z.w) (k:=i) (by simp [bR,Value.isInt]) (by simpa using s) d.mapOf (((r.find i).1).symm▸h _)
open Classical in
theorem zJ {kvs:List (aa×Int)}{k:aa}(x:lA W.Z C.s.heap C.g.γ kvs v)(rk:Rd C.g.γ k u)(hk:cq k=true)(h:oC C Q (.bool (eJ kvs k).isSome)):f.wp (jX .In u v) Q C.s:=
 x.elim fun a xs e1 s d r=>(rk.key hk).elim fun b q=>e1▸q.1▸wpAny_in_heap (knd:=gj W.Z.prog W.Z.w) (k:=k) f.un9 q.2 (by simpa using s) d (((bU.find kvs xs r).1).symm▸h _)
theorem zK {s:Slot}{ρ:b8}{k:aa}{b:Bool}(rc:bj W.Z C.g.γ C.s.heap ρ s v)(rk:Rd C.g.γ k u)(e:dv s k=some b)(h:oC C Q (.bool b)):f.wp (jX .In u v) Q C.s:=by
 cases s with
 |pv p=>cases p with
  |d x=>exact(bG.mp e).elim fun xs q=>HS rc q.1 rk q.2 (h C.s.toks)
  |kd kvs=>exact(cC.mp e).elim fun i q=>zH (oA rc) rk q.1 (q.2.symm▸h)
  | _=>cases e
 |lst xs=>cases e
 |dct kvs=>
  have gen:(if (kvs.isEmpty&&cq k)=true then some false else none)=some b→f.wp (jX .In u v) Q C.s:=fun e=>have q:=cG.mp e;have q1:=aP.mp q.1
   zJ (zG rc q1.1) rk q1.2 (show oC C Q (.bool false) from a8 q.2▸h)
  cases k with
  |int i=>exact zH (qq rc) rk rfl (a8 e▸h)
  | _=>exact gen e
 |tdct kvs=>exact have q:=cG.mp e;zJ (qr rc) rk q.1 (a8 q.2▸h)
theorem HT {s:Slot}{ρ:b8}{k:aa}{b:Bool}(rc:bj W.Z C.g.γ C.s.heap ρ s v)(rk:Rd C.g.γ k u)(e:dv s k=some b)(h:oC C Q (.bool (!b))):f.wp (jX .NotIn u v) Q C.s:=by
 have h2:f.wp (contains v u) (fun y s'=>y=b∧∃t,s'={C.s with toks:=t}) C.s:=by
  intro Γ p hΓ
  have:=zK (Q:=fun v s'=>v= .bool b∧∃t,s'={C.s with toks:=t}) rc rk e (fun t=>⟨rfl,t,rfl⟩) Γ p hΓ
  change Sem.wp _ Γ (contains v u>>=fun y=>pure (Value.bool y)) _ _ p _ at this
  rw[Sem.wp_bind'] at this
  exact Sem.wp_mono _ Γ _ (fun y p' s' hy=>⟨by injection hy.1,hy.2⟩) (fun _ _ _ e=>e) p _ this
 exact ag (m:=contains v u) (cZ h2 (fun y s' hy=>hy.2.elim fun t e=>by rw[hy.1,e];exact ak (h t)) fun _ _ e=>e)
theorem zL {xs:List aa}{i:Int}{t:Tok}{d:aa}(x:fU "list" C.s.heap C.g.γ xs v)(e:cU xs i=some d)(h:aU f C Q (.d d)):f.wp (gg v (.int i t)) Q C.s:=
 x.elim fun a vs o n e1 g c dd z r=>by
  subst e1
  have hz:=z
  have hl:=RdL.length _ _ r
  rw[ff] at hz
  unfold cU at e
  split at e
  ·rename_i h0
   exact(RdL.get _ _ r e).elim fun y q=>wpAny_getItem_list ⟨o,g,c,n,dd⟩ h0 (by have:=(fG.mp q.1).1;omega) (nP.trans q.1) (h.same q.2)
  ·have q:=cG.mp e
   exact(RdL.get _ _ r q.2).elim fun y p=>wpAny_getItem_list_neg ⟨o,g,c,n,dd⟩ (by omega) (by have:=q.1;simp;omega) (by have:=q.1;omega) (by rw[jg,hl];exact nP.trans p.1) (h.same p.2)
theorem zM {k:Int}{n:Nat}(h:n≤dJ)(h0:0≤k)(h1:k.toNat<n):seqIndex? k n=some k.toNat∧k<2 ^ 63:=by
 rw[ff] at h
 unfold seqIndex?
 have h2:¬k<0:=by omega
 have h3:k<n:=by omega
 simp [h2,h0,h3];omega
theorem HU {xs:List aa}{i:Int}{t:Tok}{d:aa}(x:fU "tuple" C.s.heap C.g.γ xs v)(e:cU xs i=some d)(h:aU f C Q (.d d)):f.wp (gg v (.int i t)) Q C.s:=
 x.elim fun a vs o n e1 g c dd z r=>by
  subst e1
  have hz:=z
  have hl:=RdL.length _ _ r
  rw[ff] at hz
  unfold cU at e
  split at e
  ·rename_i h0
   exact(RdL.get _ _ r e).elim fun y q=>have s:=zM z h0 (fG.mp q.1).1;getItem_tuple ⟨o,g,c,n,dd⟩ (by omega) s.2 s.1 (nP.trans q.1) (h.same q.2)
  ·have q:=cG.mp e
   exact(RdL.get _ _ r q.2).elim fun y p=>getItem_tuple ⟨o,g,c,n,dd⟩ (by have:=q.1;omega) (by omega) (seqIndex_neg (by omega) (by have:=q.1;simp;omega)) (by rw[jg,hl];exact nP.trans p.1) (h.same p.2)
theorem zO {kvs:List (Int×aa)}{i:Int}{t:Tok}{d:aa}(x:iS W.Z C.s.heap C.g.γ kvs v)(e:fj kvs i=some d)(h:aU f C Q (.d d)):f.wp (gg v (.int i t)) Q C.s:=
 x.elim fun a us e1 s m r=>((r.find i).2 d e).elim fun y q=>e1▸wpAny_getItem_of (knd:=bR W.Z.prog W.Z.w) (k:=i) (by simp [bR,Value.isInt]) m.mapOf q.1 (h.tok q.2)
open Classical in
theorem HV {kvs:List (aa×Int)}{k:aa}{i:Int}(x:lA W.Z C.s.heap C.g.γ kvs v)(rk:Rd C.g.γ k u)(hk:cq k=true)(e:eJ kvs k=some i)(h:aU f C Q (.d (.int i))):f.wp (gg v u) Q C.s:=
 x.elim fun a xs e1 s d r=>(rk.key hk).elim fun b q=>((bU.find kvs xs r).2 i e).elim fun c p=>p.elim fun t p=>e1▸q.1▸wpAny_getItem_heap (knd:=gj W.Z.prog W.Z.w) (k:=k) f.un9 q.2 d p (h.tok ⟨t,rfl⟩)
def Sub (f:Fc W)(C:Cp W f)(v u:Value)(d:aa):Prop:=
 (∃T id,C.s.TypeIs v T∧typeLookup (.type T) "__getitem__"=pure (some (.builtin id)))∧∀Q,aU f C Q (.d d)→f.wp (gg v u) Q C.s
theorem tK {T:String}{xs:List aa}{d:aa}{id:String}(x:fU T C.s.heap C.g.γ xs v)(l:typeLookup (.type T) "__getitem__"=pure (some (.builtin id)))(k:∀Q,aU f C Q (.d d)→f.wp (gg v u) Q C.s):Sub f C v u d:=
 ⟨x.elim fun a vs o n e g c dd z r=>e▸⟨T,id,⟨o,g,c⟩,l⟩,k⟩
theorem zP {kvs:List (Int×aa)}{d:aa}(x:iS W.Z C.s.heap C.g.γ kvs v)(k:∀Q,aU f C Q (.d d)→f.wp (gg v u) Q C.s):Sub f C v u d:=
 ⟨x.elim fun a us e s m r=>e▸⟨"dict",_,m.typeIs,slot_dict_getitem.lookup⟩,k⟩
open Classical in
theorem zQ {s:Slot}{ρ:b8}{k d:aa}(rc:bj W.Z C.g.γ C.s.heap ρ s v)(rk:Rd C.g.γ k u)(e:j3 s k=some d):Sub f C v u d:=by
 cases s with
 |pv p=>cases p with
  |d x=>exact(bG.mp e).elim fun xs q=>(bG.mp q.2).elim fun i q2=>(rk.int' q2.1).elim fun t e2=>e2▸(lz q.1).elim (fun z=>by subst z;exact tK (bI C.sr.frz rc) list_getitem_lookup fun Q=>zL (bI C.sr.frz rc) q2.2) fun z=>by subst z;exact tK (bI C.sr.frz rc) slot_tuple_getitem.lookup fun Q=>HU (bI C.sr.frz rc) q2.2
  |kd kvs=>exact(bG.mp e).elim fun i q=>(rk.int' q.1).elim fun t e2=>e2▸zP (oA rc) fun Q=>zO (oA rc) q.2
  | _=>cases e
 |lst xs=>exact(bG.mp e).elim fun i q=>(rk.int' q.1).elim fun t e2=>e2▸tK (qj rc) list_getitem_lookup fun Q=>zL (qj rc) q.2
 |dct kvs=>exact(bG.mp e).elim fun i q=>(rk.int' q.1).elim fun t e2=>e2▸zP (qq rc) fun Q=>zO (qq rc) q.2
 |tdct kvs=>exact have q:=cG.mp e;(cC.mp q.2).elim fun i q2=>⟨(qr rc).elim fun a xs e s d r=>e▸⟨"dict",_,d.typeIs,slot_dict_getitem.lookup⟩,fun Q h=>HV (qr rc) rk q.1 q2.1 (q2.2.symm▸h)⟩
end
section
variable {prog:Program}{w:World}{A:Around}{E:Value→Shared→Prop}{s:Shared}
theorem HW {sl:Addr}{n:Nat}{u u':Tok}{Q:Int×Int×Nat→Shared→Prop}(hs:s.heap.IsSliceOf sl (.int 1 u) (.int 2 u') .none)(hb:2≤n)(h:Q (1,1,1) s):
 wpAny (model prog w) A (Builtin.Slice.sliceApplied (.ref sl) (pure (n:Int))) Q E s:=by
 have e:Builtin.Slice.sliceAdjust (some 1) (some 2) 1 (n:Int)=(1,2):=by
  show (min (1:Int) n,min (2:Int) n)=(1,2)
  rw[Int.min_eq_left (show (1:Int)≤n from eX.mpr (Nat.le_of_succ_le hb)),Int.min_eq_left (show (2:Int)≤n from eX.mpr hb)]
 obtain⟨os,hos,hcs,hds⟩:=id hs
 unfold Builtin.Slice.sliceApplied Builtin.Slice.sliceFields
 refine ag (ag (wpAny_field hos hds (x:=.int 1 u) rfl (ag (wpAny_field hos hds (x:=.int 2 u') rfl (ag (wpAny_field hos hds (x:=.none) rfl (ak ?_)))))))
 refine ag (slicePart_none ?_)
 show wpAny _ _ (if ((1:Int)==0)=true then _ else _) _ _ s
 rw[if_neg (by decide)]
 refine ag (slicePart_int (ag (slicePart_int (ag (ak ?_)))))
 show wpAny _ _ (match Builtin.Slice.sliceAdjust (some (1:Int)) (some (2:Int)) 1 (n:Int) with|(lo,hi)=>pure (lo,(1:Int),Builtin.Slice.slicePlaces lo hi 1)) _ _ s
 rw[e]
 exact ak h
theorem HX:∀vs:List Value,((c0 1).filterMap fun(k:Nat)=>vs.toArray[((1:Int)+(k:Int)*1).toNat]?).toArray=((vs.drop 1).take 1).toArray
 |[]=>rfl
 |[_]=>rfl
 | _:: _:: _=>rfl
theorem HY {t sl:Addr}{vs:List Value}{u u':Tok}{Q:Value→Shared→Prop}(ht:IsTup s.heap t vs.toArray)(hl:2≤vs.length)(hs:s.heap.IsSliceOf sl (.int 1 u) (.int 2 u') .none)
 (h:Q (.ref s.heap.objs.size) {s with heap:=s.heap.push {cls:=.type "tuple",data:=.seq ((vs.drop 1).take 1).toArray}}):wpAny (model prog w) A (gg (.ref t) (.ref sl)) Q E s:=by
 obtain⟨os,hos,hcs,hds⟩:=id hs
 have hTs:s.TypeIs (.ref sl) "slice":=⟨os,hos,hcs⟩
 unfold gg
 try with_reducible refine dR ?_
 first|refine ag (ak ?_)|skip
 refine ag (wpAny_sequenceKey ht.typeIs (by decide) ?_)
 refine ag (wpAny_callSpecial?_slot (name:="__getitem__") ht.typeIs slot_tuple_getitem
  (kZ slot_tuple_getitem ht.typeIs entry_tuple_getitem ?_ (args_tuple_getitem _ _)))
 show wpAny _ _ (yS (.ref t)>>= _) _ _ s
 refine ag (tupleItemsOf_ ht ?_)
 refine ag (wpAny_typeOf hTs ?_)
 rw[if_pos (by decide)]
 refine ag (HW (n:=vs.length) hs hl ?_)
 show wpAny _ _ (if ((1:Int)==0&&(1:Int)==1&&1==vs.toArray.size)=true then _ else _) _ _ s
 rw[if_neg (show ¬(((1:Int)==0&&(1:Int)==1&&1==vs.toArray.size)=true) from fun z=>cT z),HX]
 have hdrop:sizeOk (.seq ((vs.drop 1).take 1).toArray):=ai (List.length_take_le 1 _) (by rw[ff];decide)
 first
  |exact ag (m:=yT _) (kY (ak ⟨_,rfl,ak h⟩) hdrop)
  |exact ag (m:=yT _) (kY (ag (ak (ak ⟨_,rfl,ak h⟩))) hdrop)
  |exact ag (ag (m:=yT _) (kY (ak (ak ⟨_,rfl,ak h⟩)) hdrop))
  |exact ag (ag (m:=yT _) (kY (ak ⟨_,rfl,ak h⟩) hdrop))
end
section
variable {W:Wd}{f:Fc W}{C:Cp W f}{Q:Value→Shared→Prop}{v u:Value}
theorem HZ (vs:List Value)(k:Nat):slicePick vs.toArray (some (k:Int)) none none=(vs.drop k).toArray:=by
 by_cases hk:k≤vs.length
 ·exact slicePick_from _ _ hk
 ·have e1:sliceBounds (some (k:Int)) none none vs.length=((vs.length:Int),(vs.length:Int),1):=by
   simp only[sliceBounds,Option.getD_none]
   have h1:¬((k:Int)<0):=by omega
   simp only[h1,if_false,show (1:Int)>0 by decide,if_true]
   congr 1;omega
  unfold slicePick
  simp only[jg,e1,sliceRange_one,pick_run]
  rw[List.drop_of_length_le (show vs.length≤k by omega)];simp
theorem H0 (vs:List Value)(k:Nat):slicePick vs.toArray none (some (k:Int)) none=(vs.take k).toArray:=by
 by_cases hk:k≤vs.length
 ·exact slicePick_upto _ _ hk
 ·have e1:sliceBounds none (some (k:Int)) none vs.length=(((0:Nat):Int),(vs.length:Int),1):=by
   simp only[sliceBounds,Option.getD_none]
   have h1:¬((k:Int)<0):=by omega
   simp only[h1,if_false,show (1:Int)>0 by decide,if_true]
   congr 1;congr 1;omega
  unfold slicePick
  simp only[jg,e1,sliceRange_one,pick_run]
  rw[yX (show vs.length≤k by omega)];simp
theorem qt {i:Int}(h:0≤i):i=(i.toNat:Int):=(mf h).symm
theorem H5 {xs ys:List aa}{vl vu:Value}{lo hi:Option Int}{sl:Addr}(x:fU "list" C.s.heap C.g.γ xs v)(hs:C.s.heap.IsSliceOf sl vl vu .none)
 (pl:IsPart vl lo) (pu:IsPart vu hi) (e:y9 xs lo hi=some ys) (h:aU f C Q (.d (.list ys))):f.wp (gg v (.ref sl)) Q C.s:=
 x.elim fun a vs o n e1 g c d z r=>by
  have go:∀ws:List Value,ws.length≤vs.length→RdL C.g.γ ys ws→slicePick vs.toArray lo hi none=ws.toArray→f.wp (gg v (.ref sl)) Q C.s:=fun ws hw rw' hp=>
   e1▸wpAny_getItem_list_slice ⟨o,g,c,n,d⟩ hs pl pu .none nofun (hp.symm▸h.new (t:=C.s.toks) rfl (ls rw' (ai hw z) rfl rfl)) z
  cases lo with
  |none=>cases hi with
   |none=>cases e
   |some b=>
    have q:=cG.mp e
    exact go _ (by rw[List.length_take];exact Nat.min_le_right _ _) (a8 q.2▸RdL.take b.toNat _ _ r) (qt q.1▸H0 vs b.toNat)
  |some a=>cases hi with
   |none=>
    have q:=cG.mp e
    exact go _ (by rw[List.length_drop];exact Nat.sub_le _ _) (a8 q.2▸RdL.drop a.toNat _ _ r) (qt q.1▸HZ vs a.toNat)
   |some b=>
    have q:=cG.mp e
    have hl:=RdL.length _ _ r
    exact go _ (ai (List.length_take_le' _ _) (List.length_drop▸Nat.sub_le _ _)) (a8 q.2▸RdL.take _ _ _ (RdL.drop a.toNat _ _ r))
     (by rw[qt q.1.1,qt (Int.le_trans q.1.1 q.1.2.1)];exact slicePick_run _ _ _ (ai (Int.toNat_le.mpr q.1.2.2) (bg hl.symm)) (Int.toNat_le_toNat q.1.2.1))
theorem H6 {xs ys:List aa}{vl vu:Value}{lo hi:Option Int}{sl:Addr}(x:fU "tuple" C.s.heap C.g.γ xs v)(hs:C.s.heap.IsSliceOf sl vl vu .none)
 (pl:IsPart vl lo) (pu:IsPart vu hi) (e:zc xs lo hi=some ys) (h:aU f C Q (.d (.tuple ys))):f.wp (gg v (.ref sl)) Q C.s:=
 x.elim fun a vs o n e1 g c d z r=>by
  cases pl with
  |none=>cases e
  |int i t=>cases pu with
   |none=>cases e
   |int j t'=>
    have q:=cG.mp e
    rw[q.1.1,q.1.2.1] at hs
    exact e1▸HY ⟨o,g,c,n,d⟩ (ai q.1.2.2 (bg (RdL.length _ _ r).symm)) hs (h.new (t:=C.s.toks) rfl (ls (a8 q.2▸RdL.take 1 _ _ (RdL.drop 1 _ _ r)) (ai (List.length_take_le 1 _) (by rw[ff];decide)) rfl rfl))
theorem H7 {x y:aa}{vl vu:Value}{lo hi:Option Int}{sl:Addr}(rx:Rd C.g.γ x v)(hs:C.s.heap.IsSliceOf sl vl vu .none)
 (pl:IsPart vl lo) (pu:IsPart vu hi) (e:ll x lo hi=some y) (h:aU f C Q (.d y)):(∃T id,C.s.TypeIs v T∧typeLookup (.type T) "__getitem__"=pure (some (.builtin id)))∧f.wp (gg v (.ref sl)) Q C.s:=by
 cases x with
 |list xs=>exact(cC.mp e).elim fun ys q=>have x:=bI C.sr.frz rx;⟨x.elim fun a vs o n e g c d z r=>e▸⟨"list",_,⟨o,g,c⟩,list_getitem_lookup⟩,H5 x hs pl pu q.1 (q.2.symm▸h)⟩
 |tuple xs=>exact(cC.mp e).elim fun ys q=>have x:=bI C.sr.frz rx;⟨x.elim fun a vs o n e g c d z r=>e▸⟨"tuple",_,⟨o,g,c⟩,slot_tuple_getitem.lookup⟩,H6 x hs pl pu q.1 (q.2.symm▸h)⟩
 | _=>cases e
end
abbrev tL (T:String):Prop:=T="list_iterator"∨T="tuple_iterator"∨T="dict_keyiterator"∨T="range_iterator"
inductive dc (Z:Bs)(γ:RM)(h:Heap)(xs:List aa)(I:Addr):Prop
 |mk (fp:List Addr) (P:Nat→Value→Prop) (St:Nat→Heap→Prop) (i:Nat) (w:∀A:Around,A.handled=none→Walks Z.prog Z.w A I fp [I] (i+xs.length) P St) (st:St i h) (p:∀j v d,P (i+j) v→xs[j]? =some d→Rd γ d v)
  (fz:∀b∈fp,b=I∨∃o,γ b= .frz o) (c:∀j h,St j h→∃T o,h.get? I=some o∧o.cls= .type T∧tL T)
section
variable {Z:Bs}{γ γ':RM}{h h':Heap}{xs:List aa}{x:aa}{I:Addr}{A:Around}{E:Value→Shared→Prop}{s:Shared}{Q:Option Value→Shared→Prop}
theorem dc.mono (it:dc Z γ h xs I)(S:b9 γ h)(S':b9 γ' h')(l:iQ γ γ')(e:h'.get? I=h.get? I):dc Z γ' h' xs I:=
 it.casesOn fun fp P St i w st p fz c=>⟨fp,P,St,i,w,(w {} rfl).frame i h h' st fun b hb o q=>(fz b hb).elim (fun z=>z▸e.trans (z▸q)) fun z=>z.elim fun o' z=>a8 ((S b o' z).symm.trans q)▸S' b o' (l b o' z),
  fun j v d hp hd=>Rd.mono l d v (p j v d hp hd),fun b hb=>(fz b hb).imp id fun z=>z.imp fun o z=>l b o z,c⟩
abbrev lB (I:Addr)(s s':Shared):Prop:=(∀b o,b≠I→s.heap.get? b=some o→s'.heap.get? b=some o)∧s'.gens=s.gens∧s'.os=s.os
theorem zS {tk:Nat}(hk:∀b o,b∉[I]→s.heap.get? b=some o→h'.get? b=some o):lB I s {s with heap:=h',toks:=tk}:=⟨fun b o n e=>hk b o (fun z=>n (aM.mp z)) e,rfl,rfl⟩
theorem dc.next (hA:A.handled=none)(it:dc Z γ s.heap (x::xs) I)(k:∀v s',Rd γ x v→dc Z γ s'.heap xs I→lB I s s'→Q (some v) s'):wpAny Z.m A (fh (.ref I)) Q E s:=
 it.casesOn fun fp P St i w st p fz c=>(w A hA).item i s Q E (Nat.lt_add_of_pos_right (Nat.succ_pos _)) st fun v h' tk hp st' hk=>k v _ (p 0 v x hp rfl)
  ⟨fp,P,St,i+1,(Nat.succ_add i xs.length).symm▸w,st',fun j v d hp hd=>p (j+1) v d (Nat.succ_add_eq_add_succ i j▸hp) hd,fz,c⟩ (zS hk)
theorem dc.done (hA:A.handled=none)(it:dc Z γ s.heap [] I)(k:∀s',lB I s s'→Q none s'):wpAny Z.m A (fh (.ref I)) Q E s:=
 it.casesOn fun fp P St i w st p fz c=>(w A hA).done s Q E st fun h' tk hk=>k _ (zS hk)
theorem dc.self {Qv:Value→Shared→Prop}(hA:A.handled=none)(it:dc Z γ s.heap xs I)(k:Qv (.ref I) s):wpAny Z.m A (pyIter (.ref I)) Qv E s:=
 it.casesOn fun fp P St i w st p fz c=>(w A hA).self i s Qv E st k
theorem dc.obj (it:dc Z γ h xs I):∃T o,h.get? I=some o∧o.cls= .type T∧tL T:=it.casesOn fun fp P St i w st p fz c=>c i h st
end
section
variable {W:Wd}{f:Fc W}{C:Cp W f}{Q:Value→Shared→Prop}{v u:Value}{A:Around}
theorem H8 (n:Nat):Builtin.Range.rangeSize 0 (n:Int) 1=(n:Int):=by
 rw[rangeSize_one];split<;>omega
theorem oD {p:PV}{xs:List aa}(hp:bL W.Z C.g.γ p v)(e:gh p=some xs)(k:∀o,o.isFreed=false→dc W.Z C.g.γ (C.s.heap.push o) xs C.s.heap.objs.size→Q (.ref C.s.heap.objs.size) {C.s with heap:=C.s.heap.push o}):
 wpAny W.Z.m A (pyIter v) Q Nx C.s:=by
 have S:=C.sr.frz
 have lst:∀{xs:List aa},Rd C.g.γ (.list xs) v→(∀o,o.isFreed=false→dc W.Z C.g.γ (C.s.heap.push o) xs C.s.heap.objs.size→Q (.ref C.s.heap.objs.size) {C.s with heap:=C.s.heap.push o})→wpAny W.Z.m A (pyIter v) Q Nx C.s:=fun r k=>
  At.elim r fun a o e f p=>p.elim fun vs n c d z r=>by
   have hl:C.s.heap.IsList a vs.toArray:=⟨o,S a o f,c,n,d⟩
   have hne:a≠C.s.heap.objs.size:=dT (fI (S a o f))
   exact e▸wpAny_pyIter_list hl (k _ rfl ⟨[C.s.heap.objs.size,a],fun i v=>vs.toArray[i]? =some v,fun i h=>h.IsListIter C.s.heap.objs.size a i∧h.IsList a vs.toArray,0,
    fun A hh=>by rw[bQ,←RdL.length _ _ r];exact Walks.list hh _ a hne vs.toArray,⟨⟨_,dH _ rfl,rfl,rfl⟩,hl.push _⟩,
    fun j v d hv hd=>(RdL.get _ _ r hd).elim fun v' q=>by rw[bQ,nP,q.1] at hv;exact a8 hv▸q.2,
    fun b hb=>(bC.mp hb).imp id fun z=>⟨o,(congrArg C.g.γ (aM.mp z)).trans f⟩,fun j h st=>st.1.elim fun o q=>⟨_,o,q.1,q.2.1,.inl rfl⟩⟩)
 have tup:∀{xs:List aa},Rd C.g.γ (.tuple xs) v→(∀o,o.isFreed=false→dc W.Z C.g.γ (C.s.heap.push o) xs C.s.heap.objs.size→Q (.ref C.s.heap.objs.size) {C.s with heap:=C.s.heap.push o})→wpAny W.Z.m A (pyIter v) Q Nx C.s:=fun r k=>
  At.elim r fun a o e f p=>p.elim fun vs n c d z r=>by
   have hl:C.s.heap.IsTuple a vs.toArray:=⟨o,S a o f,c,n,d⟩
   have hne:a≠C.s.heap.objs.size:=dT (fI (S a o f))
   exact e▸wpAny_pyIter_tuple hl (k _ rfl ⟨[C.s.heap.objs.size,a],fun i v=>vs.toArray[i]? =some v,fun i h=>h.IsTupleIter C.s.heap.objs.size a i∧h.IsTuple a vs.toArray,0,
    fun A hh=>by rw[bQ,←RdL.length _ _ r];exact Walks.tuple hh _ a hne vs.toArray,⟨⟨_,dH _ rfl,rfl,rfl⟩,Heap.IsTuple.push hl _⟩,
    fun j v d hv hd=>(RdL.get _ _ r hd).elim fun v' q=>by rw[bQ,nP,q.1] at hv;exact a8 hv▸q.2,
    fun b hb=>(bC.mp hb).imp id fun z=>⟨o,(congrArg C.g.γ (aM.mp z)).trans f⟩,fun j h st=>st.1.elim fun o q=>⟨_,o,q.1,q.2.1,.inr (.inl rfl)⟩⟩)
 cases p with
 |d x=>exact(lz e).elim (fun z=>by subst z;exact lst hp k) fun z=>by subst z;exact tup hp k
 |o k=>cases e
 |kd kvs=>
  cases e
  refine At.elim hp fun a o e f p=>p.elim fun us hs di r=>?_
  have hne:a≠C.s.heap.objs.size:=dT (fI (S a o f))
  refine di.casesOn fun es ep x1 x2 x3 x4 x5=>?_
  have hat:C.s.heap.DictOf (bR W.Z.prog W.Z.w) a us:=⟨o,es,ep,S a o f,x1,x2,x3,x4,x5⟩
  obtain⟨ep,hat⟩:=hat.dictAt
  exact e▸wpAny_pyIter_dict (by simpa using hs) hat (k _ rfl ⟨[C.s.heap.objs.size,a],fun i v=>∃k x,us[i]? =some (k,x)∧(bR W.Z.prog W.Z.w).is k v=true,fun i h=>h.IsKeyIter C.s.heap.objs.size a i us.length ep∧h.DictAt (bR W.Z.prog W.Z.w) a us ep,0,
   fun A hh=>by rw[bQ,aB,←r.length];exact Walks.dictKeys hh _ a hne us ep,⟨⟨_,dH _ rfl,rfl,rfl⟩,hat.push _⟩,
   fun j v d hv hd=>hv.elim fun i q=>q.elim fun x q=>by
    have e1:(us.map (·.1))[j]? =some i:=by rw[f9,←bQ j,q.1];rfl
    rw[r.1,f9] at e1
    obtain⟨y,hy,rfl⟩:=cC.mp e1
    rw[f9,hy] at hd
    cases hd
    have q2:=q.2
    cases v<;>simp [bR,Value.isInt] at q2
    exact q2▸⟨_,rfl⟩,
   fun b hb=>(bC.mp hb).imp id fun z=>⟨o,(congrArg C.g.γ (aM.mp z)).trans f⟩,fun j h st=>st.1.elim fun o q=>⟨_,o,q.1,q.2.1,.inr (.inr (.inl rfl))⟩⟩)
 |rg n=>
  cases e
  refine At.elim hp fun a o e f p=>?_
  obtain⟨hn,t,u,w,rfl⟩:=p
  have hl:aH=65536:=rfl
  exact e▸wpAny_pyIter_range (a:=0) (b:=n) (c:=1) (S a _ f) (small_one (by omega) (by omega) (by omega) (by omega)) (k _ rfl ⟨[C.s.heap.objs.size],fun i v=>∃t,v= .int (0+(i:Nat)*1) t,fun i h=>IsRangeIter h C.s.heap.objs.size (0+(i:Nat)*1) ((n:Int) - (i:Nat)) 1,0,
   fun A hh=>by rw[bQ,aB,List.length_range];exact Walks.range hh _ 0 1 n,
   by rw[H8];simpa [IsRangeIter] using dH C.s.heap (o:={cls:=.type "range_iterator",data:=.fields #[c4 0,c4 n,c4 1]}) rfl,
   fun j v d hv hd=>by
    obtain⟨t,rfl⟩:=hv
    rw[f9] at hd
    obtain⟨y,hy,rfl⟩:=cC.mp hd
    have:=(fG.mp hy).2
    rw[List.getElem_range] at this
    subst this
    exact⟨t,by congr 1;simp⟩,
   fun b hb=>.inl (aM.mp hb),fun j h st=>⟨_,_,st,rfl,.inr (.inr (.inr rfl))⟩⟩)
end
section
variable {W:Wd}{f:Fc W}{C:Cp W f}{Q:Value→Shared→Prop}{v u:Value}
theorem qu {h h':Heap}{a:Addr}(hk:∀b o,h.get? b=some o→h'.get? b=some o)(ha:h'.get? a=none):h.get? a=none:=
 yQ.mpr fun o e=>nomatch (hk a o e).symm.trans ha
theorem H9 {x:aa}{n:Nat}(r:Rd C.g.γ x v)(e:pQ x=some n)(h:aU f C Q (.rg n)):f.wp (call (.type "range") [v]) Q C.s:=
 (bG.mp e).elim fun i q=>(r.int' q.1).elim fun t e2=>by
  have p:=cG.mp q.2
  subst e2
  have hi:=mf p.1.1
  rw[a8 p.2] at hi
  subst hi
  exact call_range_1 (h.new (t:=C.s.toks+2) rfl fun γ' l e=>⟨_,_,rfl,e,eX.mp p.1.2,_,_,_,rfl⟩)
theorem Ia {x:aa}{xs:List aa}(r:Rd C.g.γ x v)(e:ic x=some xs)(h:aU f C Q (.d (.tuple xs))):f.wp (call (.type "tuple") [v]) Q C.s:=
 (lz e).elim (fun z=>by
  subst z
  exact(bI C.sr.frz r).elim fun a vs o n e g c d z r=>e▸call_tuple_list ⟨o,g,c,n,d⟩ (fun h' hk=>
   h.newA (s':={C.s with heap:=h'.push {cls:=.type "tuple",data:=.seq vs.toArray}}) (qu hk (gw (aT _))) (dH _ rfl) (fun b o e=>bH _ (hk b o e)) ⟨rfl,rfl⟩ (ls r z rfl rfl)) z)
 fun z=>by
  subst z
  exact(bI C.sr.frz r).elim fun a vs o n e g c d z _=>by subst e;exact call_tuple_tup ⟨o,g,c,n,d⟩ (h.same r)
def tM (f:Fc W)(C:Cp W f)(Q:Value→Shared→Prop)(xs:List aa):Prop:=
 ∀a s',C.s.heap.get? a=none→(∀b o,C.s.heap.get? b=some o→s'.heap.get? b=some o)→s'.gens=C.s.gens∧s'.os=C.s.os→(∃o,s'.heap.get? a=some o∧∀γ',iQ C.g.γ γ'→gJ (RdL γ' xs) a o)→Q (.ref a) s'
theorem zU {x:aa}{xs:List aa}(r:Rd C.g.γ x v)(e:ic x=some xs)(h:tM f C Q xs):f.wp (call (.type "list") [v]) Q C.s:=by
 have go:∀{T:String},(T="list"∨T="tuple")→fU T C.s.heap C.g.γ xs v→f.wp (call (.type "list") [v]) Q C.s:=fun hT x=>
  x.elim fun a vs o n e g c d z r=>e▸call_list_seq a hT g c d (fun h' c' hk hn=>h _ _ (gw (aT _)) hk ⟨rfl,rfl⟩ ⟨_,hn,fun γ' l=>⟨vs,c',rfl,z,RdL.mono l _ _ r⟩⟩) z
 exact(lz e).elim (fun z=>by subst z;exact go (.inl rfl) (bI C.sr.frz r)) fun z=>by subst z;exact go (.inr rfl) (bI C.sr.frz r)
theorem tM.of {xs:List aa}(h:aU f C Q (.d (.list xs))):tM f C Q xs:=fun a s' ha hk hr z=>z.elim fun o q=>h.newA ha q.1 hk hr fun γ' l e=>⟨a,o,rfl,e,(q.2 γ' l.f).seq⟩
theorem qv {h:Heap}{b I:Addr}{o:Obj}(hI:h.get? I=none)(e:h.get? b=some o):b≠I:=fun z=>nomatch hI.symm.trans ((congrArg h.get? z).symm.trans e)
section
variable {Z:Bs}{A:Around}{R:Result→Shared→Prop}{I:Addr}{γ:RM}{s:Shared}
abbrev tO (Z:Bs)(A:Around)(γ:RM)(s₀:Shared):Prop:=∀x b v (s:Shared) (Q:Bool→Shared→Prop) (E:Value→Shared→Prop),pO x=some b→Rd γ x v→(∀b o,s₀.heap.get? b=some o→s.heap.get? b=some o)→(∀t,Q b {s with toks:=t})→wpAny Z.m A (truthy v) Q E s
theorem zV {s₀:Shared}(hA:A.handled=none)(hI:s₀.heap.get? I=none)(T:tO Z A.in1 γ s₀):∀(xs:List aa) (bs:List Bool) (s:Shared),ka xs=some bs→dc Z γ s.heap xs I→(∀b o,s₀.heap.get? b=some o→s.heap.get? b=some o)→s.gens=s₀.gens∧s.os=s₀.os→
 (∀s',(∀b o,s₀.heap.get? b=some o→s'.heap.get? b=some o)→s'.gens=s₀.gens∧s'.os=s₀.os→R (.ok (.ret (.bool (bs.all id)))) s')→fg Z.m A (.builtin "all.loop" ⟨[.ref I],[]⟩) R s
 |[],bs,s,e,it,hk,hr,k=>by
  cases e
  refine jj PySem.F.entry_all_loop ?_
  rw[kW yW _]
  exact ag (m:=fh (.ref I)) (it.done hA fun s' hb=>ag (iH (ak (k s' (fun b o q=>hb.1 b o (qv hI q) (hk b o q)) ⟨hb.2.1.trans hr.1,hb.2.2.trans hr.2⟩))))
 |x::xs,bs,s,e,it,hk,hr,k=>by
  obtain⟨b,e1,e⟩:=bG.mp e
  obtain⟨bs,e2,rfl⟩:=cC.mp e
  refine jj PySem.F.entry_all_loop ?_
  rw[kW yW _]
  refine ag (m:=fh (.ref I)) (it.next hA fun v s' r it' hb=>?_)
  have hk':∀b o,s₀.heap.get? b=some o→s'.heap.get? b=some o:=fun b o q=>hb.1 b o (qv hI q) (hk b o q)
  have hr':s'.gens=s₀.gens∧s'.os=s₀.os:=⟨hb.2.1.trans hr.1,hb.2.2.trans hr.2⟩
  refine ag (dR (T x b v s' _ _ e1 r hk' fun t=>ag (wpAny_letGo ?_)))
  cases b with
  |true=>exact ak ⟨lg yW _,zV hA hI T xs bs {s' with toks:=t} e2 it' hk' hr' k⟩
  |false=>exact ag (iH (ak (k _ hk' hr')))
theorem zY {s₀:Shared}(hA:A.handled=none)(hI:s₀.heap.get? I=none)(T:tO Z A.in1 γ s₀):∀(xs:List aa) (bs:List Bool) (s:Shared),ka xs=some bs→dc Z γ s.heap xs I→(∀b o,s₀.heap.get? b=some o→s.heap.get? b=some o)→s.gens=s₀.gens∧s.os=s₀.os→
 (∀s',(∀b o,s₀.heap.get? b=some o→s'.heap.get? b=some o)→s'.gens=s₀.gens∧s'.os=s₀.os→R (.ok (.ret (.bool (bs.any id)))) s')→fg Z.m A (.builtin "any.loop" ⟨[.ref I],[]⟩) R s
 |[],bs,s,e,it,hk,hr,k=>by
  cases e
  refine jj PySem.F.entry_any_loop ?_
  rw[kW yV _]
  exact ag (m:=fh (.ref I)) (it.done hA fun s' hb=>ag (iH (ak (k s' (fun b o q=>hb.1 b o (qv hI q) (hk b o q)) ⟨hb.2.1.trans hr.1,hb.2.2.trans hr.2⟩))))
 |x::xs,bs,s,e,it,hk,hr,k=>by
  obtain⟨b,e1,e⟩:=bG.mp e
  obtain⟨bs,e2,rfl⟩:=cC.mp e
  refine jj PySem.F.entry_any_loop ?_
  rw[kW yV _]
  refine ag (m:=fh (.ref I)) (it.next hA fun v s' r it' hb=>?_)
  have hk':∀b o,s₀.heap.get? b=some o→s'.heap.get? b=some o:=fun b o q=>hb.1 b o (qv hI q) (hk b o q)
  have hr':s'.gens=s₀.gens∧s'.os=s₀.os:=⟨hb.2.1.trans hr.1,hb.2.2.trans hr.2⟩
  refine ag (dR (T x b v s' _ _ e1 r hk' fun t=>ag (wpAny_letGo ?_)))
  cases b with
  |false=>exact ak ⟨lg yV _,zY hA hI T xs bs {s' with toks:=t} e2 it' hk' hr' k⟩
  |true=>exact ag (iH (ak (k _ hk' hr')))
end
theorem qw (C:Cp W f):C.s.heap.get? C.s.heap.objs.size=none:=gw (aT _)
theorem zZ {A:Around}(hA:A=f.F.A.in1):tO W.Z A C.g.γ C.s:=fun x b v s Q E e r hk hQ=>by
 cases x with
 |bool c=>cases e;exact(show v= _ from r)▸nV (hQ _)
 |int i=>cases e;exact r.elim fun t e=>e▸P.truthy_int (hQ _)
 |list xs=>cases e;exact(bI C.sr.frz r).elim fun a vs o n e g c d z r=>e▸wpAny_truthy_list ⟨o,hk a o g,c,n,d⟩ (by simpa using ly z) (ql (RdL.length _ _ r)▸hQ _)
 |tuple xs=>cases e;exact(bI C.sr.frz r).elim fun a vs o n e g c d z r=>e▸truthy_tuple ⟨o,hk a o g,c,n,d⟩ (by simpa using ly z) (ql (RdL.length _ _ r)▸hQ _)
 | _=>cases e
theorem aU.grown {p:PV}{s':Shared}(h:aU f C Q p)(r:bL W.Z C.g.γ p v)(hk:∀b o,C.s.heap.get? b=some o→s'.heap.get? b=some o)(hr:s'.gens=C.s.gens∧s'.os=C.s.os):Q v s':=
 have fr:=C.free (qw C)
 h v _ s' (C.sr.upd1 (γ':=C.g.γ) (ju fr) (fun _ _=>rfl) (fun b o _=>hk b o) (fr▸trivial)) (Le.upd1 .refl C.sr (g0 fr) (fun _ _=>rfl) (fun b o _=>hk b o) hr) r
theorem Ib {xs:List aa}{bs:List Bool}(r:Rd C.g.γ (.list xs) v)(e:ka xs=some bs)(h:aU f C Q (.d (.bool (bs.any id)))):f.wp (call (.builtin "any") [v]) Q C.s:=by
 refine call_function_tree PySem.F.kind_any PySem.F.plain_any PySem.F.entry_any (PySem.F.args_any1 _) ?_
 unfold fJ.«any»
 refine ag (m:=oneArg "any" _) (ak ?_)
 refine ag (cZ (oD (p:=.d (.list xs)) (Q:=fun i s'=>i= .ref C.s.heap.objs.size∧dc W.Z C.g.γ s'.heap xs C.s.heap.objs.size∧(∀b o,C.s.heap.get? b=some o→s'.heap.get? b=some o)∧s'.gens=C.s.gens∧s'.os=C.s.os) r rfl fun o _ it=>⟨rfl,it,fun b o' e=>bH _ e,rfl,rfl⟩) (fun i s' q=>q.1▸ak ⟨lg yV _,?_⟩) fun _ _ e=>e.elim)
 exact zY f.ok.hd (qw C) (zZ rfl) xs bs s' e q.2.1 q.2.2.1 q.2.2.2 fun s' hk hr=>h.grown rfl hk hr
theorem Ic {xs:List aa}{bs:List Bool}(r:Rd C.g.γ (.list xs) v)(e:ka xs=some bs)(h:aU f C Q (.d (.bool (bs.all id)))):f.wp (call (.builtin "all") [v]) Q C.s:=by
 refine call_function_tree PySem.F.kind_all PySem.F.plain_all PySem.F.entry_all (PySem.F.args_all1 _) ?_
 unfold fJ.«all»
 refine ag (m:=oneArg "all" _) (ak ?_)
 refine ag (cZ (oD (p:=.d (.list xs)) (Q:=fun i s'=>i= .ref C.s.heap.objs.size∧dc W.Z C.g.γ s'.heap xs C.s.heap.objs.size∧(∀b o,C.s.heap.get? b=some o→s'.heap.get? b=some o)∧s'.gens=C.s.gens∧s'.os=C.s.os) r rfl fun o _ it=>⟨rfl,it,fun b o' e=>bH _ e,rfl,rfl⟩) (fun i s' q=>q.1▸ak ⟨lg yW _,?_⟩) fun _ _ e=>e.elim)
 exact zV f.ok.hd (qw C) (zZ rfl) xs bs s' e q.2.1 q.2.2.1 q.2.2.2 fun s' hk hr=>h.grown rfl hk hr
end
section
variable {W:Wd}{f:Fc W}{C:Cp W f}{Q:Value→Shared→Prop}{v u:Value}{ρ:b8}
def iU (f:Fc W)(C:Cp W f)(ρ:b8)(v:Value)(sl:Slot)(P:Shared→Prop):Prop:=
 ∀a s',v= .ref a→C.g.γ a=ρ→(∀b,b≠a→s'.heap.get? b=C.s.heap.get? b)→s'.gens=C.s.gens∧s'.os=C.s.os→bj W.Z C.g.γ s'.heap ρ sl v→P s'
inductive Id (Z:Bs)(γ:RM)(h:Heap)(ρ:b8)(xs:List aa)(v:Value):Prop
 |mk (a:Addr) (vs:List Value) (n:Nat) (e:v= .ref a) (r:γ a=ρ) (g:h.get? a=some (gZ vs n)) (z:vs.length≤dJ) (l:RdL γ xs vs)
theorem oE {xs:List aa}(x:bj W.Z C.g.γ C.s.heap ρ (.lst xs) v):Id W.Z C.g.γ C.s.heap ρ xs v:=At.elim x fun a o e f p=>p.elim fun vs n c z r=>⟨a,vs,n,e,f.1,c▸f.2,z,r⟩
theorem iU.lst {xs:List aa}{P:Shared→Prop}{a:Addr}{vs ws:List Value}{n:Nat}(h:iU f C ρ (.ref a) (.lst xs) P)(hr:C.g.γ a=ρ)(g:C.s.heap.get? a=some (gZ vs n))
 (F:Array Value→Array Value) (e:F vs.toArray=ws.toArray) (z:ws.length≤dJ) (r:RdL C.g.γ xs ws):P {C.s with heap:=C.s.heap.update a (fP F)}:=
 h a _ rfl hr (fun b n=>Heap.get?_update_ne _ _ _ _ n) ⟨rfl,rfl⟩ ⟨a,_,rfl,⟨hr,l9 (fP F) g rfl⟩,ws,_,by simp only[gZ,fP,e];rfl,z,r⟩
theorem z0 {xs:List aa}{x:aa}(c:bj W.Z C.g.γ C.s.heap ρ (.lst xs) v)(rx:Rd C.g.γ x u)(hl:xs.length<aH)(h:iU f C ρ v (.lst (xs++[x])) (Q .none)):f.wp (call (.builtin "list.append") [v,u]) Q C.s:=
 (oE c).casesOn fun a vs n e r g z l=>by
  subst e
  have hz:vs.length+1≤dJ:=ai (RdL.length _ _ l▸hl) lx
  exact call_meets PySem.F.slot_list_append ⟨_,g,rfl⟩ PySem.F.entry_list_append (PySem.F.args_list_append_2 _ _) (list_append a vs.toArray n u z) ⟨g,h.lst r g _ (List.push_toArray vs u) (by rw[aG];exact hz) (RdL.append _ l ⟨u,[],rfl,rx,rfl⟩)⟩
theorem Ie {xs ys:List aa}(c:bj W.Z C.g.γ C.s.heap ρ (.lst xs) v)(ry:Rd C.g.γ (.list ys) u)(hl:xs.length+ys.length<aH)(h:iU f C ρ v (.lst (xs++ys)) (Q .none)):f.wp (call (.builtin "list.extend") [v,u]) Q C.s:=
 (oE c).casesOn fun a vs n e r g z l=>(bI C.sr.frz ry).elim fun b ws o' n' e2 g2 c2 d2 z2 l2=>by
  subst e e2
  have hq:vs.length+ws.length≤aH:=eW (RdL.length _ _ l▸RdL.length _ _ l2▸hl)
  have hz:vs.length+ws.length≤dJ:=ai hq lx
  refine kZ PySem.F.slot_list_extend ⟨_,g,rfl⟩ PySem.F.entry_list_extend ?_ (PySem.F.args_list_extend_2 _ _)
  show wpAny _ _ (sL (.ref a) (.ref b) .none) _ _ _
  unfold sL
  refine ag (wpAny_typeOf (T:="list") ⟨o',g2,c2⟩ ?_)
  have ht:(fM "list"==fM "list")=true:=rfl
  rw[if_pos (by rw[ht];simp)]
  refine ag (listItems_at g2 d2 ?_)
  refine ag (listItems_at g rfl ?_)
  rw[if_neg (extend_door (ai hq (by decide)))]
  refine ag (listUpdate_at g rfl ?_ z (by rw[y5];show (vs++ws).length≤_;rw[aG];exact nY hz))
  exact ak ⟨_,rfl,h.lst r g _ (ws:=vs++ws) (y5 vs ws) (by rw[aG];exact hz) (RdL.append _ l l2)⟩
theorem Ig {xs:List aa}(c:bj W.Z C.g.γ C.s.heap ρ (.lst xs) v)(hn:xs≠[])(h:∀r,Rd C.g.γ (xs.getLastD .none) r→iU f C ρ v (.lst xs.dropLast) (Q r)):f.wp (call (.builtin "list.pop") [v]) Q C.s:=
 (oE c).casesOn fun a vs n e r g z l=>by
  subst e
  have hlen:=RdL.length _ _ l
  have hd:xs[vs.length - 1]? =some (xs.getLastD .none):=by rw[hlen,←List.getLast?_eq_getElem?,List.getLast?_eq_some_getLast hn,List.getLastD_eq_getLast?,List.getLast?_eq_some_getLast hn];rfl
  obtain⟨y,hy,ry⟩:=RdL.get _ _ l hd
  refine call_meets yZ ⟨_,g,rfl⟩ PySem.F.entry_list_pop (PySem.F.args_list_pop_1 _) (MeetsSeq.list_pop_last a vs.toArray n y (nP.trans hy) z) ⟨g,(h y ry).lst r g _ (ws:=vs.dropLast) ?_ ?_ ?_⟩
  ·have h1:=(fG.mp hy).1
   rw[Array.eraseIdxIfInBounds,dif_pos (show vs.toArray.size - 1<vs.toArray.size from h1)]
   simp only[List.eraseIdx_toArray]
   congr 1
   exact List.eraseIdx_eq_dropLast (Nat.sub_add_cancel (aX (bz _) (fc h1 (aT _))))
  ·rw[List.length_dropLast];exact ai (Nat.sub_le _ _) z
  ·rw[List.dropLast_eq_take,List.dropLast_eq_take,hlen];exact RdL.take _ _ _ l
theorem Ih {xs:List aa}(c:bj W.Z C.g.γ C.s.heap ρ (.lst xs) v)(ru:Rd C.g.γ (.int 0) u)(hn:xs≠[])(h:∀r,Rd C.g.γ (xs.headD .none) r→iU f C ρ v (.lst xs.tail) (Q r)):f.wp (call (.builtin "list.pop") [v,u]) Q C.s:=
 (oE c).casesOn fun a vs n e r g z l=>by
  subst e
  obtain⟨t,rfl⟩:=ru
  cases xs with
  |nil=>exact(hn rfl).elim
  |cons x xs=>
   obtain⟨y,ys,rfl,ry,l⟩:=l
   refine call_meets yZ ⟨_,g,rfl⟩ PySem.F.entry_list_pop (PySem.F.args_list_pop_2 _ _) (MeetsSeq.list_pop_at a (y::ys).toArray n 0 t 0 y (by decide) (zM z (Int.le_refl 0) (Nat.succ_pos _)).1 rfl z) ⟨g,(h y ry).lst r g _ (ws:=ys) ?_ (Nat.le_of_succ_le z) l⟩
   simp [Array.eraseIdxIfInBounds]
end
theorem dA.any {γ:RM}(k:Int):∀(kvs:List (Int×aa)) (us:List (Int×Value)),us.map (·.1)=kvs.map (·.1)→us.any (fun kv=>decide (kv.1=k))=kvs.any (fun p=>p.1==k)
 |[],[],_=>rfl
 |p::kvs,[],h=>nomatch h
 |[],u::us,h=>nomatch h
 |p::kvs,u::us,h=>by
  have e:=eH h
  rw[List.any_cons,List.any_cons,dA.any (γ:=γ) k kvs us e.2,show u.1=p.1 from e.1];rfl
theorem dA.map {γ:RM}{k:Int}{v:Value}{d:aa}(r:Rd γ d v):∀(kvs:List (Int×aa)) (us:List (Int×Value)),dA γ kvs us→dA γ (kvs.map fun p=>if p.1==k then (p.1,d) else p) (us.map fun kv=>if kv.1=k then (kv.1,v) else kv)
 |[],[],_=>⟨rfl,rfl⟩
 |p::kvs,[],h=>nomatch h.1
 |[],u::us,h=>nomatch h.1
 |p::kvs,u::us,h=>by
  have e:=eH h.1
  obtain⟨v',ws,e2,r2⟩:=h.2
  have e2:=eH e2
  have ih:=dA.map (k:=k) r kvs us ⟨e.2,(show us.map Prod.snd=ws from e2.2)▸r2.2⟩
  have he:u.1=p.1:=e.1
  have hv:u.2=v':=e2.1
  rw[mm,mm]
  by_cases hk:u.1=k
  ·rw[if_pos hk,if_pos (beq_iff_eq.mpr (he.symm.trans hk))]
   exact⟨List.cons_eq_cons.mpr ⟨he,ih.1⟩,v,_,rfl,r,ih.2⟩
  ·rw[if_neg hk,if_neg (fun z=>hk (he.trans (beq_iff_eq.mp z)))]
   exact⟨List.cons_eq_cons.mpr ⟨he,ih.1⟩,u.2,_,rfl,hv▸r2.1,ih.2⟩
theorem dA.put {γ:RM}{kvs:List (Int×aa)}{us:List (Int×Value)}(h:dA γ kvs us)(k:Int){v:Value}{d:aa}(r:Rd γ d v):dA γ (j0 kvs k d) (stored us k v):=by
 unfold stored j0
 rw[dA.any (γ:=γ) k kvs us h.1]
 split
 ·exact dA.map r kvs us h
 ·exact⟨by rw[bJ,bJ,h.1];rfl,by rw[bJ,bJ];exact RdL.append _ h.2 ⟨v,[],rfl,r,rfl⟩⟩
section
open Classical
theorem bU.map {γ:RM}{k:aa}{i:Int}{t:Tok}:∀(kvs:List (aa×Int)) (xs:List (aa×Addr×Value)),bU γ kvs xs→bU γ (kvs.map fun p=>if p.1=k then (p.1,i) else p) (xs.map (putAt k (.int i t)))
 |[],xs=>fun e=>(show xs=[] from e)▸rfl
 |p::kvs,xs=>fun h=>h.elim fun a q=>q.elim fun u q=>q.elim fun ys q=>by
  rw[q.1,mm,mm,putAt]
  have ih:=bU.map (k:=k) (i:=i) (t:=t) kvs ys q.2.2.2
  by_cases hk:p.1=k
  ·rw[if_pos hk,if_pos hk];exact⟨a,t,_,rfl,q.2.1,q.2.2.1,ih⟩
  ·rw[if_neg hk,if_neg hk];exact⟨a,u,_,rfl,q.2.1,q.2.2.1,ih⟩
theorem bU.snoc {γ:RM}{k:aa}{i:Int}{t:Tok}{b:Addr}(hk:cq k=true)(r:Rd γ k (.ref b)):∀(kvs:List (aa×Int)) (xs:List (aa×Addr×Value)),bU γ kvs xs→bU γ (kvs++[(k,i)]) (xs++[(k,b,.int i t)])
 |[],xs=>fun e=>⟨b,t,[],congrArg (·++ _) (show xs=[] from e),hk,r,rfl⟩
 |p::kvs,xs=>fun h=>h.elim fun a q=>q.elim fun u q=>q.elim fun ys q=>q.1▸⟨a,u,_,rfl,q.2.1,q.2.2.1,bU.snoc hk r kvs ys q.2.2.2⟩
theorem bU.put {γ:RM}{k:aa}{i:Int}{t:Tok}{b:Addr}(hk:cq k=true)(r:Rd γ k (.ref b)){kvs:List (aa×Int)}{xs:List (aa×Addr×Value)}(h:bU γ kvs xs):bU γ (n7 kvs k i) (storedH xs k b (.int i t)):=by
 unfold storedH n7
 rw[(bU.find (k:=k) kvs xs h).1]
 split
 ·exact bU.map kvs xs h
 ·exact bU.snoc hk r kvs xs h
theorem bU.length {γ:RM}:∀(kvs:List (aa×Int)) (xs:List (aa×Addr×Value)),bU γ kvs xs→xs.length=kvs.length
 |[],xs=>fun e=>(show xs=[] from e)▸rfl
 |p::kvs,xs=>fun h=>h.elim fun a q=>q.elim fun u q=>q.elim fun ys q=>q.1▸congrArg (·+1) (bU.length kvs ys q.2.2.2)
end
section
variable {W:Wd}{f:Fc W}{C:Cp W f}{v u t:Value}{ρ:b8}{P:Shared→Prop}
theorem Ii {kvs:List (Int×aa)}{k d:aa}{i:Int}(c:bj W.Z C.g.γ C.s.heap ρ (.dct kvs) v)(rk:Rd C.g.γ k u)(e:cg k=some i)(rd:Rd C.g.γ d t)(hl:kvs.length<aH)(h:iU f C ρ v (.dct (j0 kvs i d)) P):f.wp (setItem v u t) (fun _=>P) C.s:=
 At.elim c fun a o e1 fo p=>p.elim fun us s di r=>di.casesOn fun es ep x1 x2 x3 x4 x5=>(rk.int' e).elim fun j e2=>by
  subst e1 e2
  exact wpAny_setItem_pairs (knd:=bR W.Z.prog W.Z.w) (k:=i) (by simp [bR,Value.isInt]) ⟨o,es,ep,fo.2,x1,x2,x3,x4,x5⟩ (fun h' hm hb=>
   h a {C.s with heap:=h',toks:= _} rfl fo.1 hb.2 ⟨rfl,rfl⟩ (hm.elim fun o' q=>q.elim fun es' q=>q.elim fun ep' q=>⟨a,o',rfl,⟨fo.1,q.1⟩,_,s,⟨es',ep',q.2.1,q.2.2.1,q.2.2.2.1,q.2.2.2.2.1,q.2.2.2.2.2⟩,r.put i rd⟩)) (ai (eW (r.length▸hl)) lx)
open Classical in
theorem z3 {kvs:List (aa×Int)}{sl:Slot}{k d:aa}{j:Int}(x:lA W.Z C.s.heap C.g.γ kvs v)(ho:∃o,At (Ow C.g.γ C.s.heap ρ) (fun _ o'=>o'=o) v)(rk:Rd C.g.γ k u)(hk:cq k=true)(e:cg d=some j)(rd:Rd C.g.γ d t)(hl:kvs.length<aH)
 (h:iU f C ρ v (.tdct (n7 kvs k j)) P):f.wp (setItem v u t) (fun _=>P) C.s:=
 x.elim fun a xs e1 s di r=>(rk.key hk).elim fun b q=>(rd.int' e).elim fun t' e2=>ho.elim fun o ho=>At.elim ho fun a' o' e3 fo _=>by
  obtain⟨q1,q2⟩:=q
  subst e1 q1 e2
  cases e3
  exact wpAny_setItem_heap (knd:=gj W.Z.prog W.Z.w) (k:=k) f.un9 q2 di (fun h' hm hb=>
   h a {C.s with heap:=h',toks:= _} rfl fo.1 hb.2 ⟨rfl,rfl⟩ (hm.elim fun o' q=>q.elim fun es' q=>q.elim fun ep' q=>⟨a,o',rfl,⟨fo.1,q.1⟩,⟨_,s,es',ep',q.2.1,q.2.2.1,q.2.2.2.1,q.2.2.2.2.2,r.put hk rk⟩⟩)) (ai (eW (bU.length _ _ r▸hl)) lx)
theorem tP {sl sl':Slot}{k d:aa}(c:bj W.Z C.g.γ C.s.heap ρ sl v)(rk:Rd C.g.γ k u)(rd:Rd C.g.γ d t)(e:iJ sl k d=some sl')(h:iU f C ρ v sl' P):f.wp (setItem v u t) (fun _=>P) C.s:=by
 cases sl with
 |dct kvs=>
  cases hi:cg k with
  |some i=>
   have q:=cG.mp ((show iJ (.dct kvs) k d=if kvs.length<aH then some (.dct (j0 kvs i d)) else none by show (match cg k with|some i=> _|none=> _)= _;rw[hi]).symm.trans e)
   exact Ii c rk hi rd q.1 (a8 q.2▸h)
  |none=>
   have q:=cG.mp ((show iJ (.dct kvs) k d=if (kvs.isEmpty&&cq k)=true then (cg d).map fun j=>.tdct [(k,j)] else none by show (match cg k with|some i=> _|none=> _)= _;rw[hi]).symm.trans e)
   have q1:=aP.mp q.1
   exact(cC.mp q.2).elim fun j q2=>z3 (sl:=.dct kvs) (zG c q1.1) (At.elim c fun a o e f p=>⟨o,a,o,e,f,rfl⟩) rk q1.2 q2.1 rd (by decide) (q2.2.symm▸h)
 |tdct kvs=>
  have q:=cG.mp e
  have q1:=aP.mp q.1
  exact(cC.mp q.2).elim fun j q2=>z3 (sl:=.tdct kvs) (qr c) (At.elim c fun a o e f p=>⟨o,a,o,e,f,rfl⟩) rk q1.1 q2.1 rd (of_decide_eq_true q1.2) (q2.2.symm▸h)
 | _=>cases e
end
noncomputable def Cx.bix (c:Cx)(x:Str):Option Nat:=if c.names.lookup x==some .local||c.names.lookup x==some .cell then c.ix.lookup x else none
theorem Cx.bix_some {c:Cx}{x:Str}{i:Nat}(h:c.bix x=some i):c.ix.lookup x=some i∧(c.names.lookup x=some .local∨c.names.lookup x=some .cell):=
 have q:=cG.mp h
 ⟨q.2,(sU.mp q.1).imp aN aN⟩
section
variable {W:Wd}{f:Fc W}{C:Cp W f}{v:Value}
noncomputable def qx (val:b7→Option Value)(d i:Nat)(v:Value):b7→Option Value
 | .att k x=>val (.att k x)
 | .loc e j=>if e=d∧j=i then some v else val (.loc e j)
theorem tQ {val:b7→Option Value}{d i:Nat}{v:Value}:qx val d i v (.loc d i)=some v:=if_pos ⟨rfl,rfl⟩
theorem mM {val:b7→Option Value}{d i:Nat}{v:Value}:∀{κ:b7},κ≠ .loc d i→qx val d i v κ=val κ
 | .att _ _=>fun _=>rfl
 | .loc _ _=>fun h=>if_neg fun z=>h (by rw[z.1,z.2])
def cK (f:Fc W)(m:Nat)(C C':Cp W f):Prop:=Le f.F.d f.F.r (f.F.r+1) m C.g C.s C'.g C'.s
theorem bb.s {m:Nat}{C C':Cp W f}(l:bb f C C')(hm:m≤f.F.c.nl):cK f m C C':=
 ⟨l.rest,fun x ρ e k=>l.role x ρ e (tG (aT _) (dI _) (aT _) ρ k),fun κ k=>l.val κ (by cases κ with|att _ _=>trivial|loc e i=>exact k.imp id fun q=>⟨q.1,fc q.2 hm⟩)⟩
theorem cK.trans {m:Nat}{C C' C'':Cp W f}(x:cK f m C C')(y:cK f m C' C''):cK f m C C'':=Le.trans x y
theorem lC {h h':Heap}{c:Addr}{u u':Option Value}(x:h.IsCell c u)(e:h'.get? c=h.get? c)(eu:u'=u):h'.IsCell c u':=eu▸x.imp fun o q=>⟨e.trans q.1,q.2⟩
theorem Ij {d i j:Nat}(h:i≠j):b7.loc d i≠b7.loc d j:=fun z=>h (by injection z)
theorem SR.bind {g':Gh}{s':Shared}{x:Str}{i:Nat}{a:Addr}{sl:Slot}{m:Nat}(C:Cp W f)(hx:f.F.c.ix.lookup x=some i)(ha:C.g.γ a= .stor f.F.r)(hk:∀b,b≠a→s'.heap.get? b=C.s.heap.get? b)(hl:∃o,s'.heap.get? a=some o)(hr:s'.gens=C.s.gens∧s'.os=C.s.os)
 (st:mI f.F {C.g with val:=qx C.g.val f.F.d i v} s'.heap) (hs:bj W.Z C.g.γ C.s.heap (.own (.loc f.F.d i)) sl v) (hm:m≤i) {P:Prop}
 (k:∀C':Cp W f,C'.l=C.l.set i (some sl)→C'.o=C.o→C'.s=s'→cK f m C C'→P):P:=
 have K:∀y ρ,C.g.γ y=ρ→ρ≠ .stor f.F.r→s'.heap.get? y=C.s.heap.get? y:=fun y ρ e n=>hk y fun z=>n (e.symm.trans (z▸ha))
 have S:=C.sr
 have kx:∀κ,qd (.loc f.F.d i) κ→κ≠ .stor f.F.r:=fun κ h z=>by subst z;exact h
 k ⟨{C.g with val:=qx C.g.val f.F.d i v},C.l.set i (some sl),C.o,s',S.set (.loc f.F.d i) (fun y ρ e r=>⟨e,K y ρ e (kx ρ r)⟩) (fun y ob e=>(K y _ e nofun).trans (S.frz y ob e))
  (fun y e=>(gC (y=a)).elim (fun z=>z▸hl) fun n=>(S.live y e).elim fun ob p=>⟨ob,(hk y n).trans p⟩) st
  (fun k y ob e=>(S.ist k y ob e).elim fun p q=>⟨(K y _ e nofun).trans p,q.elim fun b R=>⟨b,R.e,R.i,R.r,R.m.same (K _ _ R.r nofun),R.u,R.c⟩⟩)
  (fun κ t n e=>⟨(qe n).symm.trans e,mM n⟩) S.nov fun t e=>⟨v,tQ,qf (s':=t) e▸hs.mono ⟨fun _ _ e=>e,fun _ _ _ e=>e⟩ fun y ob e=>⟨e.1,(K y (.own (.loc f.F.d i)) e.1 nofun).trans e.2⟩⟩⟩ rfl rfl rfl
  ⟨hr,fun y ρ e k=>⟨e,K y ρ e fun z=>by subst z;exact gA _ k⟩,fun κ q=>.of (mM fun z=>by subst z;exact q.elim (gA _) fun q=>gA _ (fc q.2 hm)) κ⟩
theorem mN {x:Str}{i:Nat}{sl:Slot}{m:Nat}{Q:Unit→Shared→Prop}(hx:f.F.c.bix x=some i)(hs:bj W.Z C.g.γ C.s.heap (.own (.loc f.F.d i)) sl v)(hm:m≤i)
 (k:∀C':Cp W f,C'.l=C.l.set i (some sl)→C'.o=C.o→cK f m C C'→Q () C'.s):f.wp (storeName f.F.env x v) Q C.s:=by
 obtain⟨hx,hk0⟩:=Cx.bix_some hx
 have ok:=f.ok
 have S:=C.sr
 obtain⟨m0,hns,hmx⟩:=S.sto.m
 have ne:∀{y j},f.F.c.ix.lookup y=some j→y≠x→b7.loc f.F.d j≠ .loc f.F.d i:=fun hy n=>Ij fun z=>n (ok.inj _ _ _ (z▸hy) hx)
 have noL:∀{c:Addr} {u:Option Value},C.s.heap.IsCell c u→c≠f.F.env.locals:=fun hc z=>by
  obtain⟨o,es,ep,ho,hd,_⟩:=hns
  obtain⟨o',ho',hd'⟩:=hc
  rw[z,ho] at ho';cases ho';rw[hd] at hd';cases hd'
 rcases hk0.imp (ok.names x .local nofun) (fun z=>And.intro z (ok.names x .cell nofun z)) with hk|⟨hn0,hk⟩
 ·refine wpAny_storeName_local hk hns (fun h' ns' sb=>?_) (by rw[ok.kind];rfl)
  refine SR.bind (g':=C.g) (s':={C.s with heap:=h',toks:=C.s.toks+1}) C hx S.sto.mr sb.2 (ns'.elim fun o q=>q.elim fun es q=>q.elim fun ep q=>⟨o,q.1⟩) ⟨rfl,rfl⟩ ⟨⟨_,ns',fun y j hy hky=>?_⟩,S.sto.mr,fun y j hy hky=>?_⟩ hs hm fun C' e1 e2 e3 l=>e3▸k C' e1 e2 l
  ·by_cases z:y=x
   ·subst z;rw[hx] at hy;cases hy;exact(if_pos rfl).trans tQ.symm
   ·exact(if_neg z).trans ((hmx y j hy hky).trans (mM (ne hy z)).symm)
  ·obtain⟨c,r,hr,hkk,hc,hg,hcell⟩:=S.sto.cell y j hy hky
   exact⟨c,r,hr,hkk,hc,hg,lC hcell (sb.2 c (noL hcell)) (mM (ne hy fun z=>hky (z▸hk)))⟩
 ·obtain⟨c,r,hr,_,hc,hg,hcell⟩:=S.sto.cell x i hx (fun z=>nomatch hk.symm.trans z)
  have hrr:r=f.F.r:=hr.elim id fun q=>nomatch hn0.symm.trans q.2
  refine wpAny_storeName_cell ok.kind hk hc hcell fun h' hc' sb=>?_
  refine SR.bind (g':=C.g) (s':={C.s with heap:=h'}) C hx (hrr▸hg) sb.2 (hc'.imp fun o q=>q.1) ⟨rfl,rfl⟩ ⟨⟨m0,(hns.sameBut sb (noL hcell).symm),fun y j hy hky=>?_⟩,S.sto.mr,fun y j hy hky=>?_⟩ hs hm fun C' e1 e2 e3 l=>e3▸k C' e1 e2 l
  ·exact(hmx y j hy hky).trans (mM (ne hy fun z=>nomatch (z▸hky).symm.trans hk)).symm
  ·by_cases z:y=x
   ·subst z
    rw[hx] at hy;cases hy
    exact⟨c,f.F.r,.inl rfl,.inl hk,hc,hrr▸hg,lC hc' rfl tQ⟩
   ·obtain⟨c',r',hr',hk2,hc2,hg2,hcell2⟩:=S.sto.cell y j hy hky
    exact⟨c',r',hr',hk2,hc2,hg2,lC hcell2 (sb.2 c' fun q=>z (ok.cinj _ _ _ (q▸hc2) hc)) (mM (ne hy z))⟩
end
theorem z4 {h:Heap}{a:Addr}{m:Str→Option Value}{z:Nat}(hn:kj h a m z):∃o,h.get? a=some o∧∀x,lookIn x o=some (m x):=by
 obtain⟨o,es',ep,ho',hd,hs,hf,_⟩:=hn
 refine⟨o,ho',fun x=>?_⟩
 have:=hf x
 unfold nsFind findBy at this
 unfold lookIn
 rw[hd]
 rw[←Array.find?_toList] at this
 simp only
 cases hq:es'.toList.find? (fun e=>e.key.isStr x) with
 |some e=>rw[hq] at this;rw[←this];rfl
 |none=>
  rw[hq] at this
  rw[←this,if_neg]
  ·rfl
  ·intro hany
   obtain⟨e,he,hr⟩:=mj.mp hany
   obtain⟨n,t,hk⟩:=hs e (Array.mem_toList_iff.mp he)
   unfold DictEntry.refKey at hr
   rw[hk] at hr
   exact nomatch hr
theorem Ik {K:Frag}{A:Addr}{od:Obj}{x:Str}{v:Value}(hc:(clsIn K A).any (·.hasDict)=true)(hf:findIn K (.ref A) x=some none)(hl:lookIn x od=some (some v)):findObj K A (some od) x=some (.value v):=by
 obtain⟨cd,hcd,hd⟩:=any_some hc
 unfold findObj
 rw[hcd,hf]
 simp only[Option.bind_some,PySem.W.ownOf,hd,if_true,hl]
theorem At.handed {ρ P:Addr→Obj→Prop}{v:Value}(x:At ρ P v):handedIn v=true:=x.elim fun a o e _ _=>e▸rfl
theorem Rd.handed {γ:RM}{v:Value}:∀{x:aa},Rd γ x v→handedIn v=true
 | .none=>fun r=>(show v= _ from r)▸rfl
 | .bool b=>fun r=>(show v= _ from r)▸rfl
 | .int i=>fun r=>r.elim fun t e=>e▸rfl
 | .str x=>fun r=>r.elim fun t e=>e▸rfl
 | .list xs=>fun r=>At.handed r
 | .tuple xs=>fun r=>At.handed r
 | .dict _=>False.elim
theorem bL.handed {Z:Bs}{γ:RM}{v:Value}:∀{p:PV},bL Z γ p v→handedIn v=true
 | .d x=>Rd.handed
 | .o _=>At.handed
 | .kd _=>At.handed
 | .rg _=>At.handed
theorem bj.handed {Z:Bs}{γ:RM}{h:Heap}{ρ:b8}{v:Value}:∀{s:Slot},bj Z γ h ρ s v→handedIn v=true
 | .pv p=>bL.handed
 | .lst _=>At.handed
 | .dct _=>At.handed
 | .tdct _=>At.handed
section
variable {W:Wd}{f:Fc W}{C:Cp W f}{v:Value}{Q:Value→Shared→Prop}
theorem Cp.inK (C:Cp W f):W.K.In C.s.heap:=fun a o e=>C.sr.frz a o (C.sr.top a o (W.wf.inT a o e))
theorem Cp.big (C:Cp W f):jV<C.s.heap.objs.size:=W.wf.big.elim fun a q=>q.elim fun o q=>li q.1 (fI (C.inK a o q.2))
inductive Il (C:Cp W f)(k:Nat)(a:Addr)(b:Ob):Prop
 |mk (od:Obj) (e:C.o[k]? =some b) (i:InstAt C.s.heap a (instObj (W.Z.CA.ad b.cls) (C.g.da k)) (W.Z.CA.ad b.cls) (some od)) (l:∀x,lookIn x od=some (C.g.val (.att k x)))
theorem Cp.obj {k:Nat}{a:Addr}{o:Obj}(C:Cp W f)(e:C.g.γ a= .inst k o):∃b,Il C k a b∧km W.Z C.g C.o C.s.heap k o b:=
 (C.sr.ist k a o e).elim fun g q=>q.elim fun b R=>(z4 R.m).elim fun od q=>⟨b,⟨od,R.e,⟨R.i▸g,rfl,rfl,q.1⟩,q.2⟩,R⟩
theorem Im {o:O}{k:Nat}{x:Str}{t:Slot}{b:Ob}(e:mB o k x=some t)(hb:o[k]? =some b):b.at'.lookup x=some t:=
 (bG.mp e).elim fun b' q=>a8 (hb.symm.trans q.1)▸q.2
theorem tU {k:Nat}{a:Addr}{o:Obj}{x:Str}{t:Slot}{b:Bool}(e:C.g.γ a= .inst k o)(ht:mB C.o k x=some t)(hv:C.g.val (.att k x)=some v)(q:Q v {C.s with toks:=C.s.toks+1}):f.wp (getAttr (.ref a) x b) Q C.s:=
 (C.obj e).elim fun b p=>p.1.casesOn fun od e2 I l=>get_value C.inK I (W.wf.ga _) (Ik (W.wf.hd _) (W.wf.fld _ _ (p.2.c x t (Im ht p.2.e))) ((l x).trans (congrArg some hv)))
  ((C.sr.slot (.att k x) t ht).elim fun u q=>a8 (hv.symm.trans q.1)▸q.2.handed) q
theorem tW {value:Expr}{attr:Str}{pos:Pos}(hb:attributeBase value attr f.F.env (eval value f.F.env)=eval value f.F.env){s:Shared}
 (h:f.wp (eval value f.F.env) (fun o s₁=>f.wp (getAttr o attr true) Q s₁) s):f.wp (eval (.Attribute value attr pos) f.F.env) Q s:=by
 unfold Fc.wp
 rw[arm_eval_Attribute,hb]
 exact ag (cZ h (fun o s₁ h₁=>ag (jl (ag (dR (cZ h₁ (fun r s₂ h₂=>ag (wpAny_letTemporaryGo (ak h₂))) fun _ _ x=>x))))) fun _ _ x=>x)
end
noncomputable def K0.key (d:Nat):K0→b7
 | .loc i=>.loc d i
 | .att k x=>.att k x
theorem z5 {d:Nat}{l:L}{o:O}:∀κ:K0,fS d l o (κ.key d)=iP l o κ
 | .loc i=>if_pos rfl
 | .att _ _=>rfl
noncomputable def Io:UnaryOp→Nat
 | .Not=>1
 | _=>0
noncomputable def eK (n:Nat)(x:Str)(k:Nat)(es:List Expr):Nat×Str×Nat×List Expr×List jQ×Scope:=(n,x,k,es,[],⟨.function,[],false,false,[]⟩)
noncomputable def dZ:Str:=ac ""
noncomputable def cW:Expr:=.Name dZ ⟨0,0,0,0⟩
noncomputable def mO:Expr→Nat×Str×Nat×List Expr×List jQ×Scope
 | .Name x _=>eK 0 x 0 []
 | .Attribute e y _=>eK 0 y 0 [e]
 | .Tuple es k _=>eK 3 dZ k es
 | .List es _=>eK 0 dZ 0 es
 | .BinOp a _ b _=>eK 0 dZ 0 [a,b]
 | .UnaryOp op a _=>eK (Io op) dZ 0 [a]
 | .BoolOp _ vs _=>eK 1 dZ 0 vs
 | .IfExp t a b _=>eK 1 dZ 0 [t,a,b]
 | .Compare a _ bs _=>eK 1 dZ 0 (a::bs)
 | .Call g args _ _=>eK 4 dZ 0 (g::args)
 | .Subscript a b _=>eK 0 dZ 0 [a,b]
 | .Slice lo hi _ _=>eK 9 dZ 0 [lo.getD cW,hi.getD cW]
 | .Constant _ k _=>eK 0 dZ k []
 | .ListComp e gs sc _=>(2,dZ,0,[e],gs,sc)
 | .Starred .. =>eK 9 dZ 0 []
 | .Set .. =>eK 9 dZ 0 []
 | .SetComp .. =>eK 9 dZ 0 []
 | .DictComp .. =>eK 9 dZ 0 []
 | _=>eK 0 dZ 0 []
noncomputable abbrev bc (x:Expr):Nat:=(mO x).1
noncomputable def cr (x:Expr):Str:=(mO x).2.1
noncomputable abbrev num (x:Expr):Nat:=(mO x).2.2.1
noncomputable def aY (x:Expr):List Expr:=(mO x).2.2.2.1
noncomputable def aD (i:Nat)(x:Expr):Expr:=(aY x).getD i x
noncomputable def eM (x:Expr):Expr:=aD 0 x
noncomputable def Pl.src:Pl→Expr→Expr
 | .n i,x=>.Name (cr x) x.pos
 | .a i y,x=>.Attribute (.Name (cr (eM x)) (eM x).pos) y x.pos
 | .b i z y,x=>.Attribute (.Attribute (.Name (cr (eM (eM x))) (eM (eM x)).pos) z (eM x).pos) y x.pos
noncomputable def Pl.chk (c:Cx):Pl→Expr→Bool
 | .n i,x=>c.ix.lookup (cr x)==some i
 | .a i y,x=>c.ix.lookup (cr (eM x))==some i
 | .b i z y,x=>c.ix.lookup (cr (eM (eM x)))==some i
section
variable {W:Wd}{f:Fc W}{C C':Cp W f}{v:Value}{Q:Value→Shared→Prop}
theorem Ip {t:Slot}{j:Nat}(e:on t=some j):t= .pv (.o j):=by
 cases t with
 |pv p=>cases p<;>cases e;rfl
 | _=>cases e
theorem Cp.ref {κ:b7}{t:Slot}{j:Nat}(C:Cp W f)(e:fS f.F.d C.l C.o κ=some t)(h:on t=some j):∃a o,C.g.val κ=some (.ref a)∧C.g.γ a= .inst j o:=
 (C.sr.slot κ t e).elim fun v q=>(show At _ _ v from(Ip h▸q.2:bj W.Z C.g.γ C.s.heap _ (.pv (.o j)) v)).elim fun a o e g _=>⟨a,o,q.1.trans (congrArg some e),g⟩
theorem Cp.obL {i j:Nat}(C:Cp W f)(e:p5 C.l i=some j):∃a o,C.g.val (.loc f.F.d i)=some (.ref a)∧C.g.γ a= .inst j o:=
 (bG.mp e).elim fun t q=>C.ref (κ:=.loc f.F.d i) ((if_pos rfl).trans q.1) q.2
theorem Cp.obA {k j:Nat}{x:Str}{t:Slot}(C:Cp W f)(e:mB C.o k x=some t)(h:on t=some j):∃a o,C.g.val (.att k x)=some (.ref a)∧C.g.γ a= .inst j o:=C.ref (κ:=.att k x) e h
theorem tX {κ:b7}{j j':Nat}(l:bb f C C')(hk:kq f.F.d f.F.c.nl κ)(x:∃a o,C.g.val κ=some (.ref a)∧C.g.γ a= .inst j o)(y:∃a o,C'.g.val κ=some (.ref a)∧C'.g.γ a= .inst j' o):j=j':=
 x.elim fun a x=>x.elim fun o x=>y.elim fun b y=>y.elim fun o' y=>by
  have e:b=a:=by have:=y.1.symm.trans (l.vs hk x.1);injection this with this;injection this
  have:=(l.role a _ x.2 trivial).1.symm.trans (e▸y.2)
  injection this
theorem Pl.stab (l:bb f C C'):∀{p:Pl} {κ κ':K0},(∀i,(p= .n i∨(∃x,p= .a i x)∨∃y x,p= .b i y x)→i<f.F.c.nl)→p.key C.l C.o=some κ→p.key C'.l C'.o=some κ'→κ=κ'
 | .n i,_,_=>fun _ e e'=>a8 (e.symm.trans e')
 | .a i x,_,_=>fun hi e e'=>(cC.mp e).elim fun j q=>(cC.mp e').elim fun j' q'=>
  q.2.symm.trans (tX (κ:=.loc f.F.d i) l (Or.inr ⟨rfl,hi i (.inr (.inl ⟨x,rfl⟩))⟩) (C.obL q.1) (C'.obL q'.1)▸q'.2)
 | .b i y x,_,_=>fun hi e e'=>(bG.mp e).elim fun j q=>(bG.mp e').elim fun j' q'=>by
  have z:=tX (κ:=.loc f.F.d i) l (Or.inr ⟨rfl,hi i (.inr (.inr ⟨y,x,rfl⟩))⟩) (C.obL q.1) (C'.obL q'.1)
  subst z
  exact(bG.mp q.2).elim fun t p=>(bG.mp q'.2).elim fun t' p'=>(cC.mp p.2).elim fun k w=>(cC.mp p'.2).elim fun k' w'=>
   w.2.symm.trans (tX l (κ:=.att j y) trivial (C.obA p.1 w.1) (C'.obA p'.1 w'.1)▸w'.2)
theorem Pl.lt {p:Pl}{x:Expr}(h:p.chk f.F.c x=true)(i:Nat)(e:p= .n i∨(∃x,p= .a i x)∨∃y x,p= .b i y x):i<f.F.c.nl:=by
 rcases e with rfl|⟨_,rfl⟩|⟨_,_,rfl⟩<;>exact f.ok.lt _ i (aN h)
theorem Iq:∀{p:Pl} {x:Expr} {κ:K0} {t:Slot},p.chk f.F.c x=true→p.key C.l C.o=some κ→iP C.l C.o κ=some t→C.g.val (κ.key f.F.d)=some v→(∀n,Q v {C.s with toks:=n})→f.wp (eval (p.src x) f.F.env) Q C.s
 | .n i,x,_,_=>fun h e _ hv q=>ox (aN h) ((a8 e).symm▸hv:C.g.val ((K0.loc i).key f.F.d)=some v) (q _)
 | .a i y,x,_,_=>fun h e ht hv q=>(cC.mp e).elim fun j w=>(C.obL w.1).elim fun b z=>z.elim fun o z=>
  tW rfl (ox (aN h) z.1 (tU z.2 (w.2.symm▸ht:iP C.l C.o (.att j y)= _) (w.2.symm▸hv:C.g.val ((K0.att j y).key f.F.d)=some v) (q _)))
 | .b i y' y,x,_,_=>fun h e ht hv q=>(bG.mp e).elim fun j w=>(bG.mp w.2).elim fun t2 p=>(cC.mp p.2).elim fun k w2=>(C.obL w.1).elim fun c z=>z.elim fun o z=>(C.obA p.1 w2.1).elim fun c2 z2=>z2.elim fun o2 z2=>
  tW rfl (tW rfl (ox (aN h) z.1 (tU z.2 p.1 z2.1 (tU (C:=C.tok (C.s.toks+1)) z2.2 (w2.2.symm▸ht:iP C.l C.o (.att k y)= _) (w2.2.symm▸hv:C.g.val ((K0.att k y).key f.F.d)=some v) (q _)))))
theorem Pl.see {p:Pl}{x:Expr}{k:Slot→L→O→Prop}(h:p.chk f.F.c x=true)(hk:p.g f.r C.l C.o k)
 (q:∀κ t v n,p.key C.l C.o=some κ→iP C.l C.o κ=some t→C.g.val (κ.key f.F.d)=some v→bj W.Z C.g.γ C.s.heap (.own (κ.key f.F.d)) t v→k t C.l C.o→Q v {C.s with toks:=n}):f.wp (eval (p.src x) f.F.env) Q C.s:=
 am.elim hk fun κ e hk=>am.elim hk fun t e2 hk=>(C.sr.slot (κ.key f.F.d) t ((z5 κ).trans e2)).elim fun v z=>Iq h e e2 z.1 fun n=>q κ t v n e e2 z.1 z.2 hk
theorem Pl.again {p:Pl}{x:Expr}{k:Slot→L→O→Prop}{κ:K0}(h:p.chk f.F.c x=true)(e:p.key C.l C.o=some κ)(hv:C.g.val (κ.key f.F.d)=some v)(l:bb f C C')(hk:p.g f.r C'.l C'.o k){P:Prop}
 (q:∀t,p.key C'.l C'.o=some κ→iP C'.l C'.o κ=some t→C'.g.val (κ.key f.F.d)=some v→bj W.Z C'.g.γ C'.s.heap (.own (κ.key f.F.d)) t v→k t C'.l C'.o→P):P:=
 am.elim hk fun κ' e' hk1=>am.elim hk1 fun t e2 hk2=>by
  have z:=Pl.stab l (Pl.lt h) e e'
  subst z
  refine(C'.sr.slot (κ.key f.F.d) t ((z5 κ).trans e2)).elim fun v' z=>?_
  have hv':=l.vs (v:=v) (by
   cases p with
   |n i=>exact a8 e▸Or.inr ⟨rfl,Pl.lt h i (.inl rfl)⟩
   |a i y=>exact(cC.mp e).elim fun j w=>w.2▸trivial
   |b i z y=>exact(bG.mp e).elim fun j w=>(bG.mp w.2).elim fun t2 p=>(cC.mp p.2).elim fun k w2=>w2.2▸trivial) hv
  exact q t e' e2 hv' (a8 (z.1.symm.trans hv')▸z.2) hk2
end
end Mine
end
section
set_option autoImplicit false
set_option genInjectivity false
set_option genSizeOf false
open PySem PySem.W PyProof.Rows
namespace Mine
section
variable {W:Wd}{f:Fc W}{C:Cp W f}{Q:Value→Shared→Prop}
theorem lD {e:Expr}(h:bc e≠9)(rest:List Expr)(env:Env):gd (e::rest) env=(false,eval e env)::gd rest env:=by
 cases e<;>first|rfl|exact(h rfl).elim
theorem z6 {e:Expr}(h:bc e≠9)(c:CmpOp):behindInMarks c e=false:=by
 cases e<;>first|rfl|exact(h rfl).elim
theorem tY {e:Expr}(h:bc e≠9)(env:Env)(x:Value):foldedSetIterable e env x=pure x:=by
 cases e<;>first|rfl|exact(h rfl).elim
theorem Ir {e:Expr}(h:bc e≠1)(env:Env)(whole:Sem Value):isTrue e env whole=(do let v ←whole;standAt e.pos;holding [v] (truthy v)):=by
 cases e<;>first|rfl|exact(h rfl).elim|skip
 rename_i op x p
 cases op<;>first|rfl|exact(h rfl).elim
end
class cE (W:Wd):Prop where
 sorted:∀(f:Fc W) (C:Cp W f) (p:PV) xs ys v Q,bL W.Z C.g.γ p v→pP p=some xs→iM xs=some ys→aU f C Q (.d (.list ys))→f.wp (call (.builtin "sorted") [v]) Q C.s
 sortSet:∀(f:Fc W) (C:Cp W f) xs ys v Q,Rd C.g.γ (.list xs) v→j9 xs=some ys→aU f C Q (.d (.list ys))→f.wp (call (.type "set") [v]) (fun t s=>f.wp (call (.builtin "sorted") [t]) Q s) C.s
structure XE where
 w:EP PV
 sh:Nat
 src:Expr→Expr
 chk:Cx→Expr→Bool
 shp:∀x,bc (src x)=sh
 ok:∀{W:Wd} [cE W] (f:Fc W) x,chk f.F.c x=true→f.Ok w (eval (src x) f.F.env) (c6 f)
noncomputable def bD:List XE→List Expr→List Expr
 |[],_=>[]
 |e::es,xs=>e.src (xs.headD cW)::bD es xs.tail
noncomputable def cM (c:Cx):List XE→List Expr→Bool
 |[],_=>true
 |e::es,xs=>(e.sh !=9&&e.chk c (xs.headD cW))&&cM c es xs.tail
noncomputable def z7:aa→Const
 | .bool b=>.bool b
 | .int i=>.int i
 | .str x=>.str x
 | _=>.none
noncomputable def z8:aa→Bool
 | .list _| .tuple _| .dict _=>false
 | _=>true
section
variable {W:Wd}{f:Fc W}{C:Cp W f}{Q:Value→Shared→Prop}{v:Value}
theorem aU.of {k:PV→L→O→Prop}{p:PV}(hQ:mL f C (c6 f) k Q)(hk:k p C.l C.o):aU f C Q p:=hQ.out .refl hk
theorem il {e:XE}{c:Cx}{x:Expr}{b:Bool}(h:((e.sh !=9&&e.chk c x)&&b)=true):bc (e.src x)≠9∧e.chk c x=true∧b=true:=
 have p:=aP.mp h;have q:=aP.mp p.1;⟨fun z=>bne_iff_ne.mp q.1 ((e.shp x).symm.trans z),q.2,p.2⟩
theorem Is (x:aa)(n:Nat)(pos:Pos)(h:z8 x=true):f.Ok (eC x) (eval (.Constant (z7 x) n pos) f.F.env) (c6 f):=fun C k Q hk hQ=>by
 cases x with
 |none=>exact wpAny_Constant_none ((aU.of hQ hk).same rfl)
 |bool b=>exact wpAny_Constant_bool ((aU.of hQ hk).same rfl)
 |int i=>exact wpAny_Constant_int ((aU.of hQ hk).tok ⟨_,rfl⟩)
 |str i=>exact wpAny_Constant_str ((aU.of hQ hk).tok ⟨_,rfl⟩)
 | _=>exact(cT h).elim
theorem qy {x:Str}{pos:Pos}(hx:f.F.c.names.lookup x=some .globalImplicit)(hd:ou x)(hn:nsIn W.K dU x=some (some v)∨(nsIn W.K dU x=some none∧nsIn W.K du x=some (some v)))(q:Q v C.s):f.wp (eval (.Name x pos) f.F.env) Q C.s:=by
 refine Calls.Name_function_global f.ok.kind (f.ok.names x _ nofun hx) ?_ hd
 unfold loadGlobal
 rw[f.ok.glob,f.ok.bi]
 rcases hn with hn|⟨h1,h2⟩
 ·exact ag ((looks_nsIn C.inK hn).here (ak q))
 ·exact ag ((looks_nsIn C.inK h1).here (ag ((looks_nsIn C.inK h2).here (ak q))))
theorem SR.topLe {Z:Bs}{F:Fr}{g:Gh}{l:L}{o:O}{h:Heap}(S:SR Z F g l o h):js (fT Z.hT) g.γ:=
 have e:∀a,fT Z.hT a= .free∨∃o,fT Z.hT a= .frz o∧Z.hT.get? a=some o:=fun a=>by unfold fT;cases Z.hT.get? a<;>first|exact .inl rfl|exact .inr ⟨_,rfl,rfl⟩
 ⟨fun a o h=>(e a).elim (fun z=>nomatch z.symm.trans h) fun z=>z.elim fun o' z=>by cases z.1.symm.trans h;exact S.top a _ z.2,fun k a o h=>(e a).elim (fun z=>nomatch z.symm.trans h) fun z=>z.elim fun o' z=>nomatch z.1.symm.trans h⟩
theorem It {x:Str}{pos:Pos}{p:PV}(hx:f.F.c.names.lookup x=some .globalImplicit)(hp:qc.lookup x=some p):f.Ok (eP p) (eval (.Name x pos) f.F.env) (c6 f):=fun C k Q hk hQ=>
 (W.gl x p hp).2.elim fun v q=>qy hx (W.gl x p hp).1 (.inl q.1) ((aU.of hQ hk).same (bL.mono C.sr.topLe p q.2))
def Iu (f:Fc W)(n:Nat)(C:Cp W f)(ds:List aa)(vs:List Value):Prop:=ds.length=n∧RdL C.g.γ ds vs
theorem qz [cE W](pos:Pos):∀(es:List XE) (xs:List Expr),cM f.F.c es xs=true→f.Ok (eL (es.map (·.w))) (spliced (backTo pos (gd (bD es xs) f.F.env))) (Iu f es.length)
 |[],xs=>fun _ C k Q hk hQ=>te (hQ [] [] C .refl ⟨rfl,rfl⟩ hk)
 |e::es,xs=>fun h C k Q hk hQ=>have q:=il h
  wpAny_items_cons (c7 (e.ok f _ q.2.1) C _ _ hk fun d v C1 l1 r1 hk=>qz pos es xs.tail q.2.2 C1 _ _ hk fun ds vs C2 l2 r2 hk=>hQ (d::ds) (v::vs) C2 (l1.trans l2) ⟨congrArg (·+1) r2.1,v,vs,rfl,Rd.mono l2.ro.f _ _ r1,r2.2⟩ hk) (lD q.1 _ _)
theorem dh.mono {Z:Bs}{γ γ':RM}(l:js γ γ'):∀(ps:List PV) (vs:List Value),dh Z γ ps vs→dh Z γ' ps vs
 |[]=>fun _ h=>h
 |p::ps=>fun _ h=>h.elim fun v h=>h.elim fun ws h=>⟨v,ws,h.1,bL.mono l p h.2.1,dh.mono l ps ws h.2.2⟩
theorem qA [cE W](pos:Pos):∀(es:List XE) (xs:List Expr),cM f.F.c es xs=true→f.Ok (eA (es.map (·.w))) (spliced (backTo pos (gd (bD es xs) f.F.env))) (Hy f)
 |[],xs=>fun _ C k Q hk hQ=>te (hQ [] [] C .refl rfl hk)
 |e::es,xs=>fun h C k Q hk hQ=>have q:=il h
  wpAny_items_cons ((e.ok f _ q.2.1) C _ _ hk fun d v C1 l1 r1 hk=>qA pos es xs.tail q.2.2 C1 _ _ hk fun ds vs C2 l2 r2 hk=>hQ (d::ds) (v::vs) C2 (l1.trans l2) ⟨v,vs,rfl,bL.mono l2.ro _ r1,r2⟩ hk) (lD q.1 _ _)
theorem mP {xs:List aa}{vs:List Value}{n:Nat}{γ:RM}(r:xs.length=n∧RdL γ xs vs)(h:n≤64):vs.length≤dJ:=ai (bg ((RdL.length _ _ r.2).trans r.1)) (ai h (by rw[ff];decide))
theorem z9 [cE W](es:List XE)(xs:List Expr)(n:Nat)(pos:Pos)(h:cM f.F.c es xs=true)(hn:es.length≤64):f.Ok (ap (es.map (·.w))) (eval (.Tuple (bD es xs) n pos) f.F.env) (c6 f):=fun C k Q hk hQ=>
 wpAny_Tuple (qz pos es xs h C _ _ hk fun ds vs C1 l1 r1 hk=>⟨mP r1 hn,(hQ.out l1 hk).new (t:=C1.s.toks) rfl (ls r1.2 (mP r1 hn) rfl rfl)⟩)
theorem Iv [cE W](es:List XE)(xs:List Expr)(pos:Pos)(h:cM f.F.c es xs=true)(hn:es.length≤64):f.Ok (bK (es.map (·.w))) (eval (.List (bD es xs) pos) f.F.env) (c6 f):=fun C k Q hk hQ=>
 wpAny_List (qz pos es xs h C _ _ hk fun ds vs C1 l1 r1 hk=>⟨mP r1 hn,(hQ.out l1 hk).new (t:=C1.s.toks) rfl (ls r1.2 (mP r1 hn) rfl rfl)⟩)
theorem Iw {a:Expr}{pos:Pos}{w:EP PV}(h:f.Ok w (eval a f.F.env) (c6 f)):f.Ok (dX w) (eval (.UnaryOp .USub a pos) f.F.env) (c6 f):=fun C k Q hk hQ=>
 wpAny_UnaryOp (c7 h C _ _ hk fun x v C1 l1 r1 hk=>am.elim hk fun z e hk=>(cC.mp e).elim fun i q=>(r1.int' q.1).elim fun t e=>e▸P.neg_int ((hQ.out l1 hk).int (congrArg some q.2)))
theorem Ix {a:Expr}{pos:Pos}{w:EP PV}(h:f.Ok w (eval a f.F.env) (c6 f)):f.Ok (tu w) (eval (.UnaryOp .Not a pos) f.F.env) (c6 f):=fun C k Q hk hQ=>
 wpAny_UnaryOp (h C _ _ hk fun p v C1 l1 r1 hk=>am.elim hk fun b e hk=>dR (m:=do return Value.bool (!(←truthy v))) (ag (qp (s:=.pv p) (ρ:=.hold) r1 e fun t=>ak (aU.tok (hQ.out l1 hk) rfl))))
abbrev Fc.OkT (f:Fc W)(w:EP Bool)(x:Expr):Prop:=f.Ok w (isTrue x f.F.env (eval x f.F.env)) (RB f)
theorem Br.elim {c:Bool}{a b P:Prop}(h:Br c a b)(t:c=true→a→P)(e:c=false→b→P):P:=by
 unfold Br at h;cases c with
 |true=>exact t rfl h
 |false=>exact e rfl h
theorem Iy {t a b:Expr}{pos:Pos}{wt:EP Bool}{wa wb:EP PV}(ht:f.OkT wt t)(ha:f.Ok wa (eval a f.F.env) (c6 f))(hb:f.Ok wb (eval b f.F.env) (c6 f)):f.Ok (ii wt wa wb) (eval (.IfExp t a b pos) f.F.env) (c6 f):=fun C k Q hk hQ=>
 wpAny_IfExp (ht C _ _ hk fun c v C1 l1 r1 hk=>Br.elim hk (fun e hk=>Eq.mpr (if_pos (Eq.trans r1 e)) (ha C1 k Q hk fun p v C2 l2 r2 hk=>hQ p v C2 (l1.trans l2) r2 hk)) fun e hk=>Eq.mpr (if_neg (gz.mp (Eq.trans r1 e))) (hb C1 k Q hk fun p v C2 l2 r2 hk=>hQ p v C2 (l1.trans l2) r2 hk))
end
section
variable {W:Wd}{f:Fc W}{C:Cp W f}{Q:Value→Shared→Prop}{v:Value}
theorem Aa (pos:Pos):∀(es:List XE) (xs:List Expr) (env:Env) (c:Cx),cM c es xs=true→(backTo pos (gd (bD es xs) env)).any (·.1)=false
 |[],_,_,_=>fun _=>rfl
 |e::es,xs,env,c=>fun h=>have q:=il h;by
  rw[show gd (bD (e::es) xs) env= _ from lD q.1 _ env]
  exact(Bool.false_or _).trans (Aa pos es xs.tail env c q.2.2)
theorem qB {g:Value}{first:List Value}{pos:Pos}{P:Heap→Prop}{s:Shared}(hk:∀h,P h→∃k,(k=Keeper.frame∨k=Keeper.machine∨k=Keeper.boundFrame)∧Looks W.Z.m h (keeperOf g) k){es:List XE}{xs:List Expr}(hn:cM f.F.c es xs=true)
 (h:f.wp (spliced (backTo pos (gd (bD es xs) f.F.env))) (fun vs s₁=>P s₁.heap∧f.wp (call g (first++vs)) Q s₁) s):f.wp (callWith pos g first (backTo pos (gd (bD es xs) f.F.env)) []) Q s:=by
 have hp:=Aa pos es xs f.F.env f.F.c hn
 cases es with
 |nil=>
  refine callWith_of rfl hk ?_
  unfold evalArgs
  show wpAny _ f.F.A (spliced []>>= _) _ Nx s
  refine ag (cZ h (fun vs s' h'=>?_) fun _ _ x=>x)
  refine dR ?_
  exact ag (ak (ag (ak (ak h'))))
 |cons e es=>
  have q:=il hn
  rw[show gd (bD (e::es) xs) f.F.env= _ from lD q.1 _ f.F.env] at h hp ⊢
  exact callWith_of ((Bool.or_false _).trans hp) hk (Calls.evalArgs_plain h)
theorem Ab {g:Value}(hf:∀a,g≠ .ref a)(h:Heap)(_:True):∃k,(k=Keeper.frame∨k=Keeper.machine∨k=Keeper.boundFrame)∧Looks W.Z.m h (keeperOf g) k:=by
 refine⟨.machine,.inr (.inl rfl),?_⟩
 cases g<;>first|exact Looks.now|exact absurd rfl (hf _)
theorem Ac:∀(ty:Bool) (b:String) (a:Addr),bV ty b≠ .ref a
 |true,_,_=>nofun
 |false,_,_=>nofun
theorem iV (ty:Bool){b:String}{np pos:Pos}{e:Expr}(hb:tI.contains (ty,b)=true)(hx:f.F.c.names.lookup (ac b)=some .globalImplicit)(he:bc e≠9)(h:f.wp (eval e f.F.env) (fun v s₁=>f.wp (call (bV ty b) [v]) Q s₁) C.s):
 f.wp (eval (.Call (.Name (ac b) np) [e] [] pos) f.F.env) Q C.s:=
 have q:=W.bi ty b hb
 wpAny_Call_NameR (qy hx q.2.2 (.inr ⟨q.1,q.2.1⟩) (by
  have hs:=lD he [] f.F.env
  have h':f.wp (spliced (backTo pos (gd [e] f.F.env))) (fun vs s₁=>True∧f.wp (call (bV ty b) ([]++vs)) Q s₁) C.s:=wpAny_items_cons (cZ h (fun v s₁ h₁=>te ⟨trivial,h₁⟩) fun _ _ x=>x) hs
  rw[hs] at h' ⊢
  exact callWith_of (P:=fun _=>True) rfl (Ab (Ac ty b)) (Calls.evalArgs_plain h')))
end
section
variable {W:Wd}{f:Fc W}{C:Cp W f}{Q:Value→Shared→Prop}{v:Value}
def Iz (f:Fc W)(C:Cp W f)(s:Slot)(v:Value):Prop:=∃ρ,bj W.Z C.g.γ C.s.heap ρ s v
abbrev Fc.OkE (f:Fc W)(w:EP PV)(x:Expr):Prop:=f.Ok w (eval x f.F.env) (c6 f)
abbrev Fc.OkS (f:Fc W)(w:EP Slot)(x:Expr):Prop:=f.Ok w (eval x f.F.env) (Iz f)
abbrev iW (f:Fc W)(b:String):Prop:=f.F.c.names.lookup (ac b)=some .globalImplicit
theorem IA {w:EP PV}{x:Expr}(h:f.OkE w x):f.OkS (sV w) x:=fun C k Q hk hQ=>h C _ Q hk fun p v C' l r hk=>hQ (.pv p) v C' l ⟨.hold,r⟩ hk
theorem IB {p:Pl}{x:Expr}(h:p.chk f.F.c x=true):f.OkS p.g (p.src x):=fun C k Q hk hQ=>
 Pl.see h hk fun κ t v n _ _ _ r hk=>hQ t v (C.tok n) bb.tok ⟨_,r⟩ hk
theorem IC {p:Pl}{x:Expr}(h:p.chk f.F.c x=true):f.OkE (oq p) (p.src x):=fun C k Q hk hQ=>
 Pl.see h hk fun κ t v n _ _ _ r hk=>am.elim hk fun q e hk=>hQ q v (C.tok n) bb.tok (by cases t<;>cases e;exact r) hk
variable {e:Expr}{np pos:Pos}{w:EP PV}{ws:EP Slot}
theorem IE (hx:iW f "len")(he:bc e≠9)(h:f.OkS ws e):f.OkE (bT ws) (.Call (.Name "len" np) [e] [] pos):=fun C k Q hk hQ=>
 iV false rfl hx he (h C _ _ hk fun t v C1 l1 r1 hk=>am.elim hk fun n e hk=>r1.elim fun ρ r=>HR r e (hQ.out l1 hk))
theorem IF (hx:iW f "range")(he:bc e≠9)(h:f.OkE w e):f.OkE (ij w) (.Call (.Name "range" np) [e] [] pos):=fun C k Q hk hQ=>
 iV true rfl hx he (c7 h C _ _ hk fun t v C1 l1 r1 hk=>am.elim hk fun n e hk=>H9 r1 e (hQ.out l1 hk))
theorem IG (hx:iW f "tuple")(he:bc e≠9)(h:f.OkE w e):f.OkE (fQ w) (.Call (.Name "tuple" np) [e] [] pos):=fun C k Q hk hQ=>
 iV true rfl hx he (c7 h C _ _ hk fun t v C1 l1 r1 hk=>am.elim hk fun n e hk=>Ia r1 e (hQ.out l1 hk))
theorem IH (hx:iW f "list")(he:bc e≠9)(h:f.OkE w e):f.OkE (oo w) (.Call (.Name "list" np) [e] [] pos):=fun C k Q hk hQ=>
 iV true rfl hx he (c7 h C _ _ hk fun t v C1 l1 r1 hk=>am.elim hk fun n e hk=>zU r1 e (.of (hQ.out l1 hk)))
theorem II (hx:iW f "any")(he:bc e≠9)(h:f.OkE w e):f.OkE (p3 w) (.Call (.Name "any" np) [e] [] pos):=fun C k Q hk hQ=>
 iV false rfl hx he (c7 h C _ _ hk fun t v C1 l1 r1 hk=>am.elim hk fun n e hk=>am.elim hk fun bs e2 hk=>Ib (oy e▸r1) e2 (hQ.out l1 hk))
theorem IJ (hx:iW f "all")(he:bc e≠9)(h:f.OkE w e):f.OkE (tw w) (.Call (.Name "all" np) [e] [] pos):=fun C k Q hk hQ=>
 iV false rfl hx he (c7 h C _ _ hk fun t v C1 l1 r1 hk=>am.elim hk fun n e hk=>am.elim hk fun bs e2 hk=>Ic (oy e▸r1) e2 (hQ.out l1 hk))
theorem IK [SO:cE W](hx:iW f "sorted")(he:bc e≠9)(h:f.OkE w e):f.OkE (kb w) (.Call (.Name "sorted" np) [e] [] pos):=fun C k Q hk hQ=>
 iV false rfl hx he (h C _ _ hk fun t v C1 l1 r1 hk=>am.elim hk fun n e hk=>am.elim hk fun ys e2 hk=>SO.sorted f C1 t n ys v Q r1 e e2 (hQ.out l1 hk))
theorem IL [SO:cE W]{np' pos':Pos}(hx:iW f "sorted")(hy:iW f "set")(he:bc e≠9)(h:f.OkE w e):f.OkE (pZ w) (.Call (.Name "sorted" np) [.Call (.Name "set" np') [e] [] pos'] [] pos):=fun C k Q hk hQ=>
 iV false rfl hx nofun (iV true rfl hy he (c7 h C _ _ hk fun t v C1 l1 r1 hk=>am.elim hk fun n e hk=>am.elim hk fun ys e2 hk=>SO.sortSet f C1 n ys v Q (oy e▸r1) e2 (hQ.out l1 hk)))
theorem Ad {op:BoolOp}{a b:Expr}{Q:Value→Shared→Prop}{s:Shared}(h:f.wp (eval a f.F.env) (fun v s₁=>f.wp (truthy v) (fun t s₂=>match op,t with| .And,false=>Q v s₂| .Or,true=>Q v s₂| _,_=>f.wp (eval b f.F.env) Q s₂) s₁) s):f.wp (eval (.BoolOp op [a,b] pos) f.F.env) Q s:=by
 show wpAny _ _ (do
  let v ←eval a f.F.env
  standAt pos
  let t ←holding [v] (truthy v)
  match op,t with
  | .And,false| .Or,true=>pure v
  | _,_=>eval b f.F.env) _ _ _
 refine ag (cZ h (fun v s₁ h₁=>ag (jl (ag (dR (cZ h₁ (fun t s₂ h₂=>?_) fun _ _ x=>x))))) fun _ _ x=>x)
 cases op<;>cases t<;>first|exact ak h₂|exact h₂
theorem IM {a b:Expr}{wa wb:EP PV}(ha:f.OkE wa a)(hb:f.OkE wb b):f.OkE (tv wa wb) (.BoolOp .Or [a,b] pos):=fun C k Q hk hQ=>
 Ad (ha C _ _ hk fun p v C1 l1 r1 hk=>am.elim hk fun c e hk=>qp (s:=.pv p) (ρ:=.hold) r1 e fun t=>Br.elim hk (fun z hk=>z▸aU.tok (hQ.out l1 hk) r1) fun z hk=>z▸hb (C1.tok t) k Q hk fun p v C2 l2 r2 hk=>hQ p v C2 ((l1.trans bb.tok).trans l2) r2 hk)
theorem IO {a b:Expr}{wa wb:EP PV}(ha:f.OkE wa a)(hb:f.OkE wb b):f.OkE (pY wa wb) (.BoolOp .And [a,b] pos):=fun C k Q hk hQ=>
 Ad (ha C _ _ hk fun p v C1 l1 r1 hk=>am.elim hk fun c e hk=>qp (s:=.pv p) (ρ:=.hold) r1 e fun t=>Br.elim hk (fun z hk=>z▸hb (C1.tok t) k Q hk fun p v C2 l2 r2 hk=>hQ p v C2 ((l1.trans bb.tok).trans l2) r2 hk) fun z hk=>z▸aU.tok (hQ.out l1 hk) r1)
theorem IP (he:bc e≠1)(h:f.OkS ws e):f.OkT (gG ws) e:=fun C k Q hk hQ=>
 wpAny_isTrue_value (h C _ _ hk fun s v C1 l1 r1 hk=>am.elim hk fun b e hk=>r1.elim fun ρ r=>qp r e fun t=>hQ b b (C1.tok t) (l1.trans bb.tok) rfl hk) (Ir he _ _)
theorem IQ {a:Expr}{wt:EP Bool}(h:f.OkT wt a):f.OkT (mE wt) (.UnaryOp .Not a pos):=fun C k Q hk hQ=>
 wpAny_isTrue_Not (h C _ _ hk fun b v C1 l1 r1 hk=>hQ (!b) (!v) C1 l1 (congrArg (!·) r1) hk)
theorem tZ {op:BoolOp}{a:Expr}{rest:List Expr}{Q:Bool→Shared→Prop}{s:Shared}(h:f.wp (isTrue a f.F.env (eval a f.F.env)) (fun b s₁=>match op,b with| .And,false=>Q false s₁| .Or,true=>Q true s₁| _,_=>f.wp (allTrue op rest f.F.env) Q s₁) s):f.wp (allTrue op (a::rest) f.F.env) Q s:=by
 unfold Fc.wp
 rw[arm_allTrue_cons]
 refine ag (cZ h (fun b s₁ h₁=>?_) fun _ _ x=>x)
 cases op<;>cases b<;>first|exact ak h₁|exact h₁
abbrev Fc.OkTs (f:Fc W)(op:BoolOp)(w:EP Bool)(xs:List Expr):Prop:=f.Ok w (allTrue op xs f.F.env) (RB f)
theorem IR {op:BoolOp}{a:Expr}{wt:EP Bool}(h:f.OkT wt a):f.OkTs op wt [a]:=fun C k Q hk hQ=>
 tZ (h C _ _ hk fun b v C1 l1 r1 hk=>by
  have q:=hQ b v C1 l1 r1 hk
  have r1:v=b:=r1
  subst r1
  cases op<;>cases v<;>first|exact q|(show wpAny _ _ (allTrue _ [] _) _ _ _;rw[arm_allTrue_nil];exact ak q))
theorem IS {a:Expr}{xs:List Expr}{wa wb:EP Bool}(ha:f.OkT wa a)(hb:f.OkTs .And wb xs):f.OkTs .And (dz wa wb) (a::xs):=fun C k Q hk hQ=>
 tZ (ha C _ _ hk fun b v C1 l1 r1 hk=>by
  have r1:v=b:=r1
  subst r1
  cases v with
  |true=>exact hb C1 k Q hk fun b v C2 l2 r2 hk=>hQ b v C2 (l1.trans l2) r2 hk
  |false=>exact hQ false false C1 l1 rfl hk)
theorem IT {a:Expr}{xs:List Expr}{wa wb:EP Bool}(ha:f.OkT wa a)(hb:f.OkTs .Or wb xs):f.OkTs .Or (fk wa wb) (a::xs):=fun C k Q hk hQ=>
 tZ (ha C _ _ hk fun b v C1 l1 r1 hk=>by
  have r1:v=b:=r1
  subst r1
  cases v with
  |false=>exact hb C1 k Q hk fun b v C2 l2 r2 hk=>hQ b v C2 (l1.trans l2) r2 hk
  |true=>exact hQ true true C1 l1 rfl hk)
theorem IU {op:BoolOp}{xs:List Expr}{wt:EP Bool}(h:f.OkTs op wt xs):f.OkT wt (.BoolOp op xs pos):=fun C k Q hk hQ=>wpAny_isTrue_BoolOp (h C k Q hk hQ)
def Fc.OkC (f:Fc W)(op:CmpOp)(w:EP Bool)(a b:Expr):Prop:=∀(C:Cp W f) k (Q:Value→Shared→Prop),w f.r C.l C.o k→(∀c (C':Cp W f),bb f C C'→k c C'.l C'.o→Q (.bool c) C'.s)→
 f.wp (eval a f.F.env) (fun u s₁=>f.wp (eval b f.F.env) (fun v s₂=>f.wp (jX op u v) Q s₂) s₁) C.s
theorem IV {op:CmpOp}{a b:Expr}{wa wb:EP PV}(h:kn W op)(ha:f.OkE wa a)(hb:f.OkE wb b):f.OkC op (av op wa wb) a b:=fun C k Q hk hQ=>
 c7 ha C _ _ hk fun x u C1 l1 r1 hk=>c7 hb C1 _ _ hk fun y v C2 l2 r2 hk=>am.elim hk fun c e hk=>h f x y c u v C2 Q (Rd.mono l2.ro.f x u r1) r2 e (hQ c C2 (l1.trans l2) hk)
theorem IW {a b:Expr}{wa:EP PV}(ha:f.OkE wa a)(hb:f.OkS ws b):f.OkC .In (dK wa ws) a b:=fun C k Q hk hQ=>
 c7 ha C _ _ hk fun x u C1 l1 r1 hk=>hb C1 _ _ hk fun s v C2 l2 r2 hk=>am.elim hk fun c e hk=>r2.elim fun ρ r=>zK r (Rd.mono l2.ro.f x u r1) e fun t=>hQ c (C2.tok t) ((l1.trans l2).trans bb.tok) hk
theorem IX {a b:Expr}{wa:EP PV}(ha:f.OkE wa a)(hb:f.OkS ws b):f.OkC .NotIn (mD wa ws) a b:=fun C k Q hk hQ=>
 c7 ha C _ _ hk fun x u C1 l1 r1 hk=>hb C1 _ _ hk fun s v C2 l2 r2 hk=>am.elim hk fun c e hk=>r2.elim fun ρ r=>HT r (Rd.mono l2.ro.f x u r1) e fun t=>hQ (!c) (C2.tok t) ((l1.trans l2).trans bb.tok) hk
theorem IY {op:CmpOp}{a b:Expr}{wt:EP Bool}(hb:bc b≠9)(h:f.OkC op wt a b):f.OkE (eB wt) (.Compare a [op] [b] pos):=fun C k Q hk hQ=>
 wpAny_Compare1 (h C _ Q hk fun c C1 l1 hk=>hQ (.d (.bool c)) (.bool c) C1 l1 rfl hk) (z6 hb _)
theorem IZ {op:CmpOp}{a b:Expr}{wt:EP Bool}(hb:bc b≠9)(h:f.OkC op wt a b):f.OkT wt (.Compare a [op] [b] pos):=fun C k Q hk hQ=>
 wpAny_isTrue_Compare1 (h C _ _ hk fun c C1 l1 hk=>nV (hQ c c C1 l1 rfl hk)) (z6 hb _)
end
section
variable {prog:Program}{w:World}{A:Around}{E:Value→Shared→Prop}{s:Shared}{env:Env}
theorem Ae {value slice:Expr}{o i:Value}{T id:String}{Q:Value→Shared→Prop}{l:List Value}(hT:s.TypeIs o T)
 (hl:typeLookup (.type T) "__getitem__"=pure (some (.builtin id))) (h:wpAny (model prog w) A (gg o i) Q E s) (hs:subscripted slice false o i=operate l (gg o i)):
 wpAny (model prog w) A (subscriptTail value slice o i) Q E s:=by
 unfold subscriptTail
 refine ag ?_
 rw[getitemInPython_of_ne hT.not_modules]
 refine ag (wpAny_specialOf hT hl ?_)
 have fin:wpAny (model prog w) A (subscripted slice false o i) (fun r s₃=>wpAny (model prog w) A (letTemporaryGo value o r>>=fun _=>pure r) Q E s₃) E s:=by
  rw[hs]
  exact wpAny_operating (cZ h (fun r s₃ h₃=>ag (wpAny_letTemporaryGo (ak h₃))) fun _ _ x=>x)
 first
  |exact ak (ag fin)
  |exact ag (ak (ag fin))
  |exact ag fin
end
theorem I0 {slice:Expr}{o i:Value}(h:bc slice≠9):subscripted slice false o i=operate [o,i] (gg o i):=by
 cases slice<;>first|rfl|exact(h rfl).elim
section
variable {W:Wd}{f:Fc W}{C:Cp W f}{Q:Value→Shared→Prop}{v:Value}{pos:Pos}
theorem Sub.tail {value slice:Expr}{o i:Value}{d:aa}(x:Sub f C o i d)(hs:bc slice≠9)(h:aU f C Q (.d d)):f.wp (subscriptTail value slice o i) Q C.s:=
 x.1.elim fun T q=>q.elim fun id q=>Ae q.1 q.2 (x.2 Q h) (I0 hs)
theorem I1 {a i:Expr}{wa wi:EP PV}(hi:bc i≠9)(ha:f.OkE wa a)(hb:f.OkE wi i):f.OkE (bq wa wi) (.Subscript a i pos):=fun C k Q hk hQ=>
 Subscript_ (ha C _ _ hk fun p v C1 l1 r1 hk=>c7 hb C1 _ _ hk fun x u C2 l2 r2 hk=>am.elim hk fun z e hk=>(zQ (s:=.pv p) (ρ:=.hold) (bL.mono l2.ro p r1) r2 e).tail hi (hQ.out (l1.trans l2) hk))
theorem I2 {p:Pl}{x i:Expr}{wi:EP PV}(h:p.chk f.F.c x=true)(hi:bc i≠9)(hb:f.OkE wi i):f.OkE (ao p wi) (.Subscript (p.src x) i pos):=fun C k Q hk hQ=>
 Subscript_ (Pl.see h hk fun κ t v n e _ hv _ hk=>c7 hb (C.tok n) _ _ hk fun y u C2 l2 r2 hk=>Pl.again h e hv (bb.tok.trans l2) hk fun t _ _ _ r1 hk=>am.elim hk fun z e hk=>(zQ r1 r2 e).tail hi (hQ.out (bb.tok.trans l2) hk))
def I3 (f:Fc W)(C:Cp W f)(o:Option Int)(v:Value):Prop:=IsPart v o
abbrev Fc.OkP (f:Fc W)(w:EP (Option Int))(x:Option Expr):Prop:=f.Ok w (evalPart x f.F.env) (I3 f)
theorem I4:f.OkP oN none:=fun C k Q hk hQ=>ak (hQ none _ C .refl .none hk)
theorem I5 {e:Expr}{w:EP PV}(h:f.OkE w e):f.OkP (oS w) (some e):=fun C k Q hk hQ=>c7 h C _ Q hk fun x v C1 l1 r1 hk=>am.elim hk fun i e hk=>(r1.int' e).elim fun t e=>hQ (some i) v C1 l1 (show IsPart v _ from e▸ .int i t) hk
theorem I6 {e:Expr}{lo hi:Option Expr}{w:EP PV}{wl wh:EP (Option Int)}{p:Pos}(h:f.OkE w e)(hl:f.OkP wl lo)(hh:f.OkP wh hi):f.OkE (gk w wl wh) (.Subscript e (.Slice lo hi none p) pos):=fun C k Q hk hQ=>
 Subscript_ (c7 h C _ _ hk fun x v C1 l1 r1 hk=>wpAny_Slice (hl C1 _ _ hk fun a u C2 l2 r2 hk=>hh C2 _ _ hk fun b t C3 l3 r3 hk=>am.elim hk fun z e hk=>ak (by
  have fr:=C3.free (qw C3)
  let ob:Obj:={cls:=.type "slice",data:=.fields #[u,t,.none]}
  have hk':∀b o,b≠C3.s.heap.objs.size→C3.s.heap.get? b=some o→(C3.s.heap.push ob).get? b=some o:=fun b o _ e=>bH _ e
  let C4:Cp W f:=⟨C3.g,C3.l,C3.o,{C3.s with heap:=C3.s.heap.push ob},C3.sr.upd1 (γ':=C3.g.γ) (ju fr) (fun _ _=>rfl) hk' (fr▸trivial)⟩
  have l4:bb f C3 C4:=Le.upd1 .refl C3.sr (g0 fr) (fun _ _=>rfl) hk' ⟨rfl,rfl⟩
  have q:=H7 (C:=C4) (Rd.mono ((l2.trans l3).trans l4).ro.f _ _ r1) (Heap.IsSliceOf.new C3.s.heap u t .none) r2 r3 e (hQ.out (((l1.trans l2).trans l3).trans l4) hk)
  exact q.1.elim fun T y=>y.elim fun id y=>Ae (s:=C4.s) y.1 y.2 q.2 rfl)))
theorem Af (pos:Pos):∀(es:List XE) (xs:List Expr) (env:Env) (c:Cx),cM c es xs=true→(backTo pos (gd (bD es xs) env)).all (fun x=> !x.1)=true
 |[],_,_,_=>fun _=>rfl
 |e::es,xs,env,c=>fun h=>have q:=il h;by
  rw[show gd (bD (e::es) xs) env= _ from lD q.1 _ env]
  exact Af pos es xs.tail env c q.2.2
theorem Ag:∀(es:List XE) (xs:List Expr),(bD es xs).length=es.length
 |[],_=>rfl
 | _::es,xs=>congrArg (·+1) (Ag es xs.tail)
theorem Ah {o:Expr}{name:Str}{apos pos:Pos}{es:List XE}{xs:List Expr}{s:Shared}(hb:attributeBase o name f.F.env (eval o f.F.env)=eval o f.F.env)(hn:cM f.F.c es xs=true)(hl:es.length≤8)(hline:(apos.endLine==pos.line)=true)
 (h:f.wp (eval o f.F.env) (fun ov s₁=>∀pl,f.wp (getMethod ov name pl) (fun fm s₂=>f.wp (callWith pos fm.1 fm.2 (backTo pos (gd (bD es xs) f.F.env)) []) Q s₂) s₁) s):
 f.wp (eval (.Call (.Attribute o name apos) (bD es xs) [] pos) f.F.env) Q s:=by
 unfold Fc.wp
 rw[arm_eval_Call,hb]
 refine ag (cZ h (fun ov s₁ h₁=>?_) fun _ _ e=>e)
 refine ag (jl ?_)
 have hform:methodCallForm ((bD es xs).length+([]:List Keyword).length) (backTo pos (gd (bD es xs) f.F.env)) (backToKw pos (keywordEach [] f.F.env))=true:=by
  unfold methodCallForm
  rw[Af pos es xs f.F.env f.F.c hn,Ag]
  exact decide_eq_true (aX hl (by decide))
 have hpos:methodCallPos true o f.F.env apos pos=pure pos:=by unfold methodCallPos;simp [hline]
 unfold methodCall
 rw[hform]
 refine ag (dR (cZ (h₁ _) (fun fm s₂ h₂=>?_) fun _ _ e=>e))
 exact ag (wpAny_of_eq hpos h₂)
end
section
variable {W:Wd}{f:Fc W}{C:Cp W f}{Q:Value→Shared→Prop}{v:Value}{apos pos:Pos}
theorem Pl.base (p:Pl)(x:Expr)(name:Str)(env:Env):attributeBase (p.src x) name env (eval (p.src x) env)=eval (p.src x) env:=by cases p<;>rfl
theorem I7 {xs:List aa}{ρ:b8}{name:Str}{id:String}{pl:Sem Bool}{Q:Value×List Value→Shared→Prop}(c:bj W.Z C.g.γ C.s.heap ρ (.lst xs) v)(slot:PySem.Slot "list" name id)(hty:typeOf (.builtin id)=pure (.type "method_descriptor"))(q:Q (.builtin id,[v]) C.s):
 f.wp (getMethod v name pl) Q C.s:=
 (oE c).casesOn fun a vs n e r g z l=>by
  subst e
  exact getMethod_builtin (v:=.ref a) ⟨_,g,rfl⟩ PySem.F.plainAttrs_list slot hty (fun b e=>by cases e;exact⟨_,g,rfl⟩) q
theorem im {t:Slot}{xs:List aa}(e:lm t=some xs):t= .lst xs:=by cases t<;>cases e;rfl
theorem t4 {l:List (Str×Slot)}{x:Str}{s s₀:Slot}(h:l.lookup x=some s₀)(y:Str):(iK l x s).lookup y=if y=x then some s else l.lookup y:=by
 have gen:∀l:List (Str×Slot),(iK l x s).lookup y=if y=x then (l.lookup x).map fun _=>s else l.lookup y:=fun l=>by
  induction l with
  |nil=>split<;>rfl
  |cons p l ih=>
   have e:(iK (p::l) x s).lookup y=if (y==p.1)=true then some (if (p.1==x)=true then s else p.2) else (iK l x s).lookup y:=by
    show ((if (p.1==x)=true then (p.1,s) else p)::iK l x s).lookup y= _
    by_cases h:(p.1==x)=true
    ·rw[if_pos h,if_pos h,ji];cases (y==p.1)<;>rfl
    ·rw[if_neg h,if_neg h,ji];cases (y==p.1)<;>rfl
   rw[e,ih,ji,ji]
   by_cases hy:y=x
   ·subst hy
    rw[if_pos rfl,if_pos rfl]
    by_cases h:y=p.1
    ·rw[if_pos (beq_iff_eq.mpr h),if_pos (beq_iff_eq.mpr h.symm),show (y==p.1)=true from beq_iff_eq.mpr h];rfl
    ·rw[if_neg (fun z=>h (beq_iff_eq.mp z)),show (y==p.1)=false from beq_eq_false_iff_ne.mpr h]
   ·rw[if_neg hy,if_neg hy]
    by_cases h:y=p.1
    ·rw[if_pos (beq_iff_eq.mpr h),if_neg (fun z=>hy (h.trans (beq_iff_eq.mp z))),show (y==p.1)=true from beq_iff_eq.mpr h]
    ·rw[if_neg (fun z=>h (beq_iff_eq.mp z)),show (y==p.1)=false from beq_eq_false_iff_ne.mpr h]
 rw[gen,h];rfl
theorem qC {P:Addr→Obj→Prop}{γ:RM}{h:Heap}{ρ:b8}{a:Addr}(x:At (Ow γ h ρ) P (.ref a)):∃o,h.get? a=some o:=x.elim fun b o e q _=>by cases e;exact⟨o,q.2⟩
theorem oF {P:Addr→Obj→Prop}{ρ:Addr→Obj→Prop}{a:Addr}(x:At ρ P (.ref a))(h:∀o,¬ρ a o):False:=x.elim fun b o e q _=>by cases e;exact h o q
theorem qD {Z:Bs}{γ:RM}{h:Heap}{κ:b7}{a:Addr}(r:γ a= .own κ):∀{t:Slot},bj Z γ h (.own κ) t (.ref a)→∃o,h.get? a=some o
 | .lst _=>qC
 | .dct _=>qC
 | .tdct _=>qC
 | .pv (.o k)=>fun x=>(oF x fun o q=>nomatch r.symm.trans q).elim
 | .pv (.kd k)=>fun x=>(oF x fun o q=>nomatch r.symm.trans q).elim
 | .pv (.rg k)=>fun x=>(oF x fun o q=>nomatch r.symm.trans q).elim
 | .pv (.d (.list xs))=>fun x=>(oF (ρ:=Fz γ) x fun o q=>nomatch r.symm.trans q).elim
 | .pv (.d (.tuple xs))=>fun x=>(oF (ρ:=Fz γ) x fun o q=>nomatch r.symm.trans q).elim
 | .pv (.d .none)=>fun x=>nomatch (show Value.ref a= .none from x)
 | .pv (.d (.bool b))=>fun x=>nomatch (show Value.ref a= .bool b from x)
 | .pv (.d (.int i))=>fun x=>Exists.elim x fun t z=>nomatch z
 | .pv (.d (.str i))=>fun x=>Exists.elim x fun t z=>nomatch z
 | .pv (.d (.dict _))=>False.elim
theorem Cp.turn (C:Cp W f){κ:K0}{t t':Slot}{q:L×O}{P:Shared→Prop}(hl:iP C.l C.o κ=some t)(hv:C.g.val (κ.key f.F.d)=some v)(hp:zp C.l C.o t' κ=some q)
 (k:∀C':Cp W f,C'.l=q.1→C'.o=q.2→bb f C C'→P C'.s):iU f C (.own (κ.key f.F.d)) v t' P:=fun a s' e r hb hr x=>
 have K:∀y ρ,C.g.γ y=ρ→ρ≠ .own (κ.key f.F.d)→s'.heap.get? y=C.s.heap.get? y:=fun y ρ e n=>hb y fun z=>n (e.symm.trans ((congrArg C.g.γ z).trans r))
 have S:=C.sr
 have live:∀y,C.g.γ y≠ .free→∃ob,s'.heap.get? y=some ob:=fun y n=>(gC (y=a)).elim (fun z=>z▸qD r (e▸x)) fun z=>(S.live y n).elim fun ob q=>⟨ob,(hb y z).trans q⟩
 have fz:b9 C.g.γ s'.heap:=fun y ob e=>(K y _ e nofun).trans (S.frz y ob e)
 have LE:Le f.F.d (f.F.r+1) (f.F.r+1) f.F.c.nl C.g C.s C.g s':=⟨hr,fun y ρ e k=>⟨e,K y ρ e fun z=>by subst z;cases κ with|loc i=>exact gA _ k|att _ _=>exact k⟩,fun κ _=>.of rfl κ⟩
 by
  cases κ with
  |loc i=>
   cases hp
   exact k ⟨C.g,_,_,s',S.turn (γ':=C.g.γ) hv (fun y ρ e k n=>⟨e,K y ρ e n⟩) fz (fun _ _ _ e=>e) live (tH C.o) (fun κ' n=>qe n) fun s e=>qf (s':=s) e▸x⟩ rfl rfl LE
  |att j y=>
   obtain⟨o',ho,rfl⟩:=cC.mp hp
   obtain⟨b,hb',ho⟩:=bG.mp ho
   obtain⟨t0,hy,rfl⟩:=cC.mp ho
   have hj:j<C.o.length:=(fG.mp hb').1
   have get:∀i:Nat,(C.o.set j {b with at':=iK b.at' y t'})[i]? =if i=j then some {b with at':=iK b.at' y t'} else C.o[i]? :=fun i=>by
    by_cases z:i=j
    ·subst z;rw[if_pos rfl,List.getElem?_set_self hj]
    ·rw[if_neg z,List.getElem?_set_ne (gW z)]
   refine k ⟨C.g,_,_,s',S.turn (γ':=C.g.γ) hv (fun y ρ e k n=>⟨e,K y ρ e n⟩) fz (fun _ _ _ e=>e) live (fun i b' e=>?_) (fun κ' n=>?_) fun s e=>?_⟩ rfl rfl LE
   ·by_cases z:i=j
    ·subst z
     cases hb'.symm.trans e
     exact⟨_,(get i).trans (if_pos rfl),rfl,aB _,fun x=>by
      show (iK b.at' y t').lookup x=none↔_
      rw[t4 hy];split
      ·rename_i z;subst z;exact⟨nofun,fun z=>nomatch hy.symm.trans z⟩
      ·exact iI⟩
    ·exact⟨b',(get i).trans ((if_neg z).trans e),rfl,rfl,fun _=>iI⟩
   ·cases κ' with
    |loc _ _=>rfl
    |att i u=>
     show ((C.o.set j _)[i]?).bind _=(C.o[i]?).bind _
     rw[get i]
     by_cases z:i=j
     ·subst z
      rw[if_pos rfl,hb']
      exact(t4 hy u).trans (if_neg fun z=>n (by rw[z];rfl))
     ·rw[if_neg z]
   ·have e:((C.o.set j {b with at':=iK b.at' y t'})[j]?).bind (fun b=>b.at'.lookup y)=some s:=e
    rw[get j,if_pos rfl] at e
    cases ((t4 hy y).trans (if_pos rfl)).symm.trans e
    exact x
end
section
variable {W:Wd}{f:Fc W}{C:Cp W f}{Q:Value→Shared→Prop}{v:Value}{apos pos:Pos}{p:Pl}{x e:Expr}{w:EP PV}
theorem qE {name:Str}{id:String}{x:Expr}{es:List XE}{xs:List Expr}(hc:p.chk f.F.c x=true)(hn:cM f.F.c es xs=true)(hl:es.length≤8)(hline:(apos.endLine==pos.line)=true)(slot:PySem.Slot "list" name id)(hty:typeOf (.builtin id)=pure (.type "method_descriptor"))
 {k:Slot→L→O→Prop} (hk:p.g f.r C.l C.o k)
 (h:∀κ t v n,p.key C.l C.o=some κ→iP C.l C.o κ=some t→C.g.val (κ.key f.F.d)=some v→bj W.Z C.g.γ C.s.heap (.own (κ.key f.F.d)) t v→k t C.l C.o→(∃xs,t= .lst xs)∧f.wp (spliced (backTo pos (gd (bD es xs) f.F.env))) (fun us s₁=>True∧f.wp (call (.builtin id) ([v]++us)) Q s₁) (C.tok n).s):
 f.wp (eval (.Call (.Attribute (p.src x) name apos) (bD es xs) [] pos) f.F.env) Q C.s:=
 Ah (p.base x _ _) hn hl hline (Pl.see hc hk fun κ t v n e1 e2 hv r hk pl=>(h κ t v n e1 e2 hv r hk).1.elim fun xs z=>I7 (C:=C.tok n) (z▸r) slot hty
  (qB (P:=fun _=>True) (Ab (Ac false id)) hn (h κ t v n e1 e2 hv r hk).2))
theorem t5 {e:XE}{es:List Expr}{g u:Value}{s:Shared}(hn:cM f.F.c [e] es=true)(h:f.wp (eval (e.src (es.headD cW)) f.F.env) (fun v s₁=>f.wp (call g [u,v]) Q s₁) s):f.wp (spliced (backTo pos (gd (bD [e] es) f.F.env))) (fun us s₁=>True∧f.wp (call g ([u]++us)) Q s₁) s:=
 wpAny_items_cons (cZ h (fun u s₁ h₁=>te ⟨trivial,h₁⟩) fun _ _ x=>x) (lD (il hn).1 _ _)
theorem I8 [cE W]{x:Expr}{e:XE}{es:List Expr}(hc:p.chk f.F.c x=true)(hn:cM f.F.c [e] es=true)(hline:(apos.endLine==pos.line)=true):f.OkE (cB p e.w) (.Call (.Attribute (p.src x) "append" apos) (bD [e] es) [] pos):=fun C k Q hk hQ=>
 qE hc hn (by show 1≤8;decide) hline PySem.F.slot_list_append (by kernel_rfl) hk fun κ t v n e1 _ hv r hk=>am.elim hk fun xs e2 hk=>⟨⟨xs,im e2⟩,t5 hn (e.ok f _ (il hn).2.1 (C.tok n) _ _ hk fun y u C2 l2 r2 hk=>am.elim hk fun d e3 hk=>Pl.again hc e1 hv (bb.tok.trans l2) hk fun t2 e4 h5 hv2 r3 hk=>am.elim hk fun ys e6 hk=>am.elim hk.2 fun κ' e7 hk2=>am.elim hk2 fun q e8 hk3=>by
  cases e4.symm.trans e7
  rw[qg e3] at r2
  rw[im e6] at r3
  exact z0 r3 r2 hk.1 (C2.turn (im e6▸h5) hv2 e8 fun C3 a b l3=>hQ (.d .none) .none C3 ((bb.tok.trans l2).trans l3) rfl (a▸b▸hk3)))⟩
theorem I9 [cE W]{x:Expr}{e:XE}{es:List Expr}(hc:p.chk f.F.c x=true)(hn:cM f.F.c [e] es=true)(hline:(apos.endLine==pos.line)=true):f.OkE (p6 p e.w) (.Call (.Attribute (p.src x) "extend" apos) (bD [e] es) [] pos):=fun C k Q hk hQ=>
 qE hc hn (by show 1≤8;decide) hline PySem.F.slot_list_extend (by kernel_rfl) hk fun κ t v n e1 _ hv r hk=>am.elim hk fun xs e2 hk=>⟨⟨xs,im e2⟩,t5 hn (e.ok f _ (il hn).2.1 (C.tok n) _ _ hk fun y u C2 l2 r2 hk=>am.elim hk fun d e3 hk=>am.elim hk fun zs e9 hk=>Pl.again hc e1 hv (bb.tok.trans l2) hk fun t2 e4 h5 hv2 r3 hk=>am.elim hk fun ys e6 hk=>am.elim hk.2 fun κ' e7 hk2=>am.elim hk2 fun q e8 hk3=>by
  cases e4.symm.trans e7
  rw[qg e3,oy e9] at r2
  rw[im e6] at r3
  exact Ie r3 r2 hk.1 (C2.turn (im e6▸h5) hv2 e8 fun C3 a b l3=>hQ (.d .none) .none C3 ((bb.tok.trans l2).trans l3) rfl (a▸b▸hk3)))⟩
theorem Ja {x:Expr}{es:List Expr}(hc:p.chk f.F.c x=true)(hline:(apos.endLine==pos.line)=true):f.OkE (p7 p) (.Call (.Attribute (p.src x) "pop" apos) (bD [] es) [] pos):=fun C k Q hk hQ=>
 qE (es:=[]) hc rfl (bz _) hline yZ (by kernel_rfl) hk fun κ t v n e1 b hv r hk=>am.elim hk fun xs e2 hk=>⟨⟨xs,im e2⟩,te ⟨trivial,am.elim hk.2 fun κ' e7 hk2=>am.elim hk2 fun q e8 hk3=>by
  cases e1.symm.trans e7
  rw[im e2] at r
  exact Ig (C:=C.tok n) r hk.1 fun u ru=>(C.tok n).turn (im e2▸b) hv e8 fun C3 a b l3=>hQ (.d _) u C3 (bb.tok.trans l3) (Rd.mono l3.ro.f _ _ ru) (a▸b▸hk3)⟩⟩
theorem Jb [cE W]{x:Expr}{e:XE}{es:List Expr}(he:e.w=eC (.int 0))(hc:p.chk f.F.c x=true)(hn:cM f.F.c [e] es=true)(hline:(apos.endLine==pos.line)=true):f.OkE (p8 p) (.Call (.Attribute (p.src x) "pop" apos) (bD [e] es) [] pos):=fun C k Q hk hQ=>
 qE hc hn (by show 1≤8;decide) hline yZ (by kernel_rfl) hk fun κ t v n e1 b hv r hk=>am.elim hk fun xs e2 hkA=>⟨⟨xs,im e2⟩,t5 hn (e.ok f _ (il hn).2.1 (C.tok n) (fun y l o=>y= .d (.int 0)∧l=C.l∧o=C.o) _ (he.symm▸⟨rfl,rfl,rfl⟩) fun y u C2 l2 r2 hk3=>am.elim hkA.2 fun κ' e7 hk4=>am.elim hk4 fun q e8 hkB=>by
  cases e1.symm.trans e7
  rw[hk3.1] at r2
  rw[←hk3.2.1,←hk3.2.2] at e1 b e8
  have kg:p.g f.r C2.l C2.o fun t' l' o'=>t'=t:=by show am _ _;rw[e1];show am (iP _ _ κ) _;rw[b];exact rfl
  exact Pl.again hc (hk3.2.1▸hk3.2.2▸e1) hv (bb.tok.trans l2) kg fun t2 _ h5 hv2 r3 et=>by
   subst et
   rw[im e2] at r3
   exact Ih r3 r2 hkA.1 fun w rw=>C2.turn h5 hv2 e8 fun C3 a b l3=>hQ (.d _) w C3 ((bb.tok.trans l2).trans l3) (Rd.mono l3.ro.f _ _ rw) (a▸b▸hkB))⟩
end
section
variable {Z:Bs}{F:Fr}{g:Gh}{l:L}{o:O}{h:Heap}{s:Shared}{d a b m:Nat}
noncomputable def io (g:Gh)(n:Nat)(o:O)(ob:Obj):Gh where
 γ:=eZ (eZ g.γ n (.odict o.length)) (n+1) (.inst o.length ob)
 val:=g.val
 da:=fun j=>if j=o.length then n else g.da j
noncomputable def lE (h:Heap)(ob:Obj):Heap:=(h.push emptyDict).push ob
variable {n:Nat}{ob:Obj}
theorem qF {x:Addr}{c:Obj}(e:h.get? x=some c):(lE h ob).get? x=some c:=bH _ (bH _ e)
theorem Ai (hn:h.objs.size=n)(f:ob.isFreed=false):(lE h ob).get? (n+1)=some ob:=hn▸pK h emptyDict▸dH (h.push emptyDict) f
theorem qG:(io g n o ob).γ (n+1)= .inst o.length ob:=dL
theorem t6:(io g n o ob).γ n= .odict o.length:=(cV (dT (dm _))).trans dL
theorem t7:(io g n o ob).da o.length=n:=if_pos rfl
theorem Aj {x:Addr}(h1:x≠n)(h2:x≠n+1):(io g n o ob).γ x=g.γ x:=(cV h2).trans (cV h1)
theorem t8 (g:Gh)(o:O)(n:Nat)(ob:Obj)(x:Addr){P:Prop}(h1:x=n→P)(h2:x=n+1→P)(h3:(io g n o ob).γ x=g.γ x→P):P:=
 (gC (x=n)).elim h1 fun n=>(gC (x= _)).elim h2 fun n2=>h3 (Aj n n2)
theorem qH (hn:h.objs.size=n)(S:SR Z F g l o h){x:Addr}{ρ:b8}(e:g.γ x=ρ)(nf:ρ≠ .free):(io g n o ob).γ x=ρ∧(lE h ob).get? x=h.get? x:=
 have v:∀y,n≤y→x≠y:=fun y q z=>nf (e.symm.trans (S.vac (z▸gw (hn.symm▸q))))
 ⟨(Aj (v _ (aT _)) (v _ (dI _))).trans e,(S.live x fun z=>nf (e.symm.trans z)).elim fun c q=>(qF q).trans q.symm⟩
theorem Jc {o:O}{b c:Ob}{k:Nat}(e:(o++[b])[k]? =some c):o[k]? =some c∨(k=o.length∧c=b):=by
 rw[List.getElem?_append] at e
 split at e
 ·exact .inl e
 ·rename_i n
  have q:=fG.mp e
  have z:=q.1
  have z:k - o.length=0:=Nat.lt_one_iff.mp z
  exact .inr ⟨Nat.le_antisymm (Nat.le_of_sub_eq_zero z) (nZ n),(a8 (by rw[z] at e;exact e)).symm⟩
theorem Ak {o:O}{b c:Ob}{k:Nat}(e:o[k]? =some c):(o++[b])[k]? =some c:=(List.getElem?_append_left (fG.mp e).1).trans e
theorem SR.newOb (S:SR Z F g l o h)(hn:h.objs.size=n){c:Nat}(ei:ob=instObj (Z.CA.ad c) n):∃b,km Z (io g n o ob) (o++[⟨c,[]⟩]) (lE h ob) o.length ob b:=
 have vn:∀x,g.val (.att o.length x)=none:=fun x=>S.nov _ x (kS (aT _))
 ⟨⟨c,[]⟩,by rw[List.getElem?_append_right (aT _),Nat.sub_self];rfl,t7.symm▸ei,(congrArg _ t7).trans t6,
  t7.symm▸⟨_,#[],0,bH _ (hn▸dH _ rfl),rfl,fun _ he=>(Array.not_mem_empty _ he).elim,fun x=>(vn x).symm,bz _⟩,fun x _=>vn x,fun x s e=>nomatch (show none=some s from e)⟩
theorem SR.newObj (S:SR Z F g l o h)(hn:h.objs.size=n){c:Nat}(ei:ob=instObj (Z.CA.ad c) n):SR Z F (io g n o ob) l (o++[⟨c,[]⟩]) (lE h ob):=
 have fi:ob.isFreed=false:=ei▸rfl
 S.set (.loc (F.d+1) 0) (fun x ρ e k=>qH hn S e fun z=>by subst z;exact k)
  (fun y c e=>t8 g o n ob y (fun z=>by subst z;cases t6.symm.trans e) (fun z=>by subst z;cases qG.symm.trans e) fun n=>qF (S.frz y c (n.symm.trans e)))
  (fun y e=>t8 g o n ob y (fun z=>⟨_,z▸bH _ (hn▸dH _ rfl)⟩) (fun z=>⟨_,z▸Ai hn fi⟩) fun n=>(S.live y fun z=>e (n.trans z)).elim fun ob q=>⟨ob,qF q⟩)
  (have K:=S.sto.keep (γ':=(io g n o ob).γ) fun x r _ e=>qH hn S e nofun;⟨K.m,K.mr,K.cell⟩)
  (fun k y c e=>t8 g o n ob y (fun z=>by subst z;cases t6.symm.trans e)
   (fun z=>by
    subst z
    cases qG.symm.trans e
    exact⟨Ai hn fi,S.newOb hn ei⟩)
   fun n'=>(S.ist k y c (n'.symm.trans e)).elim fun p q=>⟨qF p,q.elim fun b R=>
    have nk:k≠o.length:=fun z=>nomatch (kS (bg z.symm)).symm.trans R.e
    have ed:(io g n o ob).da k=g.da k:=if_neg nk
    have kd:=qH hn S (ob:=ob) R.r nofun
    ⟨b,Ak R.e,ed.symm▸R.i,ed.symm▸kd.1,ed.symm▸R.m.same kd.2,R.u,R.c⟩⟩)
  (fun κ s _ e=>⟨(by
   cases κ with
   |loc _ _=>exact e
   |att k x=>exact(bG.mp e).elim fun b q=>(Jc q.1).elim (fun z=>bG.mpr ⟨b,z,q.2⟩) fun z=>by rw[z.2] at q;cases q.2),rfl⟩)
  (fun k x e=>S.nov k x (yQ.mpr fun b q=>nomatch e.symm.trans (Ak q)))
  fun s e=>nomatch (if_neg (Nat.succ_ne_self F.d)).symm.trans e
theorem SR.newLe (S:SR Z F g l o s.heap)(hn:s.heap.objs.size=n):Le d a b m g s (io g n o ob) {s with heap:=lE s.heap ob}:=
 ⟨⟨rfl,rfl⟩,fun x ρ e k=>qH hn S e fun z=>by subst z;exact k,fun κ _=>.of rfl κ⟩
theorem SR.around (S:SR Z F g l o h)(A:Around):SR Z {F with A:=A} g l o h:=⟨S.frz,S.ist,S.top,S.live,⟨S.sto.m,S.sto.mr,S.sto.cell⟩,S.slot,S.nov⟩
theorem bu.around (x:bu F)(A:Around)(h:A.handled=none):bu {F with A:=A}:=⟨x.names,x.kind,x.glob,x.bi,x.inj,x.cinj,x.cls,h,x.lt⟩
theorem iR.le {A:Around}{n n':Nat}(R:iR A n)(h:n'≤n):iR A n':=⟨aX (cy h _) R.dp,aX (je (cy (nR 40 h) _) _) R.un⟩
theorem Jd {A:Around}{n:Nat}{C:Addr}{rest:List Value}(R:iR A (n+1)):iR (A.under (.builtin "type.__call__" ⟨.ref C::rest,[]⟩)) n:=by
 refine⟨?_,?_⟩
 ·have e:(Code.builtin "type.__call__" ⟨.ref C::rest,[]⟩).weight=1:=by kernel_rfl
  show A.depth+ _+n<900
  rw[e,dS,gB 1 n];exact R.dp
 ·have e:(Code.builtin "type.__call__" ⟨.ref C::rest,[]⟩).cUnits=1:=by kernel_rfl
  show A.units+ _+40*n+200<cLine
  rw[e]
  have:=R.un;omega
end
section
variable {W:Wd}{f:Fc W}{C:Cp W f}{Q:Value→Shared→Prop}{v:Value}{np apos pos:Pos}
theorem t9 {g:Value}(hk:keepIn W.K g=true)(h:Heap)(X:W.K.In h):∃k,(k=Keeper.frame∨k=Keeper.machine∨k=Keeper.boundFrame)∧Looks W.Z.m h (keeperOf g) k:=keeps_K hk h X
theorem mJ.call {n:Nat}{a:Addr}{vs:List PV}{us:List Value}{K:PV→O→Prop}(h:mJ W.Z n a vs C.o K)(hn:n≤f.n+1)(r:dh W.Z C.g.γ vs us)(hq:∀p v (C':Cp W f),bb f C C'→bL W.Z C'.g.γ p v→C'.l=C.l→K p C'.o→Q v C'.s):f.wp (call (.ref a) us) Q C.s:=
 wpAny_call (h f.F C.g C.l C.s us _ f.ok (f.rm.le hn) C.sr r fun p v g o s S L r k=>hq p v ⟨g,C.l,o,s,S⟩ L r rfl k)
theorem Je [cE W]{x:Str}{es:List XE}{xs:List Expr}(hx:ot.contains x=true)(hg:f.F.c.names.lookup x=some .globalImplicit)(hn:cM f.F.c es xs=true):f.OkE (aC x (es.map (·.w))) (.Call (.Name x np) (bD es xs) [] pos):=fun C k Q hk hQ=>
 have q:=W.fn x hx
 wpAny_Call_NameR (qy hg q.1 (.inl q.2.1) (qB (P:=fun h=>W.K.In h) (t9 q.2.2) hn (qA pos es xs hn C _ _ hk fun vs us C1 l1 r1 hk=>
  ⟨C1.inK,(f.rok.call x vs C1.o _ hx hk).call (dI _) r1 fun p v C2 l2 r2 e hk=>hQ p v C2 (l1.trans l2) r2 (e.symm▸hk)⟩)))
theorem Jf [cE W]{x m:Str}{i:Nat}{es:List XE}{xs:List Expr}(hx:f.F.c.ix.lookup x=some i)(hn:cM f.F.c es xs=true)(hl:es.length≤8)(hline:(apos.endLine==pos.line)=true):f.OkE (dY (eV i) m (es.map (·.w))) (.Call (.Attribute (.Name x np) m apos) (bD es xs) [] pos):=fun C k Q hk hQ=>
 Ah rfl hn hl hline (zw hx C _ _ hk fun p v C1 l1 r1 hk pl=>am.elim hk fun j e hk=>am.elim hk fun c e2 hk=>by
  have e:p= .o j:=by cases p<;>cases e;rfl
  subst e
  refine At.elim r1 fun a ob e g _=>(C1.obj g).elim fun b z=>z.1.casesOn fun od e3 I lk=>?_
  subst e
  have e4:c=b.cls:=a8 (e2.symm.trans (congrArg (gD _) e3))
  subst e4
  have q:=W.mt _ m hk.1
  have sh:lookIn m od=some none:=(lk m).trans (congrArg some (z.2.u m (yQ.mpr fun s h=>nomatch (W.wf.fld _ _ (z.2.c m s h)).symm.trans q.1)))
  exact method_fn C1.inK I (W.wf.ga _) (W.wf.gt _) q.1 q.2.1 (congrArg (gD _) sh) (qB (P:=fun h=>W.K.In h) (t9 q.2.2) hn (qA pos es xs hn C1 _ _ hk.2 fun vs us C2 l2 r2 hk2=>
   ⟨C2.inK,(f.rok.meth _ m (.o j::vs) C2.o _ hk.1 hk2).call (dI _) ⟨_,us,rfl,⟨a,ob,rfl,l2.ro.i _ _ _ g,trivial⟩,r2⟩ fun p v C3 l3 r3 e hk=>hQ p v C3 ((l1.trans l2).trans l3) r3 (e.symm▸hk)⟩)))
theorem Jg [cE W]{x:Str}{c:Nat}{es:List XE}{xs:List Expr}(hx:qa.lookup x=some c)(hm:mC.contains (c,"__init__")=true)(hg:f.F.c.names.lookup x=some .globalImplicit)(hn:cM f.F.c es xs=true):f.OkE (p4 c (es.map (·.w))) (.Call (.Name x np) (bD es xs) [] pos):=fun C k Q hk hQ=>
 have q:=W.cl x c hx
 have p:=W.mt c _ hm
 wpAny_Call_NameR (qy hg q.1 (.inl q.2.1) (qB (P:=fun h=>W.K.In h) (t9 q.2.2) hn (qA pos es xs hn C _ _ hk fun vs us C1 l1 r1 hk=>⟨C1.inK,wpAny_call (by
  have S1:=C1.sr.newObj (c:=c) rfl rfl
  have L1:bb f C1 ⟨_,C1.l,_,{C1.s with heap:= _},S1⟩:=C1.sr.newLe rfl
  exact make_core (makes_of C1.inK (W.wf.mkd c)) (looks_findIn C1.inK p.1) (fun self=>bind_fn C1.inK self p.2.1) (.inl rfl)
   (f.rok.meth c _ (.o C1.o.length::vs) _ _ hm hk {f.F with A:=f.F.A.under _} _ C1.l {C1.s with heap:=lE C1.s.heap _} _ _ (f.ok.around _ f.ok.hd) (Jd f.rm) (S1.around _)
    ⟨_,us,rfl,⟨_,_,rfl,qG,trivial⟩,dh.mono L1.ro _ _ r1⟩ fun p v g' o' s' S' L' r' hk=>am.elim hk fun _ e hk=>by
     have e:p= .d .none:=by cases p with|d y=>cases y<;>cases e;rfl| _=>cases e
     subst e
     exact⟨r',hQ (.o C1.o.length) _ ⟨g',C1.l,o',s',S'.around f.F.A⟩ ((l1.trans L1).trans L') ⟨_,_,rfl,L'.ro.i _ _ _ qG,trivial⟩ hk⟩))⟩)))
end
section
variable {W:Wd}{f:Fc W}{C C':Cp W f}{m:Nat}{v:Value}
theorem oG {β:Type}{x:Sem β}{Q:β→Shared→Prop}{E:Value→Shared→Prop}{s:Shared}(h:f.wp x Q s):wpAny W.Z.m f.F.A x Q E s:=cZ h (fun _ _ x=>x) fun _ _ x=>x.elim
theorem Cp.grow (C:Cp W f){h':Heap}{P:Prop}(hk:∀b o,b≠C.s.heap.objs.size→C.s.heap.get? b=some o→h'.get? b=some o)(k:∀C':Cp W f,C'.l=C.l→C'.o=C.o→C'.g=C.g→C'.s={C.s with heap:=h'}→bb f C C'→P):P:=
 have fr:=C.free (gw (aT _))
 k ⟨C.g,C.l,C.o,{C.s with heap:=h'},C.sr.upd1 (γ':=C.g.γ) (ju fr) (fun _ _=>rfl) hk (fr▸trivial)⟩ rfl rfl rfl rfl (Le.upd1 .refl C.sr (g0 fr) (fun _ _=>rfl) hk ⟨rfl,rfl⟩)
def Fc.OkAs (f:Fc W)(m:Nat)(as:TP)(T:Expr):Prop:=∀(C:Cp W f) x v k (Q:Unit→Shared→Prop),Rd C.g.γ x v→as x f.r C.l C.o k→(∀C':Cp W f,cK f m C C'→k () C'.l C'.o→Q () C'.s)→f.wp (assign T f.F.env v) Q C.s
noncomputable def ko:List Nat→List Expr→List Expr
 |[],_=>[]
 | _::is,xs=>.Name (cr (xs.headD cW)) (xs.headD cW).pos::ko is xs.tail
noncomputable def lF (c:Cx)(m:Nat):List Nat→List Expr→Bool
 |[],_=>true
 |i::is,xs=>(c.bix (cr (xs.headD cW))==some i&&gE m i)&&lF c m is xs.tail
theorem Jh {c:Cx}{i:Nat}{is:List Nat}{xs:List Expr}(h:lF c m (i::is) xs=true):c.bix (cr (xs.headD cW))=some i∧m≤i∧lF c m is xs.tail=true:=
 have p:=aP.mp h;have q:=aP.mp p.1;⟨aN q.1,jc q.2,p.2⟩
theorem ua:∀{is:List Nat} {ds:List aa} {l l':L},mF is ds l=some l'→is.length=ds.length
 |[],[],_,_=>fun _=>rfl
 |[],_:: _,_,_=>fun e=>nomatch e
 | _:: _,[],_,_=>fun e=>nomatch e
 | _:: _,_:: _,_,_=>fun e=>congrArg (·+1) (ua (ds:= _) e)
theorem Al:∀(is:List Nat) (xs:List Expr) (ds:List aa) (vs:List Value) (l:L) (C:Cp W f) (Q:Unit→Shared→Prop),lF f.F.c m is xs=true→RdL C.g.γ ds vs→mF is ds C.l=some l→(∀C':Cp W f,C'.l=l→C'.o=C.o→cK f m C C'→Q () C'.s)→
 f.wp (assignInOrder ((assignEach (ko is xs) f.F.env).map (·.2)) vs) Q C.s
 |[],xs,[],vs,l,C,Q=>fun h r e k=>by cases r;exact ak (k C (a8 e) rfl .refl)
 |[],xs,_:: _,vs,l,C,Q=>fun h r e k=>nomatch e
 | _:: _,xs,[],vs,l,C,Q=>fun h r e k=>nomatch e
 |i::is,xs,d::ds,vs,l,C,Q=>fun h r e k=>r.elim fun v q=>q.elim fun ws q=>by
  have h:=Jh h
  rw[q.1]
  exact ag (dR (wpAny_assign_Name (mN h.1 (sl:=.pv (.d d)) q.2.1 h.2.1 fun C1 a b l1=>(Al is xs.tail ds ws l C1 Q h.2.2 (RdL.mono l1.ro.f _ _ q.2.2) (a.symm▸e) fun C2 a' b' l2=>k C2 a' (b'.trans b) (l1.trans l2)))))
theorem Am:∀(is:List Nat) (xs:List Expr),(assignEach (ko is xs) f.F.env).length=is.length
 |[],_=>rfl
 | _::is,xs=>congrArg (·+1) (Am is xs.tail)
theorem An:∀(is:List Nat) (xs:List Expr),(assignEach (ko is xs) f.F.env).findIdx? (·.1)=none
 |[],_=>rfl
 |i::is,xs=>(List.findIdx?_cons (p:=fun x:Bool×(Value→Sem Unit)=>x.1) (x:=(false,_)) (xs:=assignEach (ko is xs.tail) f.F.env)).trans (congrArg (gD _) (An is xs.tail))
theorem Ao {x:aa}{ds:List aa}(e:tt x=some ds):x= .tuple ds:=by cases x<;>cases e;rfl
theorem Ap (hm:m≤f.F.c.nl){is:List Nat}{xs:List Expr}{n:Nat}{pos:Pos}(h:lF f.F.c m is xs=true):f.OkAs m (cJ is) (.Tuple (ko is xs) n pos):=fun C x v k Q r hk hQ=>
 am.elim hk fun ds e1 hk=>am.elim hk fun l e2 hk=>(bI (T:="tuple") C.sr.frz (Ao e1▸r:Rd C.g.γ (.tuple ds) v)).elim fun a vs o n e g c d z r=>by
  rw[e]
  refine wpAny_assign_Tuple f.ok.hd ⟨o,g,c,n,d⟩ (((Am is xs).trans ?_).trans (RdL.length _ _ r).symm) (An is xs) fun h' hx=>C.grow hx fun C1 a b e e3 l1=>?_
  ·exact ua e2
  ·have t:=(Al is xs ds vs l C1 Q h (e.symm▸r) (a.symm▸e2) fun C2 a' b' l2=>hQ C2 ((l1.s hm).trans l2) (a'.symm▸b'.symm▸b.symm▸hk))
   exact e3▸t
theorem Ji {i:Nat}{x:Str}{pos:Pos}(h:f.F.c.bix x=some i)(hm:m≤i):f.OkAs m (ay i) (.Name x pos):=fun C x v k Q r hk hQ=>
 wpAny_assign_Name (mN h (sl:=.pv (.d x)) r hm fun C1 a b l1=>hQ C1 l1 (a.symm▸b.symm▸hk))
end
section
variable {W:Wd}{f:Fc W}{C C':Cp W f}{m:Nat}{v:Value}{pos:Pos}
def Fc.OkSt (f:Fc W)(w:SP)(x:Sem Flow):Prop:=∀(C:Cp W f) n t (Q:Flow→Shared→Prop),w f.r C.l C.o n t→(∀C':Cp W f,cK f 0 C C'→n C'.l C'.o→Q .next C'.s)→(∀p v (C':Cp W f),cK f 0 C C'→c6 f C' p v→t p C'.o→Q (.ret v) C'.s)→f.wp x Q C.s
abbrev Fc.OkB (f:Fc W)(w:SP)(xs:List Stmt):Prop:=f.OkSt w (execs xs f.F.env)
abbrev Fc.OkX (f:Fc W)(w:SP)(x:Stmt):Prop:=f.OkSt w (exec x f.F.env)
theorem bb.s0 (l:bb f C C'):cK f 0 C C':=l.s (bz _)
theorem Jj:f.OkB sN []:=fun C n t Q hk hn ht=>wpAny_execs_nil (hn C .refl hk)
theorem Jk {a b:SP}{x:Stmt}{xs:List Stmt}(ha:f.OkX a x)(hb:f.OkB b xs):f.OkB (sS a b) (x::xs):=fun C n t Q hk hn ht=>
 wpAny_execs_cons (ha C _ t _ hk (fun C1 l1 hk=>hb C1 n t Q hk (fun C2 l2=>hn C2 (l1.trans l2)) fun p v C2 l2=>ht p v C2 (l1.trans l2)) ht)
theorem Jl {a:SP}{x:Stmt}(ha:f.OkX a x):f.OkB a [x]:=fun C n t Q hk hn ht=>
 wpAny_execs_cons (ha C n t _ hk (fun C1 l1 hk=>wpAny_execs_nil (hn C1 l1 hk)) ht)
theorem Jm {s:Shared}{Q:Flow→Shared→Prop}(q:Q .next s):f.wp (do standAt pos;let _ ←runValue (.builtin "proto.let_go" {});pure .next) Q s:=
 ag (jl (ag (wpAny_runValue (jj entry_let_go (show wpAny _ _ (ret .none) _ _ s from ak (ak q))))))
theorem Jn {g:Expr}{as:List Expr}{ks:List Keyword}{p:Pos}{v:Value}{s:Shared}{Q:Flow→Shared→Prop}(q:Q .next s):f.wp (dropValue (.Call g as ks p) pos v) Q s:=by
 cases v<;>first|exact ak q|exact Jm q
theorem Aq {n:Nat}(h:n=4)(e:Nat.beq n 4=false){P:Prop}:P:=by subst h;cases e
theorem Jo {e:Expr}(h:bc e=4){v:Value}{s:Shared}{Q:Flow→Shared→Prop}(q:Q .next s):f.wp (dropValue e pos v) Q s:=by
 cases e<;>first|exact Jn q|exact Aq h rfl|(rename_i op _ _;cases op<;>exact Aq h rfl)
theorem oH {value:Expr}{T:Option Expr}{l:Nat}{env:Env}(h:bc value≠2)(h9:bc value≠9):swapsWith value T l env=pure false:=by
 cases value<;>first|rfl|exact(h rfl).elim|exact(h9 rfl).elim
theorem Jp {e:Expr}{w:EP PV}(h4:bc e=4)(h:f.OkE w e):f.OkX (sE w) (.Expr e pos):=fun C n t Q hk hn ht=>by
 have hi:interactive f.F.env=false:=by unfold interactive;rw[f.ok.kind];rfl
 unfold Fc.wp
 rw[exec_Expr f.F.env e pos hi (oH (fun z=>nomatch h4.symm.trans z) fun z=>nomatch h4.symm.trans z)]
 exact ag (jl (ag (h C _ _ hk fun p v C1 l1 r1 hk=>Jo h4 (hn C1 l1.s0 hk))))
theorem Jq {e:Expr}{w:EP PV}(h:f.OkE w e):f.OkX (sR w) (.Return (some e) pos):=fun C n t Q hk hn ht=>
 wpAny_Return_some (h C _ _ hk fun p v C1 l1 r1 hk=>ht p v C1 l1.s0 r1 hk)
theorem Jr {c:Expr}{a b:List Stmt}{wc:EP Bool}{wa wb:SP}(hc:f.OkT wc c)(ha:f.OkB wa a)(hb:f.OkB wb b):f.OkX (sI wc wa wb) (.If c a b pos):=fun C n t Q hk hn ht=>
 wpAny_If (hc C _ _ hk fun c v C1 l1 r1 hk=>by
  have r1:v=c:=r1
  subst r1
  cases v with
  |true=>exact ha C1 n t Q hk (fun C2 l2=>hn C2 (l1.s0.trans l2)) fun p v C2 l2=>ht p v C2 (l1.s0.trans l2)
  |false=>exact hb C1 n t Q hk (fun C2 l2=>hn C2 (l1.s0.trans l2)) fun p v C2 l2=>ht p v C2 (l1.s0.trans l2))
theorem ub {T value:Expr}{Q:Flow→Shared→Prop}{s:Shared}(ha:(assignEach [T] f.F.env).map (·.2)=[assign T f.F.env])(hs:swapsWith value (some T) pos.line f.F.env=pure false)(hw:swappedStores [T] value f.F.env=pure none)
 (h:f.wp (eval value f.F.env) (fun v s₁=>f.wp (assign T f.F.env v) (fun _=>Q .next) s₁) s):f.wp (exec (.Assign [T] value pos) f.F.env) Q s:=by
 unfold Fc.wp
 rw[arm_exec_Assign]
 refine ag (jl ?_)
 rw[show swapsWithSole [T] value pos.line f.F.env=pure false from hs,ha,hw]
 refine ag (ak ?_)
 refine ag (cZ h (fun v s₁ h₁=>?_) fun _ _ x=>x)
 exact ag (ak (ag (cZ h₁ (fun _ s₂ h₂=>ak h₂) fun _ _ x=>x)))
def jv (f:Fc W)(C:Cp W f)(s:Slot)(v:Value):Prop:=bj W.Z C.g.γ C.s.heap (.acc (f.F.r+1)) s v
abbrev Fc.OkF (f:Fc W)(w:EP Slot)(x:Expr):Prop:=f.Ok w (eval x f.F.env) (jv f)
theorem Cp.own (C:Cp W f){sl:Slot}(κ:b7)(r:jv f C sl v){P:Prop}(k:∀C':Cp W f,C'.l=C.l→C'.o=C.o→C'.s=C.s→bb f C C'→(∀k,C'.g.val k=C.g.val k)→bj W.Z C'.g.γ C'.s.heap (.own κ) sl v→(∀x ρ,C.g.γ x=ρ→d7 f.F.r ρ→C'.g.γ x=ρ)→P):P:=by
 have go:∀{Pr:RM→Addr→Obj→Prop},At (Ow C.g.γ C.s.heap (.acc (f.F.r+1))) (Pr C.g.γ) v→(∀γ',iQ C.g.γ γ'→∀a o,Pr C.g.γ a o→Pr γ' a o)→(∀γ' (g:Heap),At (Ow γ' g (.own κ)) (Pr γ') v→bj W.Z γ' g (.own κ) sl v)→P:=fun {Pr} x mono fin=>x.elim fun a o e ow p=>by
  have nr:¬d7 f.F.r (C.g.γ a):=fun z=>(ow.1▸z:d7 f.F.r (.acc _))
  have nk:¬gn f.F.d (f.F.r+1) (f.F.r+1) (C.g.γ a):=fun z=>gA _ (ow.1▸z:gn _ _ (f.F.r+1) (.acc _))
  have hu:fq C.s.heap a (eZ C.g.γ a (.own κ) a):=(dL (γ:=C.g.γ)).symm▸⟨o,ow.2⟩
  have hg:∀y,y≠a→eZ C.g.γ a (.own κ) y=C.g.γ y:=fun y n=>cV n
  have hh:∀b ob,b≠a→C.s.heap.get? b=some ob→C.s.heap.get? b=some ob:=fun _ _ _ e=>e
  have L:=Le.upd1 (d:=f.F.d) (a:=f.F.r+1) (b:=f.F.r+1) (m:=f.F.c.nl) (s':=C.s) .refl C.sr nk hg hh ⟨rfl,rfl⟩
  exact k ⟨_,C.l,C.o,C.s,C.sr.upd1 nr hg hh hu⟩ rfl rfl rfl L (fun _=>rfl) (fin _ _ ⟨a,o,e,⟨dL,ow.2⟩,mono _ L.ro.f _ _ p⟩) fun x ρ e z=>(hg x fun q=>nr (q▸e.symm▸z)).trans e
 cases sl with
 |pv p=>exact k C rfl rfl rfl .refl (fun _=>rfl) r fun _ _ e _=>e
 |lst xs=>exact go (Pr:=fun γ=>gJ (RdL γ xs)) r (fun γ' l a o=>gJ.map (RdL.mono l xs)) fun γ' g x=>x
 |dct kvs=>exact go (Pr:=fun γ=>gm W.Z γ kvs) r (fun γ' l=>gm.mono l) fun γ' g x=>x
 |tdct kvs=>exact go (Pr:=fun γ=>lq W.Z γ kvs) r (fun γ' l=>lq.mono l) fun γ' g x=>x
theorem uc {x:Str}{i:Nat}{sl:Slot}{Q:Unit→Shared→Prop}(hx:f.F.c.bix x=some i)(r:jv f C sl v)(k:∀C':Cp W f,C'.l=C.l.set i (some sl)→C'.o=C.o→cK f 0 C C'→Q () C'.s):f.wp (assign (.Name x pos) f.F.env v) Q C.s:=
 C.own (.loc f.F.d i) r fun C1 a b e l1 _ r1 _=>e▸wpAny_assign_Name (mN hx r1 (bz i) fun C2 a' b' l2=>k C2 (a▸a') (b'.trans b) (l1.s0.trans l2))
theorem Js {x:Str}{i:Nat}{np:Pos}{e:Expr}{w:EP Slot}(hx:f.F.c.bix x=some i)(h2:bc e≠2)(h9:bc e≠9)(h:f.OkF w e):f.OkX (sA i w) (.Assign [.Name x np] e pos):=fun C n t Q hk hn ht=>
 ub rfl (oH h2 h9) rfl (h C _ _ hk fun sl v C1 l1 r1 hk=>uc hx r1 fun C2 a b l2=>hn C2 (l1.s0.trans l2) (a▸b▸hk))
theorem Jt {es:List Expr}{k:Nat}{p:Pos}{value:Expr}{env:Env}(h:bc value≠3):swappedStores [.Tuple es k p] value env=pure none:=by
 cases value<;>first|rfl|exact(h rfl).elim
theorem Ju {es:List Expr}{k:Nat}{np:Pos}{e:Expr}{as:TP}{w:EP PV}(h3:bc e≠3)(h2:bc e≠2)(h9:bc e≠9)(ha:f.OkAs 0 as (.Tuple es k np))(h:f.OkE w e):f.OkX (gH as w) (.Assign [.Tuple es k np] e pos):=fun C n t Q hk hn ht=>
 ub rfl (oH h2 h9) (Jt h3) (c7 h C _ _ hk fun x v C1 l1 r1 hk=>ha C1 x v _ _ r1 hk fun C2 l2 hk=>hn C2 (l1.s0.trans l2) hk)
theorem Jv {p:Pl}{x i e:Expr}{np:Pos}{wi we:EP PV}(h2:bc e≠2)(h9:bc e≠9)(hc:p.chk f.F.c x=true)(hi:f.OkE wi i)(he:f.OkE we e):f.OkX (ik p wi we) (.Assign [.Subscript (p.src x) i np] e pos):=fun C n t Q hk hn ht=>
 wpAny_Assign_Subscript (c7 he C _ _ hk fun d v C1 l1 r1 hk=>Pl.see hc hk fun κ t u n e1 _ hv _ hk=>c7 hi (C1.tok n) _ _ hk fun y v2 C2 l2 r2 hk=>Pl.again hc e1 hv (bb.tok.trans l2) hk fun t2 e4 h5 hv2 r3 hk=>am.elim hk fun sl e6 hk=>am.elim hk fun κ' e7 hk2=>am.elim hk2 fun q e8 hk3=>by
  cases e4.symm.trans e7
  exact tP r3 r2 (Rd.mono (bb.tok.trans l2).ro.f _ _ r1) e6 (C2.turn h5 hv2 e8 fun C3 a b l3=>hn C3 (((l1.trans bb.tok).trans l2).trans l3).s0 (a▸b▸hk3))) (oH h2 h9)
theorem Jw {Z:Bs}{γ:RM}{p:PV}{d:aa}(e:j8 p=some d)(r:bL Z γ p v):Rd γ d v:=by cases qg e;exact r
theorem Jx {x:Str}{i:Nat}{np:Pos}{e:Expr}{w:EP PV}(hx:f.F.c.bix x=some i)(h:f.OkE w e):f.OkX (tz i w) (.AugAssign (.Name x np) .Add e pos):=fun C n t Q hk hn ht=>
 mA.elim (show mA _ _ from hk) fun t e hk=>am.elim hk fun p e2 hk=>(C.sr.slot (.loc f.F.d i) t (zt e)).elim fun v z=>wpAny_AugAssign_Name (zv (Cx.bix_some hx).1 z.1 (C.sr.still z.1 z.2 e2 fun γ' l1 S r=>am.elim hk fun d e3 hk=>
  c7 h ⟨_,_,_,C.s,S⟩ _ _ hk fun y u C2 l2 r2 hk=>am.elim hk fun a e4 hk=>am.elim hk fun b e5 hk=>(Rd.int' (Jw e3 r) e4).elim fun t1 q1=>(r2.int' e5).elim fun t2 q2=>by
   rw[q1,q2]
   exact AutoIntOps.iadd_0 (mN (C:=C2.tok (C2.s.toks+1)) hx (sl:=.pv (.d (.int (a+b)))) ⟨_,rfl⟩ (bz i) fun C3 a b l3=>hn C3 ((bb.s0 (f:=f) (C:=C) (C':=C2.tok _) ((Le.trans l1 l2).trans bb.tok)).trans l3) (a▸b▸hk))))
end
section
variable {W:Wd}{f:Fc W}{C C':Cp W f}{v:Value}{pos:Pos}
theorem Jy {w:EP PV}{x:Expr}(h:f.OkE w x):f.OkF (sV w) x:=fun C k Q hk hQ=>h C _ Q hk fun p v C' l r hk=>hQ (.pv p) v C' l r hk
theorem mL.fresh {k:Slot→L→O→Prop}{Q:Value→Shared→Prop}{sl:Slot}{a:Addr}{s':Shared}{o:Obj}{C₀:Cp W f}(hQ:mL f C₀ (jv f) k Q)(l0:bb f C₀ C)(hk:k sl C.l C.o)(ha:C.s.heap.get? a=none)(hg:∀b o,C.s.heap.get? b=some o→s'.heap.get? b=some o)(hr:s'.gens=C.s.gens∧s'.os=C.s.os)(ho:s'.heap.get? a=some o)
 (r:∀γ',iQ C.g.γ γ'→γ' a= .acc (f.F.r+1)→bj W.Z γ' s'.heap (.acc (f.F.r+1)) sl (.ref a)):Q (.ref a) s':=
 have fr:=C.free ha
 have L:Le f.F.d (f.F.r+1) (f.F.r+1) f.F.c.nl C.g C.s {C.g with γ:=eZ C.g.γ a (.acc (f.F.r+1))} s':=Le.upd1 .refl C.sr (g0 fr) (fun y n=>cV n) (fun b o _=>hg b o) hr
 hQ sl (.ref a) ⟨_,C.l,C.o,s',C.sr.upd1 (ju fr) (fun y n=>cV n) (fun b o _=>hg b o) ((dL (γ:=C.g.γ)).symm▸⟨o,ho⟩)⟩ (l0.trans L) (r _ L.ro.f dL) hk
theorem Jz [cE W](es:List XE)(xs:List Expr)(h:cM f.F.c es xs=true)(hn:es.length≤64):f.OkF (fL (es.map (·.w))) (.List (bD es xs) pos):=fun C k Q hk hQ=>
 wpAny_List (qz pos es xs h C _ _ hk fun ds vs C1 l1 r1 hk=>⟨mP r1 hn,hQ.fresh l1 hk (gw (aT _)) (fun _ _ e=>bH _ e) ⟨rfl,rfl⟩ (dH _ rfl) fun γ' l e=>
  ⟨_,_,rfl,⟨e,dH _ rfl⟩,vs,0,rfl,mP r1 hn,RdL.mono l _ _ r1.2⟩⟩)
theorem JA:f.OkF ki (.Dict [] [] pos):=fun C k Q hk hQ=>
 wpAny_Dict_empty (hQ.fresh .refl hk (gw (aT _)) (fun _ _ e=>bH _ e) ⟨rfl,rfl⟩ (dH _ rfl) fun γ' l e=>
  ⟨_,_,rfl,⟨e,dH _ rfl⟩,[],Nat.ne_of_gt C.big,⟨#[],0,⟨rfl,rfl,rfl⟩,rfl,fun _ he=>(Array.not_mem_empty _ he).elim,Pairs.nil,List.nodup_nil⟩,rfl,rfl⟩)
theorem JB {e:Expr}{w:EP PV}{np:Pos}(hx:iW f "list")(he:bc e≠9)(h:f.OkE w e):f.OkF (tx w) (.Call (.Name "list" np) [e] [] pos):=fun C k Q hk hQ=>
 iV true rfl hx he (c7 h C _ _ hk fun t v C1 l1 r1 hk=>am.elim hk fun n e hk=>zU r1 e fun a s' ha hg hr z=>z.elim fun o z=>hQ.fresh l1 hk ha hg hr z.1 fun γ' l e=>⟨a,o,rfl,⟨e,z.1⟩,z.2 γ' l⟩)
noncomputable def setA (val:b7→Option Value)(j:Nat)(x:Str)(v:Value):b7→Option Value
 | .loc d i=>val (.loc d i)
 | .att k y=>if k=j∧y=x then some v else val (.att k y)
theorem JC {val:b7→Option Value}{j:Nat}{x:Str}:setA val j x v (.att j x)=some v:=if_pos ⟨rfl,rfl⟩
theorem Ar {val:b7→Option Value}{j:Nat}{x:Str}:∀{κ:b7},κ≠ .att j x→setA val j x v κ=val κ
 | .loc _ _=>fun _=>rfl
 | .att _ _=>fun h=>if_neg fun z=>h (by rw[z.1,z.2])
theorem ud {l:List (Str×Slot)}{x y:Str}{s:Slot}(h:l.lookup x=none):(l++[(x,s)]).lookup y=if y=x then some s else l.lookup y:=by
 rw[List.lookup_append]
 by_cases e:y=x
 ·subst e;rw[h,if_pos rfl,List.lookup_cons_self];rfl
 ·rw[if_neg e,ji,beq_eq_false_iff_ne.mpr e];exact Option.or_none
theorem JD {a:Addr}{m:Str→Option Value}{z:Nat}{name:Str}{Q:Unit→Shared→Prop}{A:Around}{E:Value→Shared→Prop}{s:Shared}(hn:kj s.heap a m z)
 (hQ:∀h',kj h' a (fun x=>if x=name then some v else m x) (z+1)→gv a s.heap h'→Q () {s with heap:=h',toks:=s.toks+1}):wpAny W.Z.m A (nsSet a name v) Q E s:=by
 intro Γ p _
 obtain⟨o,es,ep,ho,hd,hk,hm,hz⟩:=hn
 simp only[nsSet,strHash,Sem.wp_bind',Sem.wp_cmd_ask,Sem.wp_pure',Sem.wp_cmd_mkText]
 rw[Sem.wp_loadPart_of _ Γ _ p {s with toks:=s.toks+1} (o:=o) _ ho]
 have hany:es.any (·.refKey)=false:=by
  rw[Array.any_eq_false'];intro e he;obtain⟨n,t,h⟩:=hk e he;simp [DictEntry.refKey,h]
 simp only[hd,aRefKeyMayBeTheName_at,hany,Bool.and_false,jf,if_false,Sem.wp_cmd_updatePart]
 refine⟨by rw[ho];rfl,hQ _ ?_ (kX ..)⟩
 obtain⟨c,d,dt,sl⟩:=o
 subst hd
 cases hi:es.findIdx? (·.key.isStr name) with
 |some i=>
  refine⟨_,_,ep,l9 _ ho (by simp only[Obj.putName_eq,Obj.putNameByArray,hi];rfl),by simp only[Obj.putName_eq,Obj.putNameByArray,hi];rfl,hk.modify _ _,fun x=>?_,by rw[Array.size_modify];exact nY hz⟩
  show _=if x=name then some v else m x
  rw[←hm];exact findBy_modify (fun n v=>v.isStr n) Value.isStr_inj es name x v i hi
 |none=>
  refine⟨_,_,ep+1,l9 _ ho (by simp only[Obj.putName_eq,Obj.putNameByArray,hi];rfl),by simp only[Obj.putName_eq,Obj.putNameByArray,hi];rfl,hk.push _ _ _ _,fun x=>?_,by rw[Array.size_push];exact gS hz⟩
  show _=if x=name then some v else m x
  rw[←hm]
  exact findBy_push (fun n v=>v.isStr n) es name x _ _ v (fun y=>by
   show (name==y)=decide (y=name)
   by_cases h:y=name
   ·subst h;simp
   ·have:¬name=y:=fun e=>h e.symm
    simp [h,this]) hi
end
section
variable {W:Wd}{f:Fc W}{C C':Cp W f}{v:Value}{pos:Pos}
theorem mQ {o:O}{j k:Nat}{b c:Ob}(hb:o[j]? =some b):(o.set j c)[k]? =if k=j then some c else o[k]? :=by
 by_cases z:k=j
 ·subst z;rw[if_pos rfl,List.getElem?_set_self (fG.mp hb).1]
 ·rw[if_neg z,List.getElem?_set_ne (gW z)]
theorem As {p:Prop}[Decidable p]{α:Type}{a b c:α}{P:Prop}(e:(if p then a else b)=c)(t:p→a=c→P)(f:¬p→b=c→P):P:=
 (gC p).elim (fun h=>t h ((if_pos h).symm.trans e)) fun h=>f h ((if_neg h).symm.trans e)
theorem Cp.addAtt {a:Addr}{ob:Obj}{j:Nat}{b:Ob}{x:Str}{sl:Slot}{h':Heap}{t:Nat}(C:Cp W f)(g:C.g.γ a= .inst j ob)(R:km W.Z C.g C.o C.s.heap j ob b)(hx:b.at'.lookup x=none)(hok:W.Z.CA.ok b.cls x)(r:bj W.Z C.g.γ C.s.heap (.own (.att j x)) sl v)
 (hn:kj h' (C.g.da j) (fun y=>if y=x then some v else C.g.val (.att j y)) (b.at'.length+1)) (hk:∀y,y≠C.g.da j→h'.get? y=C.s.heap.get? y):
 SR W.Z f.F {C.g with val:=setA C.g.val j x v} C.l (C.o.set j {b with at':=b.at'++[(x,sl)]}) h'∧Le f.F.d (f.F.r+1) (f.F.r+1) f.F.c.nl C.g C.s {C.g with val:=setA C.g.val j x v} {C.s with heap:=h',toks:=t}:=
 have S:=C.sr
 have K:∀y ρ,C.g.γ y=ρ→ρ≠ .odict j→h'.get? y=C.s.heap.get? y:=fun y ρ e n=>hk y fun z=>n (e.symm.trans (z▸R.r))
 have kx:∀ρ,qd (.att j x) ρ→ρ= .odict j∨ρ≠ .odict j:=fun ρ _=>gC _
 have look_ne:∀κ,κ≠ .att j x→fS f.F.d C.l (C.o.set j {b with at':=b.at'++[(x,sl)]}) κ=fS f.F.d C.l C.o κ:=fun κ n=>by
  cases κ with
  |loc _ _=>rfl
  |att i y=>
   show ((C.o.set j _)[i]?).bind _=(C.o[i]?).bind _
   rw[mQ R.e]
   by_cases z:i=j
   ·subst z;rw[if_pos rfl,R.e];exact(ud hx).trans (if_neg fun z=>n (by rw[z]))
   ·rw[if_neg z]
 have vl:∀i y,i≠j→setA C.g.val j x v (.att i y)=C.g.val (.att i y):=fun i y n=>if_neg fun z=>n z.1
 ⟨{frz:=fun y o e=>(K y _ e nofun).trans (S.frz y o e)
   top:=S.top
   live:=fun y e=>(gC (y=C.g.da j)).elim (fun z=>z▸hn.elim fun o q=>q.elim fun es q=>q.elim fun ep q=>⟨o,q.1⟩) fun n=>(S.live y e).elim fun o q=>⟨o,(hk y n).trans q⟩
   sto:=have T:=S.sto.keep (γ':=C.g.γ) fun y q _ e=>⟨e,K y _ e nofun⟩;⟨T.m,T.mr,T.cell⟩
   ist:=fun i y o e=>(S.ist i y o e).elim fun p q=>⟨(K y _ e nofun).trans p,q.elim fun b' R'=>(gC (i=j)).elim
    (fun z=>by
     subst z
     cases a8 (R.e.symm.trans R'.e)
     have lk:∀y,(b.at'++[(x,sl)]).lookup y=if y=x then some sl else b.at'.lookup y:=fun y=>ud hx
     exact⟨⟨b.cls,b.at'++[(x,sl)]⟩,(mQ R.e).trans (if_pos rfl),R'.i,R.r,by
      rw[show (b.at'++[(x,sl)]).length=b.at'.length+1 from aG]
      exact hn.elim fun o q=>q.elim fun es q=>q.elim fun ep q=>⟨o,es,ep,q.1,q.2.1,q.2.2.1,fun y=>(q.2.2.2.1 y).trans (by by_cases z:y=x<;>simp [setA,z]),q.2.2.2.2⟩,
      fun y e=>As ((lk y).symm.trans e) (fun z e=>nomatch e) fun z e=>(if_neg fun q=>z q.2).trans (R.u y e),
      fun y s e=>As ((lk y).symm.trans e) (fun z _=>z▸hok) fun z e=>R.c y s e⟩)
    fun n=>⟨b',(mQ R.e).trans ((if_neg n).trans R'.e),R'.i,R'.r,(R'.m.same (K _ _ R'.r fun z=>n (by injection z))).elim fun o q=>q.elim fun es q=>q.elim fun ep q=>⟨o,es,ep,q.1,q.2.1,q.2.2.1,fun y=>(q.2.2.2.1 y).trans (vl i y n).symm,q.2.2.2.2⟩,fun y e=>(vl i y n).trans (R'.u y e),R'.c⟩⟩
   slot:=fun κ s e=>(gC (κ= .att j x)).elim
    (fun z=>by
     subst z
     have e:((C.o.set j _)[j]?).bind (fun b=>b.at'.lookup x)=some s:=e
     rw[mQ R.e,if_pos rfl] at e
     cases ((ud hx).trans (if_pos rfl)).symm.trans e
     exact⟨v,JC,r.mono ⟨fun _ _ e=>e,fun _ _ _ e=>e⟩ fun y o q=>⟨q.1,(K y (.own (.att j x)) q.1 nofun).trans q.2⟩⟩)
    fun n=>(S.slot κ s ((look_ne κ n).symm.trans e)).elim fun u q=>⟨u,(Ar n).trans q.1,q.2.mono ⟨fun _ _ e=>e,fun _ _ _ e=>e⟩ fun y o q=>⟨q.1,(K y (.own κ) q.1 nofun).trans q.2⟩⟩
   nov:=fun i y e=>(gC (i=j)).elim (fun z=>by subst z;cases ((mQ R.e).trans (if_pos rfl)).symm.trans e) fun n=>(vl i y n).trans (S.nov i y (((mQ R.e).trans (if_neg n)).symm.trans e))},
  ⟨rfl,rfl⟩,fun y ρ e k=>⟨e,K y ρ e fun z=>by subst z;exact k⟩,fun κ k=>(gC (κ= .att j x)).elim (fun z=>by subst z;exact fun u e=>nomatch (R.u x hx).symm.trans e) fun n=>.of (Ar n) κ⟩
theorem JE {o o':O}{j:Nat}{x:Str}{s:Slot}{b:Ob}(e:tA o j x s=some o')(hb:o[j]? =some b):b.at'.lookup x=none∧b.at'.length<60∧o'=o.set j {b with at':=b.at'++[(x,s)]}:=
 (bG.mp e).elim fun b' q=>by
  cases hb.symm.trans q.1
  have p:=cG.mp q.2
  exact⟨Option.isNone_iff_eq_none.mp p.1.1,p.1.2,(a8 p.2).symm⟩
theorem JF {a:Addr}{ob:Obj}{j:Nat}{x:Str}{sl:Slot}{o':O}{Q:Unit→Shared→Prop}(C:Cp W f)(g:C.g.γ a= .inst j ob)(hx:mG.contains x=true)(e:tA C.o j x sl=some o')(r:bj W.Z C.g.γ C.s.heap (.own (.att j x)) sl v)
 (k:∀C':Cp W f,C'.l=C.l→C'.o=o'→bb f C C'→Q () C'.s):f.wp (setAttr (.ref a) x v) Q C.s:=
 (C.obj g).elim fun b p=>p.1.casesOn fun od e2 I lk=>by
  have ok:=W.ats b.cls x hx
  have ea:=JE e e2
  obtain⟨cd,hc,hd'⟩:=any_some (W.wf.hd b.cls)
  refine set_plain C.inK I (W.wf.sa _) (osa_open (s:={C.s with toks:=C.s.toks+1}) C.inK I (W.wf.po _) (r:=none) (by unfold takerIn;rw[W.wf.fld _ _ ok];rfl) fun _=>?_)
  refine ag (ak (ag (ag (wpAny_loadPart I.at_ (ag ((looks_clsIn C.inK hc) _ _ _ _ (fun _ _ e=>e) ?_))))))
  rw[hd']
  refine ak (a:=some (C.g.da j)) (ag (ak (ag (JD (W:=W) (s:={C.s with toks:=C.s.toks+1}) p.2.m fun h' ns' sb=>?_))))
  have A:=C.addAtt (h':=h') (t:=C.s.toks+1+1) g p.2 ea.1 ok r ns' sb.2
  have fin:=k ⟨_,C.l,_,{C.s with heap:=h',toks:=C.s.toks+1+1},A.1⟩ rfl ea.2.2.symm A.2
  exact ns'.elim fun o q=>q.elim fun es q=>q.elim fun ep q=>ag (wpAny_lookBehind (s:={C.s with heap:=h',toks:=C.s.toks+1+1}) q.1 (by rw[q.2.1];exact pastItsLine_dict (ai q.2.2.2.2 (by rw[ff];exact ai (gS (eW ea.2.1)) (by decide)))) (ak fin))
theorem JG {y x:Str}{i:Nat}{yp p:Pos}{e:Expr}{w:EP Slot}(h2:bc e≠2)(h9:bc e≠9)(hi:f.F.c.ix.lookup y=some i)(hx:mG.contains x=true)(h:f.OkF w e):f.OkX (eY i x w) (.Assign [.Attribute (.Name y yp) x p] e pos):=fun C n t Q hk hn ht=>
 plainObj_wpAny_Assign_Attribute (h C _ _ hk fun sl v C1 l1 r1 hk=>am.elim hk fun j e1 hk=>am.elim hk fun o' e2 hk=>(C1.obL e1).elim fun a z=>z.elim fun ob z=>
  C1.own (.att j x) r1 fun C2 a1 a2 a3 l2 hv r2 hr=>a3▸ox (C:=C2) hi ((hv _).trans z.1) (JF C2 (hr a _ z.2 trivial) hx (a2▸e2) r2 fun C3 b1 b2 l3=>hn C3 ((l1.trans l2).trans l3).s0 (by rw[b1,b2,a1];exact hk))) (oH h2 h9)
end
section
variable {W:Wd}{f:Fc W}{C C':Cp W f}{v:Value}{pos:Pos}
inductive WI (f:Fc W)(C:Cp W f)(wc:EP Bool)(wb:SP)(n:L→O→Prop)(t:PV→O→Prop):Nat→Shared→Prop
 |mk (k:Nat) (C':Cp W f) (l:cK f 0 C C') (h:kh wc wb f.r n t k C'.l C'.o):WI f C wc wb n t k C'.s
theorem JH {R:Result→Shared→Prop}{c:Expr}{b:List Stmt}{wc:EP Bool}{wb:SP}{n:L→O→Prop}{t:PV→O→Prop}(hc:f.OkT wc c)(hb:f.OkB wb b)(hn:∀C':Cp W f,cK f 0 C C'→n C'.l C'.o→R (.ok .next) C'.s)(ht:∀p v (C':Cp W f),cK f 0 C C'→c6 f C' p v→t p C'.o→R (.ok (.ret v)) C'.s)(k:Nat)(C1:Cp W f)(l1:cK f 0 C C1)(hk:kh wc wb f.r n t (k+1) C1.l C1.o):
 f.wp (isTrue c f.F.env (eval c f.F.env)) (fun b' s₂=>if b' then wpAny W.Z.m f.F.A (execs b f.F.env) (fun g s₃=>match g with
  | .next| .cont=>∃m,m<k+1∧WI f C wc wb n t m s₃
  | .brk=>R (.ok .next) s₃
  | .ret v=>R (.ok (.ret v)) s₃) (notedBy W.Z.m f.F.A f.F.env fun e s'=>R (.error e) s') s₂
  else wpAny W.Z.m f.F.A (execs [] f.F.env) (fun g s₃=>R (.ok g) s₃) (notedBy W.Z.m f.F.A f.F.env fun e s'=>R (.error e) s') s₂) C1.s:=
 hc C1 _ _ hk fun c v C2 l2 r2 hk=>Br.elim hk (fun e hk=>Eq.mpr (if_pos (Eq.trans r2 e)) (oG (hb C2 _ _ _ hk (fun C3 l3 hk=>⟨k,dm _,.mk k C3 ((l1.trans l2.s0).trans l3) hk⟩) fun p v C3 l3 r3 hk=>ht p v C3 ((l1.trans l2.s0).trans l3) r3 hk)))
  fun e hk=>Eq.mpr (if_neg (gz.mp (Eq.trans r2 e))) (wpAny_execs_nil (hn C2 (l1.trans l2.s0) hk))
theorem JI {R:Result→Shared→Prop}{c:Expr}{b:List Stmt}{wc:EP Bool}{wb:SP}{n:L→O→Prop}{t:PV→O→Prop}{m:Nat}(hc:f.OkT wc c)(hb:f.OkB wb b)(hn:∀C':Cp W f,cK f 0 C C'→n C'.l C'.o→R (.ok .next) C'.s)(ht:∀p v (C':Cp W f),cK f 0 C C'→c6 f C' p v→t p C'.o→R (.ok (.ret v)) C'.s)(hk:kh wc wb f.r n t m C.l C.o):
 fg W.Z.m f.F.A (.whileLoop c b [] f.F.env) R C.s:=
 codeAny_whileLoop (WI f C wc wb n t) (fun k s' z=>by
  cases z with
  |mk C1 l1 hk=>
   cases k with
   |zero=>exact hk.elim
   |succ k=>exact oG (JH hc hb hn ht k C1 l1 hk)) m (.mk m C .refl hk)
theorem JJ {c:Expr}{b:List Stmt}{wc:EP Bool}{wb:SP}(hc:f.OkT wc c)(hb:f.OkB wb b):f.OkX (sW wc wb) (.While c b [] pos):=fun C n t Q hk hn ht=>hk.elim fun m hk=>wpAny_While (JI hc hb hn ht hk)
theorem Au {target:Expr}{I:Addr}{v:Value}{T:String}{o:Obj}{Q:Unit→Shared→Prop}{E:Value→Shared→Prop}{A:Around}{s:Shared}(ho:s.heap.get? I=some o)(hc:o.cls= .type T)(hT:tL T)(q:Q () s):
 wpAny W.Z.m A (pH target (.ref I) v) Q E s:=by
 unfold pH
 have fin:∀k:Sem Unit,k=(do
  let (.ref r,.ref a):=(Value.ref I,v)|return
  let o ←load r
  match o.cls,o.data with
  | .type n,.fields vs=>
   if ["enumerate","zip","dict_itemiterator","dict_reverseitemiterator","odict_iterator","itertools.zip_longest","itertools.pairwise"].contains n&&vs[0]? ==some (c4 a) then
    rule "for.unpacks-the-owned-tuple"
    updateField r 0 .none
  | _,_=>pure ())→wpAny W.Z.m A k Q E s:=by
  rintro k rfl
  cases v with
  |ref a=>
   refine ag (wpAny_load ho ?_)
   rw[hc]
   have hn:["enumerate","zip","dict_itemiterator","dict_reverseitemiterator","odict_iterator","itertools.zip_longest","itertools.pairwise"].contains T=false:=by
    rcases hT with rfl|rfl|rfl|rfl<;>decide
   cases hd:o.data<;>first|exact ak q|skip
   dsimp only
   rw[hn,Bool.false_and,if_neg (by decide)]
   exact ak q
  | _=>exact ak q
 cases target<;>first|exact ak q|exact fin _ rfl
theorem JK {γ:RM}{a:Addr}{r:b8}(h:γ a=r):eZ γ a r=γ:=funext fun b=>by
 by_cases z:b=a
 ·subst z;exact dL.trans h.symm
 ·exact cV z
structure Hd (f:Fc W)(a b m:Nat)(g₀:Gh)(s₀:Shared)(I:Addr)(xs:List aa)(C:Cp W f):Prop where
 le:Le f.F.d a b m g₀ s₀ C.g C.s
 r:C.g.γ I= .hold
 it:dc W.Z C.g.γ C.s.heap xs I
 n:g₀.γ I= .free
section
variable {a b m:Nat}{g₀:Gh}{s₀:Shared}{I:Addr}{xs ys:List aa}
theorem Hd.le' (H:Hd f a b m g₀ s₀ I xs C)(l:Le f.F.d a b m C.g C.s C'.g C'.s):Hd f a b m g₀ s₀ I xs C':=
 have q:=l.role I _ H.r trivial
 ⟨H.le.trans l,q.1,H.it.mono C.sr.frz C'.sr.frz l.ro.f q.2,H.n⟩
theorem Hd.new {s':Shared}{P:Prop}(hI:C.s.heap.get? I=none)(it:dc W.Z C.g.γ s'.heap xs I)(hg:∀b o,C.s.heap.get? b=some o→s'.heap.get? b=some o)(hr:s'.gens=C.s.gens∧s'.os=C.s.os)
 (k:∀C':Cp W f,C'.l=C.l→C'.o=C.o→C'.s=s'→C'.g={C.g with γ:=eZ C.g.γ I .hold}→Hd f a b m C.g C.s I xs C'→P):P:=
 it.obj.elim fun T z=>z.elim fun ob z=>by
  have fr:=C.free hI
  have hg':∀b o,b≠I→C.s.heap.get? b=some o→s'.heap.get? b=some o:=fun b o _=>hg b o
  have S:=C.sr.upd1 (γ':=eZ C.g.γ I .hold) (ju fr) (fun y n=>cV n) hg' ((dL (γ:=C.g.γ)).symm▸⟨ob,z.1⟩)
  have L:Le f.F.d a b m C.g C.s {C.g with γ:=eZ C.g.γ I .hold} s':=Le.upd1 .refl C.sr (g0 fr) (fun y n=>cV n) hg' hr
  have fz:b9 C.g.γ s'.heap:=fun b o e=>hg b o (C.sr.frz b o e)
  exact k ⟨_,_,_,s',S⟩ rfl rfl rfl rfl ⟨L,dL,it.mono fz S.frz L.ro.f rfl,fr⟩
theorem Hd.turn {s':Shared}{ρ:b8}{P:Prop}(H:Hd f a b m g₀ s₀ I xs C)(hb:lB I C.s s')(hρ:fq s'.heap I ρ)
 (k:∀C':Cp W f,C'.l=C.l→C'.o=C.o→C'.s=s'→C'.g={C.g with γ:=eZ C.g.γ I ρ}→Le f.F.d a b m g₀ s₀ C'.g C'.s→P):P:=
 have nr:¬d7 f.F.r (C.g.γ I):=fun z=>(H.r▸z:d7 f.F.r .hold)
 k ⟨_,C.l,C.o,s',C.sr.upd1 nr (fun y n=>cV n) hb.1 (dL (γ:=C.g.γ)▸hρ)⟩ rfl rfl rfl rfl (Le.upd1 H.le C.sr (g0 H.n) (fun y n=>cV n) hb.1 hb.2)
theorem Hd.next {x:aa}{Q:Option Value→Shared→Prop}{E:Value→Shared→Prop}{A:Around}(hA:A.handled=none)(H:Hd f a b m g₀ s₀ I (x::xs) C)
 (k:∀v (C':Cp W f),C'.l=C.l→C'.o=C.o→C'.g=C.g→lB I C.s C'.s→Rd C'.g.γ x v→Hd f a b m g₀ s₀ I xs C'→Q (some v) C'.s):wpAny W.Z.m A (fh (.ref I)) Q E C.s:=
 H.it.next hA fun v s' r it hb=>it.obj.elim fun T z=>z.elim fun ob z=>H.turn (ρ:=.hold) hb ⟨ob,z.1⟩ fun C1 a b e eg l=>by
  rw[JK H.r] at eg
  have t:=k v C1 a b eg (e▸hb) (eg▸r) ⟨l,eg▸H.r,eg▸e▸it,H.n⟩
  exact e▸t
theorem Hd.done {Q:Option Value→Shared→Prop}{E:Value→Shared→Prop}{A:Around}(hA:A.handled=none)(H:Hd f a b m g₀ s₀ I [] C)(k:∀C':Cp W f,C'.l=C.l→C'.o=C.o→C'.g={C.g with γ:=eZ C.g.γ I .free}→lB I C.s C'.s→Le f.F.d a b m g₀ s₀ C'.g C'.s→Q none C'.s):wpAny W.Z.m A (fh (.ref I)) Q E C.s:=
 H.it.done hA fun s' hb=>H.turn (ρ:=.free) hb trivial fun C1 a b e eg l=>e▸k C1 a b eg (e▸hb) l
end
inductive FI (f:Fc W)(C:Cp W f)(I:Addr)(as:TP)(wb:SP)(n:L→O→Prop)(t:PV→O→Prop):Nat→Shared→Prop
 |mk (ys:List aa) (C':Cp W f) (H:Hd f f.F.r (f.F.r+1) 0 C.g C.s I ys C') (h:ba as wb f.r n t ys C'.l C'.o):FI f C I as wb n t ys.length C'.s
theorem JL {R:Result→Shared→Prop}{T:Expr}{b:List Stmt}{as:TP}{wb:SP}{I:Addr}{n:L→O→Prop}{t:PV→O→Prop}(hT:f.OkAs 0 as T)(hb:f.OkB wb b)(hn:∀C':Cp W f,cK f 0 C C'→n C'.l C'.o→R (.ok .next) C'.s)(ht:∀p v (C':Cp W f),cK f 0 C C'→c6 f C' p v→t p C'.o→R (.ok (.ret v)) C'.s)
 {Qd:Shared→Prop} {Qn:Flow→Shared→Prop} (y:aa) (ys:List aa) (C1:Cp W f) (H:Hd f f.F.r (f.F.r+1) 0 C.g C.s I (y::ys) C1) (hk:ba as wb f.r n t (y::ys) C1.l C1.o)
 (h1:∀s,(∃m,m<ys.length+1∧FI f C I as wb n t m s)→Qn .next s) (h2:∀v s,R (.ok (.ret v)) s→Qn (.ret v) s) {E E':Value→Shared→Prop}:
 wpAny W.Z.m f.F.A (fh (.ref I)) (fun r s₁=>match r with
  |none=>Qd s₁
  |some v=>wpAny W.Z.m f.F.A (pH T (.ref I) v) (fun _ s₁'=>wpAny W.Z.m f.F.A (assign T f.F.env v) (fun _ s₂=>wpAny W.Z.m f.F.A (execs b f.F.env) Qn E s₂) E s₁') E s₁) E' C1.s:=
 H.next f.ok.hd fun v C4 a b _ _ r4 H4=>H4.it.obj.elim fun T z=>z.elim fun ob z=>Au z.1 z.2.1 z.2.2 (oG (hT C4 y v _ _ r4 (a▸b▸hk) fun C5 l5 hk=>oG (hb C5 _ _ _ hk
  (fun C6 l6 hk=>h1 _ ⟨ys.length,dm _,.mk ys C6 ((H4.le' l5).le' l6) hk⟩) fun p v C6 l6 r6 hk=>h2 v _ (ht p v C6 ((H4.le.trans l5).trans l6) r6 hk))))
theorem JM {R:Result→Shared→Prop}{T:Expr}{b:List Stmt}{as:TP}{wb:SP}{n:L→O→Prop}{t:PV→O→Prop}{o:Obj}{xs:List aa}(hT:f.OkAs 0 as T)(hb:f.OkB wb b)(hn:∀C':Cp W f,cK f 0 C C'→n C'.l C'.o→R (.ok .next) C'.s)(ht:∀p v (C':Cp W f),cK f 0 C C'→c6 f C' p v→t p C'.o→R (.ok (.ret v)) C'.s)
 (hk:ba as wb f.r n t xs C.l C.o) (it:dc W.Z C.g.γ (C.s.heap.push o) xs C.s.heap.objs.size):fg W.Z.m f.F.A (.forLoop T (.ref C.s.heap.objs.size) b [] f.F.env) R {C.s with heap:=C.s.heap.push o}:=
 have hI:C.s.heap.get? C.s.heap.objs.size=none:=gw (aT _)
 Hd.new (s':={C.s with heap:=C.s.heap.push o}) hI it (fun _ _ e=>bH _ e) ⟨rfl,rfl⟩ fun C2 a2 b2 e2 _ H2=>e2▸codeAny_forLoop_any (FI f C C.s.heap.objs.size as wb n t) (fun k s' z=>by
  cases z with
  |mk ys C3 H3 hk=>
   cases ys with
   |nil=>exact H3.done f.ok.hd fun C4 a b _ _ l4=>wpAny_execs_nil (hn C4 l4 (a▸b▸hk))
   |cons y ys=>exact JL hT hb hn ht y ys C3 H3 hk (fun _ h=>h) fun _ _ h=>h) _ (.mk xs C2 H2 (a2▸b2▸hk))
theorem JN {T e:Expr}{b:List Stmt}{as:TP}{w:EP PV}{wb:SP}(h9:bc e≠9)(hT:f.OkAs 0 as T)(he:f.OkE w e)(hb:f.OkB wb b):f.OkX (sF as w wb) (.For T e b [] pos):=fun C n t Q hk hn ht=>
 wpAny_For (he C _ _ hk fun p v C1 l1 r1 hk=>am.elim hk fun xs e hk=>oD r1 e fun o fr it=>JM hT hb (fun C' l=>hn C' (l1.s0.trans l)) (fun p v C' l=>ht p v C' (l1.s0.trans l)) hk it) (tY h9 _)
end
section
variable {W:Wd}{f:Fc W}{C C':Cp W f}{v:Value}{pos:Pos}
noncomputable def ue (c:Cx)(x y:Str)(px py:Pos)(u v:Expr):Bool:=
 (c.names.lookup x==some .local&&c.names.lookup y==some .local&&(px.line==py.line)&&(x !=y))&&(!([u,v].all (foldedForSure 8))&& !([u,v].all (constantsAlone 8)))
noncomputable def sw (bk st:Bool)(names:List Str)(fo co:Bool):Sem (Option (List Str)):=
 if bk=true then pure none else if st=true then pure none else if (names.length !=2||names.eraseDups.length !=names.length)=true then pure none else if fo=true then pure none else if co=true then unsupported "assign.tuple-of-constant-expressions:order-of-the-stores" else pure (some names)
noncomputable def qI (env:Env)(x:Str)(p:Pos)(l:Nat):Option Str:=if (env.kindOf x==some .local&&p.line==l)=true then some x else none
noncomputable def uf:Expr→Bool
 | .Starred .. =>true
 | _=>false
theorem Av {w:Expr}(h:bc w≠9):uf w=false:=by cases w<;>first|rfl|exact(h rfl).elim
theorem JO {x y:Str}{px py p:Pos}{u v:Expr}{k k':Nat}{p':Pos}(hu:bc u≠9)(hv:bc v≠9)(h:ue f.F.c x y px py u v=true):
 swappedStores [.Tuple [.Name x px,.Name y py] k p] (.Tuple [u,v] k' p') f.F.env=pure (some [x,y]):=by
 have h:=aP.mp h
 have h12:=aP.mp h.2
 have h:=aP.mp h.1
 have h6:=bne_iff_ne.mp h.2
 have h:=aP.mp h.1
 have h5:px.line=py.line:=aN h.2
 have h:=aP.mp h.1
 have nm:∀{z:Str} {p:Pos} {l:Nat},(f.F.c.names.lookup z==some .local)=true→p.line=l→qI f.F.env z p l=some z:=fun {z p l} h e=>if_pos (aP.mpr ⟨beq_iff_eq.mpr (f.ok.names z .local nofun (aN h)),beq_iff_eq.mpr e⟩)
 have e1:swappedStores [.Tuple [.Name x px,.Name y py] k p] (.Tuple [u,v] k' p') f.F.env=sw (f.F.env.blockKind != .function) (uf u||(uf v||false))
  (match qI f.F.env x px px.line with|none=>(match qI f.F.env y py px.line with|none=>[]|some b=>[b])|some a=>a::match qI f.F.env y py px.line with|none=>[]|some b=>[b]) ([u,v].all (foldedForSure 8)) ([u,v].all (constantsAlone 8)):=by kernel_rfl
 have hb:(f.F.env.blockKind != .function)=false:=by unfold Env.blockKind;rw[f.ok.kind];rfl
 rw[e1,hb,Av hu,Av hv,nm h.1 rfl,nm h.2 h5.symm,(ia _).mp h12.1,(ia _).mp h12.2]
 have ed:[x,y].eraseDups=[x,y]:=by simp [List.eraseDups_cons,gW h6]
 have e3:([x,y].length !=2||[x,y].eraseDups.length !=[x,y].length)=false:=by rw[ed];rfl
 exact if_neg (gz.mp e3)
theorem JP {ds:List aa}{P:Prop}(h:ds.length=2)(k:∀a b,ds=[a,b]→P):P:=
 (List.exists_cons_of_length_eq_add_one h).elim fun a z=>z.elim fun t e=>(List.length_eq_one_iff.mp (mo ((congrArg cI e).symm.trans h))).elim fun b e'=>k a b (e.trans (congrArg _ e'))
theorem JQ {x y:Str}{i j:Nat}{ds:List aa}{l':L}{st:List (Value→Sem Unit)}{Q:Flow→Shared→Prop}(hx:f.F.c.bix x=some i)(hy:f.F.c.bix y=some j)(e:mF [j,i] ds.reverse C.l=some l')(r:Rd C.g.γ (.tuple ds) v)
 (k:∀C':Cp W f,C'.l=l'→C'.o=C.o→cK f 0 C C'→Q .next C'.s):f.wp (assignStores f.F.env v (some [x,y]) st) Q C.s:=
 JP ((ua e).trans List.length_reverse).symm fun a b ed=>by
  subst ed
  refine(bI (T:="tuple") C.sr.frz r).elim fun ad vs o n ev g c d z r=>?_
  obtain⟨wa,ws,e2,ra,r⟩:=r
  obtain⟨wb,ws',e3,rb,rl⟩:=r
  rw[e2,e3,show ws'=[] from rl] at d
  rw[ev]
  exact ag (iH (ag (wpAny_unpackItems_tuple (items:=#[wa,wb]) f.ok.hd ⟨o,g,c,n,d⟩ fun h' hx'=>C.grow hx' fun C2 a2 b2 eg es l2=>es▸ag (ag (dR (wpAny_bindName (mN (C:=C2) hy (sl:=.pv (.d b)) (eg.symm▸rb) (bz _)
   fun C3 a3 b3 l3=>ag (dR (wpAny_bindName (mN (C:=C3) hx (sl:=.pv (.d a)) (Rd.mono l3.ro.f _ _ (eg.symm▸ra)) (bz _) fun C4 a4 b4 l4=>
    ak (ak (k C4 (by rw[a4,a3,a2];exact a8 e) (by rw[b4,b3,b2]) ((l2.s0.trans l3).trans l4)))))))))))))
theorem JR [cE W]{x y:Str}{i j:Nat}{px py p p':Pos}{k k':Nat}{e1 e2:XE}{xs:List Expr}(hx:f.F.c.bix x=some i)(hy:f.F.c.bix y=some j)(h:cM f.F.c [e1,e2] xs=true)(hs:ue f.F.c x y px py (e1.src (xs.headD cW)) (e2.src (xs.tail.headD cW))=true):
 f.OkX (p9 i j (ap [e1.w,e2.w])) (.Assign [.Tuple [.Name x px,.Name y py] k p] (.Tuple (bD [e1,e2] xs) k' p') pos):=fun C n t Q hk hn ht=>by
 have q1:=il h
 unfold Fc.wp
 rw[arm_exec_Assign,show swappedStores [.Tuple [.Name x px,.Name y py] k p] (.Tuple (bD [e1,e2] xs) k' p') f.F.env= _ from JO q1.1 (il q1.2.2).1 hs]
 exact ag (jl (ag (ak (ag (c7 (z9 [e1,e2] xs k' p' h (by decide:2≤64)) C _ _ hk fun d vv C1 l1 r1 hk=>am.elim hk fun ds e3 hk=>am.elim hk fun l' e4 hk=>ag (ak
  (JQ hx hy e4 (Ao e3▸r1:Rd C1.g.γ (.tuple ds) vv) fun C2 a b l2=>hn C2 (l1.s0.trans l2) (a▸b▸hk))))))))
end
abbrev kp (ifs:List Expr)(env:Env):Sem Bool:=forIn ifs true fun c r=>if r=true then do let ok ←isTrue c env (eval c env);pure (pI ok) else pure (pI r)
noncomputable def JS (e:Expr)(d:Nat)(G:jQ)(inner:Sem Fin→Sem Fin)(it acc:Value)(env:Env):Sem Fin:=do
 standAt G.iter.pos
 match ←fh it with
 |none=>pure (.done .next)
 |some v=>do
  pH G.target it v
  assign G.target env v
  let ok ←kp G.ifs env
  if ok=true then inner (again (.compLoop e d it acc env)) else again (.compLoop e d it acc env)
noncomputable def ug (elt:Expr)(acc:Value)(env:Env)(k:Sem Fin):Sem Fin:=do
 let _ ←(do let _ ←call (.builtin "list.append") [acc,←eval elt env];pure PUnit.unit)
 k
noncomputable def Aw (e:Expr)(d:Nat)(i:Expr)(acc:Value)(env:Env)(k:Sem Fin):Sem Fin:=do
 let x ←eval i env
 standAt i.pos
 let x ←foldedSetIterable i env x
 let _ ←runOwn (.compStart e d (←holding [x] (pyIter x)) acc env) env
 k
noncomputable def JT (e:Expr)(d:Nat)(i:Expr)(it acc:Value)(env:Env):Sem Fin:=do
 if (←ask).params.followText "comprehension-iter-twice" then return ←again (.compLoop e d it acc env)
 rule "comprehension.iter-twice"
 standAt i.pos
 again (.compLoop e d (←pyIter it) acc env)
structure mR (Z:Bs)(e:Expr)(d:Nat)(G:jQ)(inner:Value→Env→Sem Fin→Sem Fin):Prop where
 t:∀it acc env,Z.m.den (.compLoop e d it acc env)=(JS e d G (inner acc env) it acc env).onRaise (fun x=>do noteFrame x env;theTreesLotGoes x)
 s:∀it acc env,Z.m.den (.compStart e d it acc env)=(JT e d G.iter it acc env).onRaise (fun x=>do noteFrame x env;standAt theWindowsPlace)
 u:∀(A:Around) it acc env,A.under (.compLoop e d it acc env)=A
 v:∀(A:Around) it acc env,A.under (.compStart e d it acc env)=A
variable {Z:Bs}
theorem JU {elt t i:Expr}{ifs:List Expr}{sc:Scope}{pos:Pos}:mR Z (.ListComp elt [⟨t,i,ifs,0⟩] sc pos) 0 ⟨t,i,ifs,0⟩ (ug elt):=⟨fun _ _ _=>rfl,fun _ _ _=>rfl,fun _ _ _ _=>rfl,fun _ _ _ _=>rfl⟩
theorem JV {elt t i t' i':Expr}{ifs ifs':List Expr}{sc:Scope}{pos:Pos}:mR Z (.ListComp elt [⟨t,i,ifs,0⟩,⟨t',i',ifs',0⟩] sc pos) 0 ⟨t,i,ifs,0⟩ (Aw (.ListComp elt [⟨t,i,ifs,0⟩,⟨t',i',ifs',0⟩] sc pos) 1 i'):=⟨fun _ _ _=>rfl,fun _ _ _=>rfl,fun _ _ _ _=>rfl,fun _ _ _ _=>rfl⟩
theorem JW {elt t i t' i':Expr}{ifs ifs':List Expr}{sc:Scope}{pos:Pos}:mR Z (.ListComp elt [⟨t,i,ifs,0⟩,⟨t',i',ifs',0⟩] sc pos) 1 ⟨t',i',ifs',0⟩ (ug elt):=⟨fun _ _ _=>rfl,fun _ _ _=>rfl,fun _ _ _ _=>rfl,fun _ _ _ _=>rfl⟩
section
variable {W:Wd}{f:Fc W}{C C':Cp W f}{v:Value}{pos:Pos}
variable {R:Result→Shared→Prop}{A:Around}{s:Shared}{e:Expr}{d:Nat}{G:jQ}{inner:Value→Env→Sem Fin→Sem Fin}{it acc:Value}{env:Env}
theorem JX (O:mR W.Z e d G inner)(I:Nat→Shared→Prop)
 (turn:∀n s,I n s→wpAny W.Z.m A (fh it) (fun r s₁=>match r with
  |none=>R (.ok .next) s₁
  |some v=>wpAny W.Z.m A (pH G.target it v) (fun _ s₂=>wpAny W.Z.m A (assign G.target env v) (fun _ s₃=>
   wpAny W.Z.m A (kp G.ifs env) (fun ok s₄=>Br ok (wpAny W.Z.m A (inner acc env (again (.compLoop e d it acc env))) (fun r s₅=>r= .again (.compLoop e d it acc env)∧∃m,m<n∧I m s₅) (fun _ _=>False) s₄) (∃m,m<n∧I m s₄)) (fun _ _=>False) s₃) (fun _ _=>False) s₂) (fun _ _=>False) s₁) (fun _ _=>False) s)
 (n:Nat) (h:I n s):fg W.Z.m A (.compLoop e d it acc env) R s:=by
 refine codeAny_loop rfl I (fun n s hI=>?_) n h
 rw[O.t,O.u]
 refine wpAny_noted ?_
 refine ag (jl (ag (cZ (turn n s hI) (fun r s₁ h₁=>?_) fun _ _ x=>x.elim)))
 cases r with
 |none=>exact ak h₁
 |some v=>
  refine ag (cZ h₁ (fun _ s₂ h₂=>ag (cZ h₂ (fun _ s₃ h₃=>ag (cZ h₃ (fun ok s₄ h₄=>?_) fun _ _ x=>x.elim)) fun _ _ x=>x.elim)) fun _ _ x=>x.elim)
  cases ok with
  |false=>exact ak ⟨rfl,h₄⟩
  |true=>exact cZ (h₄:wpAny _ _ _ _ _ _) (fun r s₅ h₅=>by rw[h₅.1];exact⟨rfl,h₅.2⟩) fun _ _ x=>x.elim
theorem JY (O:mR W.Z e d G inner)(h0:fg W.Z.m A (.compLoop e d it acc env) R s)(h:wpAny W.Z.m A (pyIter it) (fun it' s'=>fg W.Z.m A (.compLoop e d it' acc env) R s') (fun _ _=>False) s):
 fg W.Z.m A (.compStart e d it acc env) R s:=by
 refine codeAny_of_tree ?_
 rw[O.s,O.v]
 refine wpAny_notedAt ?_
 refine ag (td (wpAny_ite ?_))
 split
 ·first
   |exact ag (ak (ak (And.intro rfl h0)))
   |exact ak (And.intro rfl h0)
 ·exact ag (iH (ag (jl (ag (cZ h (fun it' s' h'=>ak (And.intro rfl h')) fun _ _ x=>x.elim)))))
end
section
variable {W:Wd}{f:Fc W}{C C':Cp W f}{v:Value}{m:Nat}{D I:Addr}{xs:List aa}
def d0 (f:Fc W)(C:Cp W f)(D:Addr)(xs:List aa):Prop:=bj W.Z C.g.γ C.s.heap (.acc f.F.r) (.lst xs) (.ref D)
def mS (f:Fc W)(m:Nat)(g:Gh)(s:Shared)(C':Cp W f):Prop:=Le f.F.d f.F.r f.F.r m g s C'.g C'.s
theorem d0.le {a:Nat}(h:d0 f C D xs)(l:Le f.F.d a (f.F.r+1) m C.g C.s C'.g C'.s):d0 f C' D xs:=
 bj.mono l.ro (fun x o e=>have q:=l.role x (.acc f.F.r) e.1 (dm f.F.r);⟨q.1,q.2.trans e.2⟩) (.lst xs) h
theorem cK.g (l:cK f m C C'):mS f m C.g C.s C':=⟨l.rest,fun x ρ e k=>l.role x ρ e (tG (aT _) (aT _) (dI _) ρ k),l.val⟩
theorem d0.but (h:d0 f C D xs)(hI:C.g.γ I= .hold)(hγ:∀y,y≠I→C'.g.γ y=C.g.γ y)(hb:lB I C.s C'.s):d0 f C' D xs:=
 have ne:∀x ρ,C.g.γ x=ρ→ρ≠ .hold→x≠I:=fun x ρ e n z=>n (e.symm.trans (z▸hI))
 bj.mono (γ:=C.g.γ) (h:=C.s.heap) (ρ:=.acc f.F.r) ⟨fun x o e=>(hγ x (ne x _ e nofun)).trans e,fun k x o e=>(hγ x (ne x _ e nofun)).trans e⟩ (fun x o e=>have n:=ne x _ e.1 nofun;⟨(hγ x n).trans e.1,hb.1 x o n e.2⟩) (.lst xs) h
theorem d0.but' {I:Addr}(h:d0 f C D xs)(hI:C.s.heap.get? I=none)(hγ:∀y,y≠I→C'.g.γ y=C.g.γ y)(hb:∀b o,C.s.heap.get? b=some o→C'.s.heap.get? b=some o):d0 f C' D xs:=
 have ne:∀x ρ,C.g.γ x=ρ→ρ≠ .free→x≠I:=fun x ρ e n z=>n (e.symm.trans (z▸C.free hI))
 bj.mono (γ:=C.g.γ) (h:=C.s.heap) (ρ:=.acc f.F.r) ⟨fun x o e=>(hγ x (ne x _ e nofun)).trans e,fun k x o e=>(hγ x (ne x _ e nofun)).trans e⟩ (fun x o e=>⟨(hγ x (ne x _ e.1 nofun)).trans e.1,hb x o e.2⟩) (.lst xs) h
theorem JZ {d:aa}{Q:Value→Shared→Prop}(h:d0 f C D xs)(r:Rd C.g.γ d v)(hl:xs.length<aH)(k:∀C':Cp W f,C'.l=C.l→C'.o=C.o→mS f m C.g C.s C'→d0 f C' D (xs++[d])→Q .none C'.s):f.wp (call (.builtin "list.append") [.ref D,v]) Q C.s:=
 z0 h r hl fun a s' ea hr hb hg z=>by
  have nr:¬d7 f.F.r (C.g.γ a):=fun q=>(hr▸q:d7 f.F.r (.acc _))
  have nk:¬gn f.F.d f.F.r f.F.r (C.g.γ a):=fun q=>gA _ (hr▸q:gn _ _ f.F.r (.acc _))
  have hk:∀b ob,b≠a→C.s.heap.get? b=some ob→s'.heap.get? b=some ob:=fun b ob n e=>(hb b n).trans e
  have L:Le f.F.d f.F.r f.F.r m C.g C.s C.g s':=Le.upd1 (γ':=C.g.γ) .refl C.sr nk (fun _ _=>rfl) hk hg
  exact k ⟨C.g,C.l,C.o,s',C.sr.upd1 (γ':=C.g.γ) nr (fun _ _=>rfl) hk (hr▸qC (ea▸z))⟩ rfl rfl L z
def Fc.OkG (f:Fc W)(m:Nat)(e:Expr)(d:Nat)(w:List aa→List aa→EP (List aa)):Prop:=∀(C:Cp W f) D I items acc k (R:Result→Shared→Prop) g₀ s₀,w items acc f.r C.l C.o k→Hd f f.F.r f.F.r m g₀ s₀ I items C→d0 f C D acc→
 (∀acc' C',mS f m g₀ s₀ C'→d0 f C' D acc'→k acc' C'.l C'.o→R (.ok .next) C'.s)→fg W.Z.m f.F.A (.compStart e d (.ref I) (.ref D) f.F.env) R C.s
def Fc.OkI (f:Fc W)(m:Nat)(B:List aa→EP (List aa))(inner:Value→Env→Sem Fin→Sem Fin):Prop:=∀(C:Cp W f) D acc k (z:Sem Fin) (Q:Fin→Shared→Prop),B acc f.r C.l C.o k→d0 f C D acc→
 (∀acc' (C':Cp W f),mS f m C.g C.s C'→d0 f C' D acc'→k acc' C'.l C'.o→f.wp z Q C'.s)→f.wp (inner (.ref D) f.F.env z) Q C.s
noncomputable def oJ (as:TP)(c:EP Bool)(B:List aa→EP (List aa))(acc:List aa)(x:aa):EP (List aa):=fun r l o k=>as x r l o fun _ l o=>c r l o fun c l o=>Br c (B acc r l o k) (k acc l o)
inductive GI (f:Fc W)(m:Nat)(g₀:Gh)(s₀:Shared)(D I:Addr)(F:List aa→aa→EP (List aa))(k:List aa→L→O→Prop):Nat→Shared→Prop
 |mk (ys acc:List aa) (C':Cp W f) (H:Hd f f.F.r f.F.r m g₀ s₀ I ys C') (a:d0 f C' D acc) (h:cQ F f.r k acc ys C'.l C'.o):GI f m g₀ s₀ D I F k ys.length C'.s
variable {as:TP}{c:EP Bool}{B:List aa→EP (List aa)}{inner:Value→Env→Sem Fin→Sem Fin}{T i:Expr}{ifs:List Expr}{e:Expr}{d:Nat}{g₀:Gh}{s₀:Shared}{k:List aa→L→O→Prop}
theorem J0 {z:Sem Fin}{Qd:Shared→Prop}(hm:m≤f.F.c.nl)(hT:f.OkAs m as T)(hc:f.Ok c (kp ifs f.F.env) (RB f))(hI:f.OkI m B inner){y:aa}{ys acc:List aa}(H:Hd f f.F.r f.F.r m g₀ s₀ I (y::ys) C)(a:d0 f C D acc)(h:cQ (oJ as c B) f.r k acc (y::ys) C.l C.o)
 {Q1:Fin→Shared→Prop} {Q2:Shared→Prop} (h2:∀s,GI f m g₀ s₀ D I (oJ as c B) k ys.length s→Q2 s) (h1:∀s,GI f m g₀ s₀ D I (oJ as c B) k ys.length s→f.wp z Q1 s):
 wpAny W.Z.m f.F.A (fh (.ref I)) (fun r s₁=>match r with
  |none=>Qd s₁
  |some v=>wpAny W.Z.m f.F.A (pH T (.ref I) v) (fun _ s₂=>wpAny W.Z.m f.F.A (assign T f.F.env v) (fun _ s₃=>
   wpAny W.Z.m f.F.A (kp ifs f.F.env) (fun ok s₄=>Br ok (wpAny W.Z.m f.F.A (inner (.ref D) f.F.env z) Q1 (fun _ _=>False) s₄) (Q2 s₄)) (fun _ _=>False) s₃) (fun _ _=>False) s₂) (fun _ _=>False) s₁) (fun _ _=>False) C.s:=
 H.next f.ok.hd fun v C1 e1 e2 eg hb r1 H1=>H1.it.obj.elim fun T z=>z.elim fun ob z=>Au z.1 z.2.1 z.2.2 (hT C1 y v _ _ r1 (e1▸e2▸h) fun C2 l2 hk=>hc C2 _ _ hk fun b v C3 l3 r3 hk=>
  have l3:=l2.trans (l3.s hm)
  have a3:=(a.but (C':=C1) H.r (fun _ _=>congrFun (congrArg Gh.γ eg) _) hb).le l3
  Br.elim hk (fun e hk=>Eq.mpr (if_pos (Eq.trans r3 e)) (hI C3 D acc _ _ _ hk a3 fun acc' C4 l4 a4 hk=>h1 _ (.mk ys acc' C4 ((H1.le' l3.g).le' l4) a4 hk)))
   fun e hk=>Eq.mpr (if_neg (gz.mp (Eq.trans r3 e))) (h2 _ (.mk ys acc C3 (H1.le' l3.g) a3 hk)))
theorem uh (O:mR W.Z e d ⟨T,i,ifs,0⟩ inner)(hm:m≤f.F.c.nl)(hT:f.OkAs m as T)(hc:f.Ok c (kp ifs f.F.env) (RB f))(hI:f.OkI m B inner):f.OkG m e d fun items acc r l o k=>cQ (oJ as c B) r k acc items l o:=fun C D I items acc k R g₀ s₀ h H a hR=>
 have lp:fg W.Z.m f.F.A (.compLoop e d (.ref I) (.ref D) f.F.env) R C.s:=JX O (GI f m g₀ s₀ D I (oJ as c B) k) (fun n s z=>by
  cases z with
  |mk ys acc C1 H a h=>
   cases ys with
   |nil=>exact H.done f.ok.hd fun C2 e1 e2 eg hb l2=>hR acc C2 l2 (a.but H.r (fun y n=>by rw[eg];exact cV n) hb) (e1▸e2▸h)
   |cons y ys=>exact J0 hm hT hc hI H a h (fun s z=>⟨ys.length,dm _,z⟩) fun s z=>ak ⟨rfl,ys.length,dm _,z⟩) items.length (.mk items acc C H a h)
 JY O lp (H.it.self f.ok.hd lp)
end
section
variable {W:Wd}{f:Fc W}{C C':Cp W f}{m:Nat}{e elt i:Expr}{d:Nat}
theorem ui:f.Ok tT (kp [] f.F.env) (RB f):=fun C k Q hk hQ=>ak (hQ true true C .refl rfl hk)
theorem J1 {t:Expr}{w:EP Bool}(h:f.OkT w t):f.Ok w (kp [t] f.F.env) (RB f):=fun C k Q hk hQ=>
 ag (ag (h C k _ hk fun b v C1 l r hk=>ak (ak (hQ b v C1 l r hk))))
theorem Ax {w:EP PV}(hm:m≤f.F.c.nl)(he:f.OkE w elt):f.OkI m (fun acc r l o k=>eD w r l o fun v l o=>acc.length<aH∧k (acc++[v]) l o) (ug elt):=fun C D acc k z Q hk a hz=>
 ag (ag (c7 he C _ _ hk fun x u C1 l1 r1 hk=>ag (JZ (m:=m) (a.le l1) r1 hk.1 fun C2 e1 e2 l2 a2=>ak (hz _ C2 (Le.trans (l1.s hm).g l2) a2 (e1▸e2▸hk.2)))))
theorem J2 {w:EP PV}{g:List aa→List aa→EP (List aa)}(hm:m≤f.F.c.nl)(h9:bc i≠9)(hi:f.OkE w i)(hg:f.OkG m e d g):f.OkI m (fun acc r l o k=>w r l o fun p l o=>am (gh p) fun xs=>g xs acc r l o k) (Aw e d i):=fun C D acc k z Q hk a hz=>
 ag (hi C _ _ hk fun p v C1 l1 r1 hk=>am.elim hk fun xs e hk=>ag (jl (ag (wpAny_of_eq (tY h9 _ _) (ag (dR (oD r1 e fun o fr it=>
  Hd.new (a:=f.F.r) (b:=f.F.r) (m:=m) (s':={C1.s with heap:=C1.s.heap.push o}) (gw (aT _)) it (fun _ _ e=>bH _ e) ⟨rfl,rfl⟩ fun C2 a2 b2 e2 eg H2=>by
   have A2:d0 f C2 D acc:=(a.le l1).but' (C':=C2) (gw (aT _)) (fun y n=>by rw[eg];exact cV n) (fun b o q=>e2▸bH _ q)
   refine ag (wpAny_runOwn (codeAny_mono (R:=fun r s=>match r with| .ok _=>f.wp z Q s| .error _=>False) (by rw[Around.mark_none];exact e2▸hg C2 D _ xs acc k _ _ _ (a2▸b2▸hk) H2 A2 fun acc' C3 l3 a3 hk=>hz acc' C3 (Le.trans (l1.s hm).g l3) a3 hk) fun r s h=>?_))
   cases r with
   |ok q=>exact h
   |error q=>exact h.elim)))))))
end
noncomputable def mT (env:Env)(x:Str)(k:gf):gf:=if (k==lh&&env.scope.kind== .function&&env.kindOf x==some .cell)=true then .cell else k
theorem Ay {env:Env}{x:Str}{k:gf}:∀{l:List (Str×gf)},l.lookup x=some k→(l.map fun(n,k)=>if (k==lh&&env.scope.kind== .function&&env.kindOf n==some .cell)=true then (n,pM) else (n,k)).lookup x=some (mT env x k)
 |[]=>fun h=>nomatch h
 |(a,b)::l=>fun h=>by
  have e:(if (b==lh&&env.scope.kind== .function&&env.kindOf a==some .cell)=true then (a,pM) else (a,b))=(a,mT env a b):=by unfold mT;split<;>rfl
  refine(congrArg (fun p:Str×gf=>(p:: _).lookup x) e).trans ?_
  rw[ji]
  rw[ji] at h
  cases hx:x==a with
  |true=>rw[hx] at h;rw[aN hx,a8 h]
  |false=>rw[hx] at h;exact Ay h
theorem gp {α:Type}{l:List (Str×α)}{x:Str}{a:α}(h:l.lookup x=some a):(x,a)∈l:=by
 obtain⟨l₁,l₂,e,_⟩:=List.lookup_eq_some_iff.mp h
 exact e▸cH _ (.head _)
theorem uj {env:Env}:∀(l:List (Str×gf)) (cs:List (Str×Addr)),(∀p∈l,p.2= .free→∃a,env.cells.lookup p.1=some a)→(∀x a,cs.lookup x=some a→env.cells.lookup x=some a)→
 ∃cl,(forIn l cs fun(x:Str×gf) (r:List (Str×Addr))=>match x with
  |(name,kind)=>if (kind==lh)=true then do let a ←cellOf env name;pure (pI ((name,a)::r)) else pure (pI r):Sem (List (Str×Addr)))=pure cl∧(∀x a,cl.lookup x=some a→env.cells.lookup x=some a)∧∀x,(x,lh)∈l∨(∃a,cs.lookup x=some a)→∃a,cl.lookup x=some a
 |[],cs,_,h=>⟨cs,rfl,h,fun x z=>z.elim nofun id⟩
 |(n,k)::l,cs,hl,h=>by
  rw[List.forIn_cons]
  dsimp only
  have hl':=fun p hp=>hl p (.tail _ hp)
  cases hk:k==lh with
  |false=>
   obtain⟨cl,e,h1,h2⟩:=uj l cs hl' h
   exact⟨cl,e,h1,fun x z=>h2 x (z.imp (fun m=>(bC.mp m).elim (fun e=>nomatch hk.symm.trans (beq_iff_eq.mpr (mq e).2.symm)) id) id)⟩
  |true=>
   obtain⟨a,ha⟩:=hl _ (.head _) (aN hk)
   have ha:env.cells.lookup n=some a:=ha
   obtain⟨cl,e,h1,h2⟩:=uj l ((n,a)::cs) hl' fun x b hx=>by
    rw[ji] at hx
    cases hb:x==n with
    |true=>rw[hb] at hx;rw[aN hb,ha];exact hx
    |false=>rw[hb] at hx;exact h x b hx
   have hn:∀x,x=n∨(∃b,cs.lookup x=some b)→∃b,((n,a)::cs).lookup x=some b:=fun x z=>by
    rw[ji]
    cases hb:x==n with
    |true=>exact⟨a,rfl⟩
    |false=>exact z.elim (fun z=>nomatch hb.symm.trans (beq_iff_eq.mpr z)) id
   refine⟨cl,?_,h1,fun x z=>h2 x (z.elim (fun m=>(bC.mp m).elim (fun e=>.inr (hn x (.inl (mq e).1))) .inl) fun z=>.inr (hn x (.inr z)))⟩
   unfold cellOf
   rw[ha]
   exact e
theorem J3 {sc:Scope}{env:Env}(h:∀p∈sc.names,p.2= .free→∃a,env.cells.lookup p.1=some a):∃cl,closureFor sc env=pure cl∧(∀x a,cl.lookup x=some a→env.cells.lookup x=some a)∧∀x,(x,lh)∈sc.names→∃a,cl.lookup x=some a:=by
 obtain⟨cl,e,h1,h2⟩:=uj sc.names [] h nofun
 exact⟨cl,by unfold closureFor;exact congrArg (·>>= _) e,h1,fun x m=>h2 x (.inl m)⟩
noncomputable def J4 (c:Cx)(sc:Scope)(nts:Nat)(p:Str×Nat):Bool:=
 (gE c.nl p.2&&(Nat.blt p.2 (c.nl+nts)&&(sc.names.lookup p.1==some .local&&(!(p.1==("__debug__":Str))&& !(p.1==("__classdict__":Str))))))||(c.ix.lookup p.1==some p.2&&(c.names.lookup p.1==some .cell&&sc.names.lookup p.1==some .free))
noncomputable def J5 (c:Cx)(sc:Scope)(p:Str×gf):Bool:=p.2 != .cell&&((p.2 != .local||sc.names.lookup p.1==some .local)&&(p.2 != .free||(c.names.lookup p.1==some .cell&&(c.ix.lookup p.1).isSome)))
noncomputable def uk (c:Cx)(sc:Scope)(ix:List (Str×Nat))(nts:Nat):Bool:=
 sc.kind== .function&&(sc.names.all (J5 c sc)&&(ix.all (J4 c sc nts)&&ix.all fun p=>ix.all fun q=>p.2 !=q.2||p.1==q.1))
inductive J6 (c:Cx)(sc:Scope)(nts:Nat)(x:Str)(i:Nat):Prop
 |loc (h1:c.nl≤i) (h2:i<c.nl+nts) (h3:sc.names.lookup x=some .local) (h4:(x==("__debug__":Str))=false) (h5:(x==("__classdict__":Str))=false)
 |free (h1:c.ix.lookup x=some i) (h2:c.names.lookup x=some .cell) (h3:sc.names.lookup x=some .free)
structure jw (c:Cx)(sc:Scope)(ix:List (Str×Nat))(nts:Nat):Prop where
 kind:sc.kind= .function
 cell:∀p∈sc.names,p.2≠ .cell
 loc:∀p∈sc.names,p.2= .local→sc.names.lookup p.1=some .local
 free:∀p∈sc.names,p.2= .free→c.names.lookup p.1=some .cell∧∃i,c.ix.lookup p.1=some i
 ixI:∀x i,ix.lookup x=some i→J6 c sc nts x i
 inj:∀x y i,ix.lookup x=some i→ix.lookup y=some i→x=y
theorem qJ {α:Type}[BEq α][LawfulBEq α]{a b:α}{r:Bool}(h:(a !=b||r)=true)(e:a=b):r=true:=by
 subst e;rw[bne_self_eq_false] at h;exact h
theorem iX {c:Cx}{sc:Scope}{ix:List (Str×Nat)}{nts:Nat}(h:uk c sc ix nts=true):jw c sc ix nts:=
 have p:=aP.mp h
 have q:=aP.mp p.2
 have r:=aP.mp q.2
 have S:=fun p hp=>aP.mp (dn.mp q.1 p hp)
 have T:=fun p hp=>aP.mp (S p hp).2
 {kind:=aN p.1
  cell:=fun p hp=>bne_iff_ne.mp (S p hp).1
  loc:=fun p hp e=>aN (qJ (T p hp).1 e)
  free:=fun p hp e=>have z:=aP.mp (qJ (T p hp).2 e);⟨aN z.1,Option.isSome_iff_exists.mp z.2⟩
  ixI:=fun x i e=>(sU.mp (dn.mp r.1 (x,i) (gp e))).elim
   (fun z=>have a:=aP.mp z;have b:=aP.mp a.2;have c:=aP.mp b.2;have d:=aP.mp c.2; .loc (jc a.1) (jc b.1) (aN c.1) ((ia _).mp d.1) ((ia _).mp d.2))
   fun z=>have a:=aP.mp z;have b:=aP.mp a.2; .free (aN a.1) (aN b.1) (aN b.2)
  inj:=fun x y i e e'=>aN (qJ (dn.mp (dn.mp r.2 _ (gp e)) _ (gp e')) rfl)}
noncomputable def mU (F:Fr)(sc:Scope)(ix:List (Str×Nat))(nts:Nat)(cl:List (Str×Addr))(N:Addr):Fr:={A:=F.A,env:=compEnvC sc cl N F.env,c:=⟨sc.names,ix,F.c.nl+nts⟩,d:=F.d,r:=F.r+1}
structure lG (env:Env)(sc:Scope)(cl:List (Str×Addr)):Prop where
 sub:∀x a,cl.lookup x=some a→env.cells.lookup x=some a
 has:∀x,(x,lh)∈sc.names→∃a,cl.lookup x=some a
section
variable {F:Fr}{sc:Scope}{ix:List (Str×Nat)}{nts:Nat}{cl:List (Str×Addr)}{N:Addr}{x:Str}{i:Nat}{k:gf}
theorem Az (O:bu F)(h:sc.names.lookup x=some k):(mU F sc ix nts cl N).env.kindOf x=some (mT F.env x k):=Ay h
theorem AA (O:bu F)(h:sc.names.lookup x=some k)(n:k≠ .free):(mU F sc ix nts cl N).env.kindOf x=some k:=
 (Az O h).trans (congrArg some (by unfold mT;rw[show (k==lh)=false from beq_eq_false_iff_ne.mpr n];rfl))
theorem AB (O:bu F)(h:sc.names.lookup x=some .free)(hc:F.c.names.lookup x=some .cell):(mU F sc ix nts cl N).env.kindOf x=some .cell:=
 (Az O h).trans (congrArg some (by unfold mT;rw[O.kind,O.names x .cell nofun hc];rfl))
theorem bu.comp (O:bu F)(K:jw F.c sc ix nts)(Q:lG F.env sc cl):bu (mU F sc ix nts cl N) where
 names:=fun x k hk e=>AA O e hk
 kind:=K.kind
 glob:=O.glob
 bi:=O.bi
 inj:=K.inj
 cinj:=fun x y a hx hy=>O.cinj x y a (Q.sub x a hx) (Q.sub y a hy)
 cls:=fun x i h=>(K.ixI x i h).casesOn (fun _ _ _ h4 h5=>⟨h4,h5⟩) fun h1 _ _=>O.cls x i h1
 hd:=O.hd
 lt:=fun x i h=>(K.ixI x i h).casesOn (fun _ h2 _ _ _=>h2) fun h1 _ _=>fc (O.lt x i h1) (aR _ _)
noncomputable def cut (val:b7→Option Value)(d n:Nat):b7→Option Value
 | .att k x=>val (.att k x)
 | .loc e i=>if e=d∧n≤i then none else val (.loc e i)
variable {Z:Bs}{g g₀:Gh}{l l₀:L}{o o₀:O}{h h₀:Heap}{s s₀:Shared}{d:Nat}
theorem AC {val:b7→Option Value}{n:Nat}(hi:i<n):cut val d n (.loc d i)=val (.loc d i):=if_neg fun z=>gA _ (fc hi z.2)
theorem SR.enter (S:SR Z F g l o h)(O:bu F)(K:jw F.c sc ix nts)(Q:lG F.env sc cl)(hl:l.length=F.c.nl)(hN:h.Ns N fun _=>none)(hr:g.γ N= .stor (F.r+1)):
 SR Z (mU F sc ix nts cl N) {g with val:=cut g.val F.d F.c.nl} (l++lb nts none) o h where
 frz:=S.frz
 ist:=fun k a ob e=>(S.ist k a ob e).elim fun p q=>⟨p,q.elim fun b R=>⟨b,R.e,R.i,R.r,R.m,R.u,R.c⟩⟩
 top:=S.top
 live:=S.live
 nov:=S.nov
 sto:=⟨⟨_,hN,fun x i e hk=>(K.ixI x i e).casesOn (fun h1 _ _ _ _=>(if_pos ⟨rfl,h1⟩).symm) fun _ h2 h3=>nomatch (AB O h3 h2).symm.trans hk⟩,hr,fun x i e hk=>(K.ixI x i e).casesOn (fun _ _ h3 _ _=>(hk (AA O h3 nofun)).elim)
  fun h1 h2 h3=>(S.sto.cell x i h1 fun z=>nomatch (O.names x .cell nofun h2).symm.trans z).elim fun c z=>z.elim fun r z=>
   have le:r<F.r+1:=nX (z.1.elim bg fun z=>eW z.1)
   (Q.has x (gp h3)).elim fun c' hc=>⟨c,r,.inr ⟨le,h3⟩,.inl (AB O h3 h2),a8 ((Q.sub x c' hc).symm.trans z.2.2.1)▸hc,z.2.2.2.1,lC z.2.2.2.2 rfl (AC (O.lt x i h1))⟩⟩
 slot:=fun κ s e=>by
  cases κ with
  |att k x=>exact S.slot (.att k x) s e
  |loc e' j=>
   by_cases z:e'=F.d
   ·subst z
    have e:((l++lb nts none)[j]?).join=some s:=(if_pos rfl).symm.trans e
    rw[List.getElem?_append] at e
    split at e
    ·rename_i hj
     exact(S.slot (.loc F.d j) s ((if_pos rfl).trans e)).elim fun v q=>⟨v,(AC (hl▸hj)).trans q.1,q.2⟩
    ·rw[List.getElem?_replicate] at e;split at e<;>cases e
   ·exact nomatch (if_neg z).symm.trans e
theorem SR.leave (S₀:SR Z F g₀ l₀ o₀ s₀.heap)(O:bu F){F':Fr}(hd:F'.d=F.d)(S:SR Z F' g l o s.heap)(L:Le F.d (F.r+1) (F.r+1) F.c.nl g₀ s₀ g s):SR Z F g (l.take F.c.nl) o s.heap where
 frz:=S.frz
 ist:=S.ist
 top:=S.top
 live:=S.live
 nov:=S.nov
 sto:=
  have K:∀a r,r≤F.r→g₀.γ a= .stor r→g.γ a= .stor r∧s.heap.get? a=s₀.heap.get? a:=fun a r le e=>L.role a _ e (nX le)
  have T:=S₀.sto.keep K
  have V:∀x i,F.c.ix.lookup x=some i→g.val (.loc F.d i)=g₀.val (.loc F.d i):=fun x i e=>L.val (.loc F.d i) (.inr ⟨rfl,O.lt x i e⟩)
  ⟨T.m.elim fun m p=>⟨m,p.1,fun x i e k=>(p.2 x i e k).trans (V x i e).symm⟩,T.mr,fun x i e k=>(T.cell x i e k).elim fun c z=>z.elim fun r z=>⟨c,r,z.1,z.2.1,z.2.2.1,z.2.2.2.1,lC z.2.2.2.2 rfl (V x i e)⟩⟩
 slot:=fun κ s e=>S.slot κ s (by
  cases κ with
  |att k x=>exact e
  |loc e' j=>
   by_cases z:e'=F.d
   ·subst z
    have e:((l.take F.c.nl)[j]?).join=some s:=(if_pos rfl).symm.trans e
    rw[List.getElem?_take] at e
    split at e
    ·exact(if_pos hd.symm).trans e
    ·cases e
   ·exact nomatch (if_neg z).symm.trans e)
end
section
variable {W:Wd}{f:Fc W}{C C₀:Cp W f}{a b m:Nat}{x I D N:Addr}{ρ:b8}{P:Prop}
theorem Cp.label {s':Shared}{g₀:Gh}{s₀:Shared}(C:Cp W f)(L:Le f.F.d a b m g₀ s₀ C.g C.s)(h0:¬gn f.F.d a b (g₀.γ x))(hx:¬d7 f.F.r (C.g.γ x))(hk:∀b o,b≠x→C.s.heap.get? b=some o→s'.heap.get? b=some o)(hr:s'.gens=C.s.gens∧s'.os=C.s.os)(hρ:fq s'.heap x ρ)
 (k:∀C':Cp W f,C'.l=C.l→C'.o=C.o→C'.s=s'→C'.g={C.g with γ:=eZ C.g.γ x ρ}→Le f.F.d a b m g₀ s₀ C'.g C'.s→P):P:=
 k ⟨_,C.l,C.o,s',C.sr.upd1 hx (fun y n=>cV n) hk ((dL (γ:=C.g.γ)).symm▸hρ)⟩ rfl rfl rfl rfl (Le.upd1 L C.sr h0 (fun y n=>cV n) hk hr)
theorem fq.ex {h:Heap}{o:Obj}(e:h.get? x=some o):fq h x .hold∧(∀r,fq h x (.acc r))∧∀r,fq h x (.stor r):=⟨⟨o,e⟩,fun _=>⟨o,e⟩,fun _=>⟨o,e⟩⟩
theorem ul {h:Heap}{M:Str→Option Value}(n:h.Ns N M):∃o,h.get? N=some o:=n.elim fun o q=>q.elim fun es q=>q.elim fun ep q=>⟨o,q.1⟩
noncomputable def Fc.comp (f:Fc W){sc:Scope}{ix:List (Str×Nat)}{nts:Nat}{cl:List (Str×Addr)}(K:jw f.F.c sc ix nts)(Q:lG f.F.env sc cl)(N:Addr):Fc W:=⟨mU f.F sc ix nts cl N,f.r,f.n,f.ok.comp K Q,f.rm,f.rok⟩
variable {sc:Scope}{ix:List (Str×Nat)}{nts:Nat}{cl:List (Str×Addr)}{xs:List aa}{g:List aa→List aa→EP (List aa)}{k:List aa→L→O→Prop}
theorem J7 {acc:List aa}(C:Cp W f){K:jw f.F.c sc ix nts}{Q:lG f.F.env sc cl}{C4:Cp W (f.comp K Q N)}(hN:C.s.heap.get? N=none)(l4:mS (f.comp K Q N) f.F.c.nl C.g C.s C4)(A4:d0 (f.comp K Q N) C4 D acc)
 (fin:∀C':Cp W f,C'.l=C4.l.take f.F.c.nl→C'.o=C4.o→C'.s=C4.s→bb f C C'→jv f C' (.lst acc) (.ref D)→C'.g.γ N= .hold→(∃M,C'.s.heap.Ns N M)→P):P:=by
 have mr:C4.g.γ N= .stor (f.F.r+1):=C4.sr.sto.mr
 have rN4:¬d7 f.F.r (C4.g.γ N):=fun z=>Nat.not_succ_le_self _ (mr▸z:d7 f.F.r (.stor (f.F.r+1)))
 obtain⟨M,hM,_⟩:=C4.sr.sto.m
 refine Cp.label (f:=f) (x:=N) (ρ:=.hold) ⟨_,_,_,C4.s,SR.leave (F':=(f.comp K Q N).F) (s:=C4.s) C.sr f.ok rfl C4.sr l4⟩ (s':=C4.s) (a:=f.F.r+1) (b:=f.F.r+1) (m:=f.F.c.nl) l4 (g0 (C.free hN)) rN4 (fun b o _ q=>q) ⟨rfl,rfl⟩ ((ul hM).elim fun o q=>(fq.ex q).1) fun C5 a5 b5 e5 g5 l5=>?_
 have n5:∀{y},y≠N→C5.g.γ y=C4.g.γ y:=fun n=>by rw[g5];exact cV n
 have ne:∀y σ,C4.g.γ y=σ→σ≠ .stor (f.F.r+1)→y≠N:=fun y σ e n z=>n (e.symm.trans (z▸mr))
 exact fin C5 a5 b5 e5 l5 (bj.mono (γ:=C4.g.γ) (h:=C4.s.heap) (ρ:=.acc (f.F.r+1)) ⟨fun y o e=>(n5 (ne y _ e nofun)).trans e,fun k y o e=>(n5 (ne y _ e nofun)).trans e⟩ (fun y o e=>⟨(n5 (ne y _ e.1 nofun)).trans e.1,e5.symm▸e.2⟩) (.lst acc) A4) (by rw[g5];exact dL) ⟨M,e5.symm▸hM⟩
theorem J8 {e:Expr}{s':Shared}{R:Result→Shared→Prop}(C:Cp W f)(K:jw f.F.c sc ix nts)(Q:lG f.F.env sc cl)(hl:C.l.length=f.F.c.nl)(hI:C.s.heap.get? I=none)(hD:C.s.heap.get? D=none)(hN:C.s.heap.get? N=none)(ID:I≠D)(IN:I≠N)(DN:D≠N)
 (hk:∀b o,C.s.heap.get? b=some o→s'.heap.get? b=some o) (hr:s'.gens=C.s.gens∧s'.os=C.s.os) (it:dc W.Z C.g.γ s'.heap xs I) (hd:s'.heap.get? D=some (gZ [] 0)) (hn:s'.heap.Ns N fun _=>none)
 (hg:(f.comp K Q N).OkG f.F.c.nl e 0 g) (h:g xs [] f.r (C.l++lb nts none) C.o fun acc l o=>k acc (l.take f.F.c.nl) o)
 (fin:∀acc (C':Cp W f),bb f C C'→jv f C' (.lst acc) (.ref D)→k acc C'.l C'.o→C'.g.γ N= .hold→(∃M,C'.s.heap.Ns N M)→R (.ok .next) C'.s):
 fg W.Z.m f.F.A (.compStart e 0 (.ref I) (.ref D) (f.comp K Q N).F.env) R s':=
 it.obj.elim fun T z=>z.elim fun oI z=>(ul hn).elim fun oN eN=>
 C.label (s':=s') (a:=f.F.r+1) (b:=f.F.r+1) (m:=f.F.c.nl) .refl (g0 (C.free hI)) (ju (C.free hI)) (fun b o _=>hk b o) hr (fq.ex z.1).1 fun C1 a1 b1 e1 g1 l1=>
 have n1:∀{y},y≠I→C1.g.γ y=C.g.γ y:=fun n=>by rw[g1];exact cV n
 have fD:C1.g.γ D= .free:=(n1 ID.symm).trans (C.free hD)
 C1.label (s':=s') l1 (g0 (C.free hD)) (ju fD) (fun b o _ q=>e1▸q) (e1▸⟨rfl,rfl⟩) ((fq.ex hd).2.1 (f.F.r+1)) fun C2 a2 b2 e2 g2 l2=>
 have n2:∀{y},y≠D→C2.g.γ y=C1.g.γ y:=fun n=>by rw[g2];exact cV n
 have fN:C2.g.γ N= .free:=(n2 DN.symm).trans ((n1 IN.symm).trans (C.free hN))
 C2.label (s':=s') l2 (g0 (C.free hN)) (ju fN) (fun b o _ q=>e2▸q) (e2▸⟨rfl,rfl⟩) ((fq.ex eN).2.2 (f.F.r+1)) fun C3 a3 b3 e3 g3 l3=>by
  have n3:∀{y},y≠N→C3.g.γ y=C2.g.γ y:=fun n=>by rw[g3];exact cV n
  have rI:C3.g.γ I= .hold:=(n3 IN).trans ((n2 ID).trans (by rw[g1];exact dL))
  have rD:C3.g.γ D= .acc (f.F.r+1):=(n3 DN).trans (by rw[g2];exact dL)
  have rN:C3.g.γ N= .stor (f.F.r+1):=by rw[g3];exact dL
  have S:=C3.sr.enter f.ok K Q (by rw[a3,a2,a1];exact hl) (by rw[e3];exact hn) rN
  have L:mS (f.comp K Q N) f.F.c.nl C.g C.s ⟨_,_,_,C3.s,S⟩:=⟨l3.rest,l3.role,fun κ q=>(l3.val κ q).trans (.of (by
   cases κ with
   |att _ _=>rfl
   |loc e' i=>exact if_neg fun z=>q.elim (fun q=>gA _ (z.1▸q)) fun q=>gA _ (fc q.2 z.2)) κ)⟩
  have H:Hd (f.comp K Q N) (f.F.r+1) (f.F.r+1) f.F.c.nl C.g C.s I xs ⟨_,_,_,C3.s,S⟩:=⟨L,rI,it.mono (h':=C3.s.heap) (γ':=C3.g.γ) (fun b o q=>hk b o (C.sr.frz b o q)) C3.sr.frz l3.ro.f (by rw[e3]),C.free hI⟩
  have A:d0 (f.comp K Q N) ⟨_,_,_,C3.s,S⟩ D []:=⟨D,_,rfl,⟨rD,e3.symm▸hd⟩,[],0,rfl,bz _,rfl⟩
  have t:=hg ⟨_,_,_,C3.s,S⟩ D I xs [] (fun acc l o=>k acc (l.take f.F.c.nl) o) R C.g C.s (by show g xs [] f.r (C3.l++lb nts none) C3.o _;rw[a3,a2,a1,b3,b2,b1];exact h) H A fun acc C4 l4 A4 hk4=>J7 C hN l4 A4 fun C5 a5 b5 e5 l5 r5 r6 r7=>e5▸fin acc C5 l5 r5 (a5▸b5▸hk4) r6 r7
  exact e3▸t
end
section
variable {W:Wd}{f:Fc W}{C C₀:Cp W f}{a b m:Nat}{D N:Addr}{v:Value}{pos:Pos}
variable {sc:Scope}{ix:List (Str×Nat)}{nts:Nat}{g:List aa→List aa→EP (List aa)}{k:List aa→L→O→Prop}
theorem Cp.letgo {g₀:Gh}{s₀:Shared}{h':Heap}{P:Prop}(C:Cp W f)(L:Le f.F.d a b m g₀ s₀ C.g C.s)(h0:g₀.γ N= .free)(hN:C.g.γ N= .hold)(sb:gv N C.s.heap h')
 (k:∀C':Cp W f,C'.l=C.l→C'.o=C.o→C'.s={C.s with heap:=h'}→Le f.F.d a b m g₀ s₀ C'.g C'.s→(∀ρ,ρ≠ .hold→∀s v,bj W.Z C.g.γ C.s.heap ρ s v→bj W.Z C'.g.γ C'.s.heap ρ s v)→P):P:=
 have ne:∀y σ,C.g.γ y=σ→σ≠ .hold→y≠N:=fun y σ e n z=>n (e.symm.trans (z▸hN))
 C.label (ρ:=.free) (s':={C.s with heap:=h'}) L (g0 h0) (fun z=>(hN▸z:d7 f.F.r .hold)) (fun b o n q=>(sb.2 b n).trans q) ⟨rfl,rfl⟩ trivial fun C1 a1 b1 e1 g1 l1=>
  have n1:∀{y},y≠N→C1.g.γ y=C.g.γ y:=fun n=>by rw[g1];exact cV n
  k C1 a1 b1 e1 l1 fun ρ n s v=>bj.mono ⟨fun y o e=>(n1 (ne y _ e nofun)).trans e,fun k y o e=>(n1 (ne y _ e nofun)).trans e⟩ (fun y o e=>⟨(n1 (ne y _ e.1 n)).trans e.1,by rw[e1];exact(sb.2 y (ne y _ e.1 n)).trans e.2⟩) s
theorem J9 (C:Cp W f)(K:jw f.F.c sc ix nts)(p:Str×gf)(hp:p∈sc.names)(e:p.2= .free):∃a,f.F.env.cells.lookup p.1=some a:=
 have q:=K.free p hp e
 q.2.elim fun i hi=>(C.sr.sto.cell p.1 i hi fun z=>nomatch (f.ok.names p.1 .cell nofun q.1).symm.trans z).elim fun c z=>z.elim fun r z=>⟨c,z.2.2.1⟩
theorem AD {e:Expr}{G:jQ}{gs:List jQ}{fp:Pos}{w:EP PV}{use:Option (Value→Sem Unit)}{Q:Value→Shared→Prop}(C:Cp W f)(he:clausesOf e=G::gs)(h9:bc G.iter≠9)(K:jw f.F.c sc ix nts)(hw:f.OkE w G.iter)
 (hg:∀(cl:List (Str×Addr)) (Q:lG f.F.env sc cl) (N:Addr),(f.comp K Q N).OkG f.F.c.nl e 0 g) (hk:bA f.F.c.nl nts w g f.r C.l C.o k)
 (fin:∀acc D N (C1 C':Cp W f),bb f C C1→C1.g.γ N= .free→bb f C1 C'→jv f C' (.lst acc) (.ref D)→k acc C'.l C'.o→C'.g.γ N= .hold→(∃M,C'.s.heap.Ns N M)→compPost W.Z.m f.F.A Nx use Q (.ref D) N (.ok .next) C'.s):
 f.wp (comprehension e sc f.F.env fp (newList []) false (eval G.iter f.F.env) use) Q C.s:=
 (J3 (J9 C K)).elim fun cl q=>wpAny_comprehension_free he (tY h9 _) q.1 K.kind K.loc (hw C _ _ hk fun p v C1 l1 r1 hk=>am.elim hk fun xs e1 hk=>oD r1 e1 fun oI fr it=>kY (wpAny_newFunctionEnv K.cell (fun _ h=>(aJ h).elim) (fun h₁ hns hsb=>by
  have zD:(C1.s.heap.push oI).objs.size=C1.s.heap.objs.size+1:=pK ..
  have zN:((C1.s.heap.push oI).push (gZ [] 0)).objs.size=C1.s.heap.objs.size+1+1:=(pK ..).trans (congrArg (·+1) zD)
  have ns:∀y,C1.s.heap.objs.size≤y→C1.s.heap.get? y=none:=fun y h=>gw h
  have lt:∀{y o},(C1.s.heap.push oI).get? y=some o→y≠((C1.s.heap.push oI).push (gZ [] 0)).objs.size:=fun q=>dT (by rw[zN];exact sZ (zD▸fI q))
  have hk2:∀y o,(C1.s.heap.push oI).get? y=some o→h₁.get? y=some o:=fun y o q=>hsb.extBut y o (lt q) (bH _ (bH _ q))
  have fz:b9 C1.g.γ (C1.s.heap.push oI):=fun y o q=>bH _ (C1.sr.frz y o q)
  have gI:(C1.s.heap.push oI).get? C1.s.heap.objs.size=some oI:=dH _ fr
  have it':dc W.Z C1.g.γ h₁ xs C1.s.heap.objs.size:=it.mono fz (fun y o q=>hk2 y o (fz y o q)) (fun _ _ q=>q) ((hk2 _ _ gI).trans gI.symm)
  have hD:h₁.get? (C1.s.heap.push oI).objs.size=some (gZ [] 0):=hsb.extBut _ _ (by show _≠((C1.s.heap.push oI).push (gZ [] 0)).objs.size;rw[zD,zN];exact dT (dm _)) (bH _ (dH _ rfl))
  refine codeAny_mono (J8 (s':={C1.s with heap:=h₁,toks:=C1.s.toks+([]:List (Str×Value)).length}) (R:=compPost W.Z.m f.F.A Nx use Q _ _) (D:=(C1.s.heap.push oI).objs.size) (N:=((C1.s.heap.push oI).push (gZ [] 0)).objs.size) C1 K ⟨q.2.1,q.2.2⟩ hk.1 (ns _ (aT _)) (ns _ (by rw[zD];exact dI _)) (ns ((C1.s.heap.push oI).push (gZ [] 0)).objs.size (by rw[zN];exact nY (dI _)))
   (by rw[zD];exact dT (dm _)) (by rw[zN];exact dT (sZ (dm _))) (by rw[zD,zN];exact dT (dm _)) (fun y o q=>hk2 y o (bH _ q)) ⟨rfl,rfl⟩ it' hD hns (hg cl ⟨q.2.1,q.2.2⟩ _) hk.2
   fun acc C5 l5 r5 hk5 g5 m5=>fin acc _ _ C1 C5 l1 (C1.free (ns _ (by rw[zN];exact nY (dI _)))) l5 r5 hk5 g5 m5) fun _ _ z=>z) K.kind))
end
section
variable {W:Wd}{f:Fc W}{C:Cp W f}{v:Value}{pos:Pos}
variable {sc:Scope}{ix:List (Str×Nat)}{nts:Nat}{g:List aa→List aa→EP (List aa)}{w:EP PV}{elt T i:Expr}{ifs:List Expr}{gs:List jQ}{p:Pos}
structure mV (f:Fc W)(e:Expr)(i:Expr)(sc:Scope)(nts:Nat)(w:EP PV)(g:List aa→List aa→EP (List aa)):Prop where
 h9:bc i≠9
 hw:f.OkE w i
 hg:∃ix,∃K:jw f.F.c sc ix nts,∀(cl:List (Str×Addr)) (Q:lG f.F.env sc cl) (N:Addr),(f.comp K Q N).OkG f.F.c.nl e 0 g
theorem um (H:mV f (.ListComp elt (⟨T,i,ifs,0⟩::gs) sc p) i sc nts w g){k:List aa→L→O→Prop}{Q:Value→Shared→Prop}(hk:bA f.F.c.nl nts w g f.r C.l C.o k)
 (hQ:∀acc D (C':Cp W f),bb f C C'→jv f C' (.lst acc) (.ref D)→k acc C'.l C'.o→Q (.ref D) C'.s):f.wp (eval (.ListComp elt (⟨T,i,ifs,0⟩::gs) sc p) f.F.env) Q C.s:=
 H.hg.elim fun ix K=>K.elim fun K hg=>by
  unfold Fc.wp
  rw[arm_eval_ListComp]
  exact AD (use:=none) (Q:=Q) C rfl H.h9 K H.hw hg hk fun acc D N C1 C2 l1 fN l2 r2 hk hN hM=>hM.elim fun M hM=>⟨M,hM,fun h' sb=>C2.letgo l2 fN hN sb fun C3 a b e l3 ks=>e▸hQ acc D C3 (l1.trans l3) (ks (.acc (f.F.r+1)) nofun _ _ r2) (a▸b▸hk)⟩
theorem Ka (H:mV f (.ListComp elt (⟨T,i,ifs,0⟩::gs) sc p) i sc nts w g):f.OkF (fR (bA f.F.c.nl nts w g)) (.ListComp elt (⟨T,i,ifs,0⟩::gs) sc p):=fun C k Q hk hQ=>
 um H hk fun acc D C' l r hk=>hQ (.lst acc) (.ref D) C' l r hk
theorem Kb (H:mV f (.ListComp elt (⟨T,i,ifs,0⟩::gs) sc p) i sc nts w g):f.OkE (c5 (bA f.F.c.nl nts w g)) (.ListComp elt (⟨T,i,ifs,0⟩::gs) sc p):=fun C k Q hk hQ=>
 um H hk fun acc D C1 l1 r hk=>At.elim r fun a o e ow q=>by
  have nk:¬gn f.F.d (f.F.r+1) (f.F.r+1) (C1.g.γ a):=fun z=>gA _ (ow.1▸z:gn _ _ (f.F.r+1) (.acc _))
  exact C1.label (ρ:=.frz o) (s':=C1.s) .refl nk (fun z=>(ow.1▸z:d7 f.F.r (.acc _))) (fun _ _ _ e=>e) ⟨rfl,rfl⟩ ow.2 fun C2 a2 b2 e2 g2 l2=>e2▸hQ (.d (.list acc)) (.ref D) C2 (l1.trans l2) ⟨a,o,e,by show C2.g.γ a= _;rw[g2];exact dL,(q.map (RdL.mono l2.ro.f acc)).seq⟩ (a2▸b2▸hk)
theorem Kc (H:mV f (.ListComp elt (⟨T,i,ifs,0⟩::gs) sc p) i sc nts w g){k:List aa→L→O→Prop}{u:Value→Sem Unit}{Q:Shared→Prop}(hk:bA f.F.c.nl nts w g f.r C.l C.o k)
 (hu:∀acc D (C':Cp W f) (Q':Unit→Shared→Prop),jv f C' (.lst acc) (.ref D)→k acc C'.l C'.o→(∀C'':Cp W f,cK f 0 C' C''→(∀C3:Cp W f,C3.l=C''.l→C3.o=C''.o→cK f 0 C C3→Q C3.s)→Q' () C''.s)→f.wp (u (.ref D)) Q' C'.s):
 f.wp (evalThenUse (.ListComp elt (⟨T,i,ifs,0⟩::gs) sc p) f.F.env u) (fun _=>Q) C.s:=
 H.hg.elim fun ix K=>K.elim fun K hg=>ag (cZ (AD (use:=some u) (Q:=fun _=>Q) C rfl H.h9 K H.hw hg hk fun acc D N C1 C2 l1 fN l2 r2 hk hN hM=>hu acc D C2 _ r2 hk fun C3 l3 hq=>
  have q:=l3.role N _ hN trivial
  hM.elim fun M hM=>⟨M,hM.elim fun o z=>z.elim fun es z=>z.elim fun ep z=>⟨o,es,ep,q.2.trans z.1,z.2⟩,fun h' sb=>C3.letgo (Le.trans l2.s0 l3) fN q.1 sb fun C4 a b e l4 _=>e▸hq C4 a b (l1.s0.trans l4)⟩) (fun _ _ h=>ak h) fun _ _ h=>h)
theorem Ke {x:Str}{xp:Pos}{l:Nat}{env:Env}:∃b,swapsWith (.ListComp elt gs sc p) (some (.Name x xp)) l env=pure b:=⟨_,rfl⟩
theorem Kf {x:Str}{xp:Pos}{j:Nat}(hx:f.F.c.bix x=some j)(H:mV f (.ListComp elt (⟨T,i,ifs,0⟩::gs) sc p) i sc nts w g):f.OkX (sA j (fR (bA f.F.c.nl nts w g))) (.Assign [.Name x xp] (.ListComp elt (⟨T,i,ifs,0⟩::gs) sc p) pos):=fun C n t Q hk hn ht=>by
 obtain⟨b,hb⟩:=Ke (elt:=elt) (gs:=⟨T,i,ifs,0⟩::gs) (sc:=sc) (p:=p) (x:=x) (xp:=xp) (l:=pos.line) (env:=f.F.env)
 cases b with
 |false=>exact ub rfl hb rfl (um (k:=fun acc l o=>n (l.set j (some (.lst acc))) o) H hk fun acc D C1 l1 r1 hk=>uc hx r1 fun C2 a b l2=>hn C2 (l1.s0.trans l2) (a▸b▸hk))
 |true=>
  unfold Fc.wp
  rw[arm_exec_Assign,show swapsWithSole [.Name x xp] (.ListComp elt (⟨T,i,ifs,0⟩::gs) sc p) pos.line f.F.env=pure true from hb]
  exact ag (jl (ag (ak (ag (Kc (k:=fun acc l o=>n (l.set j (some (.lst acc))) o) H hk fun acc D C1 Q' r1 hk hq=>uc hx r1 fun C2 a b l2=>hq C2 l2 fun C3 a' b' l3=>ak (hn C3 l3 (by rw[a',b',a,b];exact hk)))))))
end
noncomputable def iY:List Str→Str→Nat
 |[],_=>0
 |p::P,y=>if (y==p)=true then 0 else iY P y+1
theorem uo {p y:Str}{P:List Str}:iY (p::P) y=if (y==p)=true then 0 else iY P y+1:=rfl
theorem uq {y:Str}:∀{P:List Str},y∉P→iY P y=P.length
 |[],_=>rfl
 |p::P,h=>by rw[uo,if_neg fun z=>h ((aN z:y=p)▸ .head _),uq fun m=>h (.tail _ m)];rfl
theorem AG {kd:Str→Option gf}{x:Str}(hk:kd x=some .local):∀(P:List Str) (full:List Value) (m:Str→Option Value),P.Nodup→P.length=full.length→bindL kd (P.zip full) m x=(full[iY P x]?).or (m x)
 |[],[],m=>fun _ _=>rfl
 |[],_:: _,m=>fun _ h=>nomatch h
 | _:: _,[],m=>fun _ h=>nomatch h
 |p::P,v::full,m=>fun hn hl=>(AG hk P full _ (eU.mp hn).2 (mo hl)).trans (by
  rw[uo]
  cases hx:x==p with
  |true=>
   have e:=aN hx
   subst e
   rw[if_pos rfl,uq (eU.mp hn).1,kS (bg (mo hl).symm),if_pos hk]
   exact if_pos rfl
  |false=>
   rw[if_neg cT,List.getElem?_cons_succ]
   congr 1
   split
   ·exact if_neg fun z=>nomatch hx.symm.trans (beq_iff_eq.mpr z)
   ·rfl)
theorem AH {kd:Str→Option gf}{x:Str}(hk:kd x≠some .local):∀(P:List Str) (full:List Value) (m:Str→Option Value),P.Nodup→P.length=full.length→bindC kd (P.zip full) m x=(full[iY P x]?).or (m x)
 |[],[],m=>fun _ _=>rfl
 |[],_:: _,m=>fun _ h=>nomatch h
 | _:: _,[],m=>fun _ h=>nomatch h
 |p::P,v::full,m=>fun hn hl=>(AH hk P full _ (eU.mp hn).2 (mo hl)).trans (by
  rw[uo]
  cases hx:x==p with
  |true=>
   have e:=aN hx
   subst e
   rw[if_pos rfl,uq (eU.mp hn).1,kS (bg (mo hl).symm),if_neg hk]
   exact if_pos rfl
  |false=>
   rw[if_neg cT,List.getElem?_cons_succ]
   congr 1
   split
   ·rfl
   ·exact if_neg fun z=>nomatch hx.symm.trans (beq_iff_eq.mpr z))
theorem qK {x:Str}:∀{names:List (Str×gf)} {n:Nat} {acc:List (Str×Addr)},(x,pM)∈names∨(∃a,acc.lookup x=some a)→∃a,(cellsFrom n names acc).lookup x=some a
 |[],_,_=>fun h=>h.elim nofun id
 |(m,k)::r,n,acc=>fun h=>by
  unfold cellsFrom
  have e:(k==pM)=false→(x,pM)∈(m,k)::r→(x,pM)∈r:=fun hk h=>(bC.mp h).elim (fun z=>nomatch hk.symm.trans (beq_iff_eq.mpr (mq z).2.symm)) id
  have e2:x=m∨(∃a,acc.lookup x=some a)→∃a,((m,n)::acc).lookup x=some a:=fun z=>by
   rw[ji]
   cases hb:x==m with
   |true=>exact⟨n,rfl⟩
   |false=>exact z.elim (fun z=>nomatch hb.symm.trans (beq_iff_eq.mpr z)) id
  split
  ·exact qK (h.elim (fun m=>(bC.mp m).elim (fun z=>.inr (e2 (.inl (mq z).1))) .inl) fun z=>.inr (e2 (.inr z)))
  ·rename_i hk
   exact qK (h.imp (e (gz.mpr hk)) id)
noncomputable def ur (o:Option gf):Bool:=o==some .local||o==some .cell
noncomputable def Kg (sc:Scope)(nl:Nat)(P:List Str)(p:Str×Nat):Bool:=
 (ur (sc.names.lookup p.1)&&Nat.blt p.2 nl)&&((!(p.1==("__debug__":Str))&& !(p.1==("__classdict__":Str)))&&(iY P p.1==p.2||(gE P.length p.2&&iY P p.1==P.length)))
noncomputable def qL (sc:Scope)(ix:List (Str×Nat))(nl:Nat)(P:List Str):Bool:=
 (sc.kind== .function&&(!sc.isCoroutine&& !sc.isGenerator))&&((ix.all (Kg sc nl P)&&ix.all fun p=>ix.all fun q=>p.2 !=q.2||p.1==q.1)&&(P.all (fun x=>ur (sc.names.lookup x))&&decide P.Nodup))
structure oK (sc:Scope)(ix:List (Str×Nat))(nl:Nat)(P:List Str):Prop where
 kind:sc.kind= .function
 co:sc.isCoroutine=false
 gen:sc.isGenerator=false
 lk:∀x i,ix.lookup x=some i→sc.names.lookup x=some .local∨sc.names.lookup x=some .cell
 lt:∀x i,ix.lookup x=some i→i<nl
 good:∀x i,ix.lookup x=some i→(x==("__debug__":Str))=false∧(x==("__classdict__":Str))=false
 at':∀x i {full:List Value},ix.lookup x=some i→P.length=full.length→full[iY P x]? =full[i]?
 inj:∀x y i,ix.lookup x=some i→ix.lookup y=some i→x=y
 par:∀x∈P,sc.names.lookup x=some .local∨sc.names.lookup x=some .cell
 nd:P.Nodup
theorem AI {o:Option gf}(h:ur o=true):o=some .local∨o=some .cell:=(sU.mp h).imp aN aN
theorem Kh {sc:Scope}{ix:List (Str×Nat)}{nl:Nat}{P:List Str}(h:qL sc ix nl P=true):oK sc ix nl P:=
 have p:=aP.mp h
 have q:=aP.mp p.1
 have q2:=aP.mp q.2
 have r:=aP.mp p.2
 have t:=aP.mp r.1
 have u:=aP.mp r.2
 have S:=fun x i (e:ix.lookup x=some i)=>aP.mp (dn.mp t.1 (x,i) (gp e))
 have S1:=fun x i e=>aP.mp (S x i e).1
 have S2:=fun x i e=>aP.mp (S x i e).2
 {kind:=aN q.1
  co:=(ia _).mp q2.1
  gen:=(ia _).mp q2.2
  lk:=fun x i e=>AI (S1 x i e).1
  lt:=fun x i e=>jc (S1 x i e).2
  good:=fun x i e=>have z:=aP.mp (S2 x i e).1;⟨(ia _).mp z.1,(ia _).mp z.2⟩
  at':=fun x i full e hl=>(sU.mp (S2 x i e).2).elim (fun z=>by rw[aN z]) fun z=>have w:=aP.mp z;by
   rw[aN w.2,kS (bg hl.symm),kS (hl▸jc w.1)]
  inj:=fun x y i e e'=>aN (qJ (dn.mp (dn.mp t.2 _ (gp e)) _ (gp e')) rfl)
  par:=fun x hx=>AI (dn.mp u.1 x hx)
  nd:=of_decide_eq_true u.2}
section
open Classical
noncomputable def lH (γ:RM)(r:Nat)(L:Addr)(cs:List (Str×Addr)):RM:=fun b=>if b=L∨(∃n,cs.lookup n=some b) then .stor (r+1) else γ b
theorem uu {γ:RM}{r:Nat}{L b:Addr}{cs:List (Str×Addr)}(h:b=L∨∃n,cs.lookup n=some b):lH γ r L cs b= .stor (r+1):=if_pos h
theorem uv {γ:RM}{r:Nat}{L b:Addr}{cs:List (Str×Addr)}(h:¬(b=L∨∃n,cs.lookup n=some b)):lH γ r L cs b=γ b:=if_neg h
end
noncomputable def uw (val:b7→Option Value)(d:Nat)(full:List Value):b7→Option Value
 | .att k x=>val (.att k x)
 | .loc e i=>if e=d then full[i]? else val (.loc e i)
structure Cd where
 n:Nat
 ds:List aa
 k:Nat
 c:SP
noncomputable def Cd.run (c:Cd)(r:R)(vs:List PV)(o:O)(K:PV→O→Prop):Prop:=
 vs.length=c.n∧c.c r ((vs++c.ds.map PV.d).map (fun p=>some (.pv p))++lb c.k none) o (fun _ o=>K (.d .none) o) K
section
variable {Z:Bs}{F:Fr}{g:Gh}{l:L}{o:O}{s s₁:Shared}{ix:List (Str×Nat)}{nl:Nat}{P:List Str}{sc:Scope}{full:List Value}{env':Env}{A':Around}{as:List PV}{x:Str}{i:Nat}
theorem dh.get {γ:RM}:∀{ps:List PV} {vs:List Value} {i:Nat} {p:PV},dh Z γ ps vs→ps[i]? =some p→∃v,vs[i]? =some v∧bL Z γ p v
 |[],_,_,_=>fun _ h=>nomatch h
 |q::ps,vs,0,p=>fun r h=>r.elim fun v z=>z.elim fun ws z=>⟨v,by rw[z.1];rfl,a8 h▸z.2.1⟩
 |q::ps,vs,i+1,p=>fun r h=>r.elim fun v z=>z.elim fun ws z=>by rw[z.1];exact dh.get (i:=i) z.2.2 h
noncomputable def qM (F:Fr)(A':Around)(env':Env)(ix:List (Str×Nat))(nl:Nat):Fr:={A:=A',env:=env',c:=⟨env'.scope.names,ix,nl⟩,d:=F.d+1,r:=F.r+1}
theorem bu.call (K:oK sc ix nl P)(h1:env'.scope=sc)(h2:env'.globals=dU)(h3:env'.builtins=du)(hap:env'.cells.Pairwise fun x y=>x.2≠y.2)(hh:A'.handled=none):bu (qM F A' env' ix nl) where
 names:=fun x k _ e=>e
 kind:=h1▸K.kind
 glob:=h2
 bi:=h3
 inj:=K.inj
 cinj:=fun x y a hx hy=>name_of_addr hap (gp hx) (gp hy)
 cls:=K.good
 hd:=hh
 lt:=K.lt
theorem SR.call (S:SR Z F g l o s.heap)(K:oK sc ix nl P)(hl:P.length=full.length)(ra:dh Z g.γ as full)(hsc:env'.scope=sc)(hcs:env'.cells=cellsFrom (s.heap.objs.size+1) sc.names [])
 (x:InCallC s env'.locals (bindL env'.kindOf (P.zip full) fun _=>none) env'.cells (bindC env'.kindOf (P.zip full) fun _=>none) s₁) (k:Nat):
 SR Z (qM F A' env' ix nl) {g with γ:=lH g.γ F.r env'.locals env'.cells,val:=uw g.val (F.d+1) full} (as.map (fun p=>some (.pv p))++lb k none) o s₁.heap∧∀y ρ,g.γ y=ρ→ρ≠ .free→lH g.γ F.r env'.locals env'.cells y=ρ∧s₁.heap.get? y=s.heap.get? y:=
 have keep:=x.toInCall.keep
 have fr:∀b,(b=env'.locals∨∃n,env'.cells.lookup n=some b)→g.γ b= .free:=fun b z=>S.vac (gw (z.elim (fun z=>z▸x.toInCall.fresh) fun z=>z.elim fun n z=>ai x.toInCall.fresh (eW (x.above n b (gp z)))))
 have old:∀y ρ,g.γ y=ρ→ρ≠ .free→lH g.γ F.r env'.locals env'.cells y=ρ∧s₁.heap.get? y=s.heap.get? y:=fun y ρ e n=>
  ⟨(uv fun z=>n (e.symm.trans (fr y z))).trans e,(S.live y fun z=>n (e.symm.trans z)).elim fun ob q=>(keep y ob q).trans q.symm⟩
 have back:∀y ρ,lH g.γ F.r env'.locals env'.cells y=ρ→ρ≠ .stor (F.r+1)→g.γ y=ρ:=fun y ρ e n=>(uv fun z=>n (e.symm.trans (uu z))).symm.trans e
 have kl:∀y i,ix.lookup y=some i→env'.kindOf y=some .local∨env'.kindOf y=some .cell:=fun y i e=>by subst hsc;exact K.lk y i e
 have val:∀y i,ix.lookup y=some i→(full[iY P y]?).or none=uw g.val (F.d+1) full (.loc (F.d+1) i):=fun y i e=>Option.or_none.trans ((K.at' y i e hl).trans (if_pos rfl).symm)
 ⟨{frz:=fun y ob e=>(old y _ (back y _ e nofun) nofun).2.trans (S.frz y ob (back y _ e nofun))
   ist:=fun j y ob e=>(S.ist j y ob (back y _ e nofun)).elim fun p q=>⟨(old y _ (back y _ e nofun) nofun).2.trans p,q.elim fun b R=>⟨b,R.e,R.i,(old _ _ R.r nofun).1,R.m.same (old _ _ R.r nofun).2,R.u,R.c⟩⟩
   top:=fun y ob e=>(old y _ (S.top y ob e) nofun).1
   live:=fun y e=>(gC (y=env'.locals∨∃n,env'.cells.lookup n=some y)).elim (fun z=>z.elim (fun z=>z▸ul x.toInCall.ns) fun z=>z.elim fun n z=>(x.cell n y z).elim fun ob q=>⟨ob,q.1⟩)
    fun z=>(S.live y fun q=>e ((uv z).trans q)).elim fun ob q=>⟨ob,keep y ob q⟩
   nov:=S.nov
   sto:=⟨⟨_,x.toInCall.ns,fun y i e hk=>(AG hk P full _ K.nd hl).trans (val y i e)⟩,uu (.inl rfl),fun y i e hk=>
    have kc:env'.kindOf y=some .cell:=(kl y i e).elim (fun z=>(hk z).elim) id
    (qK (n:=s.heap.objs.size+1) (acc:=[]) (.inl (gp (by subst hsc;exact kc:sc.names.lookup y=some .cell)))).elim fun a ha=>have ha:env'.cells.lookup y=some a:=hcs▸ha
     ⟨a,F.r+1,.inl rfl,.inl kc,ha,uu (.inr ⟨y,ha⟩),lC (x.cell y a ha) rfl ((AH hk P full _ K.nd hl).trans (val y i e)).symm⟩⟩
   slot:=fun κ t e=>by
    cases κ with
    |att j y=>exact(S.slot (.att j y) t e).elim fun v q=>⟨v,q.1,q.2.mono ⟨fun y o e=>(old y _ e nofun).1,fun j y o e=>(old y _ e nofun).1⟩ fun y o e=>have z:=old y (.own (.att j _)) e.1 nofun;⟨z.1,z.2.trans e.2⟩⟩
    |loc e' i=>
     by_cases z:e'=F.d+1
     ·subst z
      have e:((as.map (fun p=>some (Slot.pv p))++lb k none)[i]?).join=some t:=(if_pos rfl).symm.trans e
      rw[List.getElem?_append] at e
      split at e
      ·rw[f9] at e
       cases hp:as[i]? with
       |none=>rw[hp] at e;cases e
       |some p=>rw[hp] at e;cases e;exact(ra.get hp).elim fun v q=>⟨v,(if_pos rfl).trans q.1,bL.mono ⟨fun y o e=>(old y _ e nofun).1,fun j y o e=>(old y _ e nofun).1⟩ p q.2⟩
      ·rw[List.getElem?_replicate] at e;split at e<;>cases e
     ·exact nomatch (if_neg z).symm.trans e},old⟩
theorem SR.back (S:SR Z F g l o s.heap){F':Fr}{g₂:Gh}{l₂:L}{o₂:O}{s₂:Shared}(O:bu F)(S₂:SR Z F' g₂ l₂ o₂ s₂.heap)(L:Le (F.d+1) (F.r+1) (F.r+2) 0 g s g₂ s₂):SR Z F g₂ l o₂ s₂.heap where
 frz:=S₂.frz
 ist:=S₂.ist
 top:=S₂.top
 live:=S₂.live
 nov:=S₂.nov
 sto:=
  have T:=S.sto.keep fun a r le e=>L.role a _ e (nX le)
  have V:∀i,g₂.val (.loc F.d i)=g.val (.loc F.d i):=fun i=>L.val (.loc F.d i) (.inl (dm _))
  ⟨T.m.elim fun m p=>⟨m,p.1,fun x i e k=>(p.2 x i e k).trans (V i).symm⟩,T.mr,fun x i e k=>(T.cell x i e k).elim fun c z=>z.elim fun r z=>⟨c,r,z.1,z.2.1,z.2.2.1,z.2.2.2.1,lC z.2.2.2.2 rfl (V i)⟩⟩
 slot:=fun κ t e=>by
  cases κ with
  |att k x=>exact S₂.slot (.att k x) t e
  |loc e' i=>
   by_cases z:e'=F.d
   ·subst z
    exact(S.slot (.loc F.d i) t e).elim fun v q=>⟨v,L.vs (.inl (dm _)) q.1,q.2.mono L.ro fun y o e=>have w:=L.role y (.own (.loc F.d i)) e.1 (dm F.d);⟨w.1,w.2.trans e.2⟩⟩
   ·exact nomatch (if_neg z).symm.trans e
end
noncomputable def iZ {α:Type}:Nat→(List α→Prop)→Prop
 |0,Q=>Q []
 |n+1,Q=>∀a,iZ n fun l=>Q (a::l)
theorem iZ.get {α:Type}:∀{n:Nat} {Q:List α→Prop} (l:List α),l.length=n→iZ n Q→Q l
 |0,_,[]=>fun _ h=>h
 |n+1,_,a::l=>fun e h=>iZ.get (n:=n) l (mo e) (h a)
 |0,_,_:: _=>fun e _=>nomatch e
 | _+1,_,[]=>fun e _=>nomatch e
theorem dh.append {Z:Bs}{γ:RM}:∀{ps qs:List PV} {vs ws:List Value},dh Z γ ps vs→dh Z γ qs ws→dh Z γ (ps++qs) (vs++ws)
 |[],_,vs,_=>fun r k=>by rw[show vs=[] from r];exact k
 |p::ps,_,_,_=>fun r k=>r.elim fun v z=>z.elim fun us z=>⟨v,us++ _,by rw[z.1];rfl,z.2.1,dh.append z.2.2 k⟩
theorem RdL.pvrl {Z:Bs}{γ:RM}:∀{ds:List aa} {vs:List Value},RdL γ ds vs→dh Z γ (ds.map PV.d) vs
 |[],_=>fun r=>r
 | _:: _,_=>fun r=>r.elim fun v z=>z.elim fun us z=>⟨v,us,z.1,z.2.1,RdL.pvrl z.2.2⟩
theorem dh.length {Z:Bs}{γ:RM}:∀{ps:List PV} {vs:List Value},dh Z γ ps vs→vs.length=ps.length
 |[],_=>fun r=>r▸rfl
 | _:: _,_=>fun r=>r.elim fun v z=>z.elim fun us z=>z.1▸congrArg (·+1) (dh.length z.2.2)
structure AJ (W:Wd)(a:Addr)(c:Cd)(ix:List (Str×Nat))(nl:Nat)(body:List Stmt)(fd:FuncData)(P:List Str)(D:List Value):Prop where
 ob:∃oc od osl,W.K.lookup a=some ⟨oc,od,.func fd,osl⟩
 st:qL fd.scope ix nl P=true
 pl:P.length=c.n+D.length
 bd:fd.body= .stmts body
 cl:fd.closure=[]
 gl:fd.globals=dU
 bi:fd.builtins=du
 co:codeIn W.K fd.code fd.qualname=true
 ar:iZ c.n fun l=>∀s:Shared,W.K.In s.heap→BindsTo s fd ⟨l,[]⟩ (P.zip (l++D))
 df:RdL (fT W.Z.hT) c.ds D
section
variable {W:Wd}{a:Addr}{c:Cd}{ix:List (Str×Nat)}{nl:Nat}{body:List Stmt}{fd:FuncData}{P:List Str}{D:List Value}{r:R}{n:Nat}
theorem AK {A:Around}{env:Env}(R:iR A (n+2)):iR (A.deeper env) (n+1):=⟨by show A.depth+1+(n+1)<900;rw[dS,gB 1 (n+1)];exact R.dp,by show A.units+3+40*(n+1)+200<cLine;have:=R.un;omega⟩
theorem Ki {sc:Scope}{m:Nat}(K:oK sc ix nl P){vs:List Value}(y:Str×Value)(hy:y∈P.zip vs):sc.names.lookup y.1=some .local∨(sc.names.lookup y.1=some .cell∧((cellsFrom m sc.names []).lookup y.1).isSome=true):=
 (K.par y.1 (List.of_mem_zip hy).1).imp id fun z=>⟨z,(qK (n:=m) (acc:=[]) (.inl (gp z))).elim fun c hc=>by rw[hc];rfl⟩
theorem Kj (Y:∀f:Fc W,f.F.c=⟨fd.scope.names,ix,nl⟩→f.OkB c.c body)(rok:mK W n r){F:Fr}{g:Gh}{l:L}{o:O}{s s₁:Shared}{full:List Value}{vs:List PV}{K:PV→O→Prop}{R:Result→Shared→Prop}{env':Env}(O:bu F)(Rm:iR F.A (n+2))(S:SR W.Z F g l o s.heap)(st:oK fd.scope ix nl P)(hl:P.length=full.length)
 (ra:dh W.Z g.γ (vs++c.ds.map PV.d) full) (h1:env'.scope=fd.scope) (h2:env'.globals=dU) (h3:env'.builtins=du) (hcs:env'.cells=cellsFrom (s.heap.objs.size+1) fd.scope.names [])
 (x:InCallC s env'.locals (bindL env'.kindOf (P.zip full) fun _=>none) env'.cells (bindC env'.kindOf (P.zip full) fun _=>none) s₁) (hc:c.c r ((vs++c.ds.map PV.d).map (fun p=>some (.pv p))++lb c.k none) o (fun _ o=>K (.d .none) o) K)
 (k:∀p v g' o' s',SR W.Z F g' l o' s'.heap→Le F.d (F.r+1) (F.r+1) F.c.nl g s g' s'→bL W.Z g'.γ p v→K p o'→R (.ok (.ret v)) s'):fg W.Z.m F.A (.func body env') R s₁:=by
 have C:=S.call (A':=F.A.deeper env') st hl ra h1 hcs x c.k
 have L0:Le (F.d+1) (F.r+1) (F.r+2) 0 g s {g with γ:=lH g.γ F.r env'.locals env'.cells,val:=uw g.val (F.d+1) full} s₁:=⟨x.done.elim fun h z=>z.elim fun t z=>z.1▸⟨rfl,rfl⟩,fun y ρ e q=>C.2 y ρ e fun z=>by subst z;exact q,fun κ q=>.of (by
  cases κ with
  |att _ _=>rfl
  |loc e i=>exact if_neg fun z=>q.elim (fun q=>gA _ (z▸q)) fun q=>Nat.not_lt_zero _ q.2) κ⟩
 have W':∀{g₂:Gh} {s₂:Shared},Le (F.d+1) (F.r+1) (F.r+2) 0 g s g₂ s₂→Le F.d (F.r+1) (F.r+1) F.c.nl g s g₂ s₂:=fun L=>⟨L.rest,fun y ρ e q=>L.role y ρ e (tG (dI _) (aT _) (dI _) ρ q),fun κ q=>L.val κ (by
  cases κ with
  |att _ _=>trivial
  |loc e i=>exact .inl (q.elim (fun q=>sZ q) fun q=>q.1▸dm _))⟩
 refine codeAny_func (oG (f:=⟨qM F (F.A.deeper env') env' ix nl,r,n,bu.call st h1 h2 h3 x.apart O.hd,AK Rm,rok⟩) (Y ⟨qM F (F.A.deeper env') env' ix nl,r,n,bu.call st h1 h2 h3 x.apart O.hd,AK Rm,rok⟩ (congrArg (fun q:Scope=>(⟨q.names,ix,nl⟩:Cx)) h1) ⟨_,_,_,s₁,C.1⟩ _ _ _ hc
  (fun C2 l2 hk=>k (.d .none) .none C2.g C2.o C2.s (SR.back (s₂:=C2.s) S O C2.sr (Le.trans L0 l2)) (W' (Le.trans L0 l2)) rfl hk)
  fun p v C2 l2 r2 hk=>k p v C2.g C2.o C2.s (SR.back (s₂:=C2.s) S O C2.sr (Le.trans L0 l2)) (W' (Le.trans L0 l2)) r2 hk))
theorem Kk (hlim:W.Z.hT.NoLimit)(A:AJ W a c ix nl body fd P D)(Y:∀f:Fc W,f.F.c=⟨fd.scope.names,ix,nl⟩→f.OkB c.c body)(rok:mK W n r){vs:List PV}{o:O}{K:PV→O→Prop}(h:c.run r vs o K):mJ W.Z (n+2) a vs o K:=fun F g l s args Q O Rm S ra k=>by
 have X:W.K.In s.heap:=fun a o e=>S.frz a o (S.top a o (W.wf.inT a o e))
 have st:=Kh A.st
 have la:args.length=c.n:=ra.length.trans h.1
 have hl:P.length=(args++D).length:=A.pl.trans (by rw[aG,la])
 obtain⟨oc,od,osl,hf⟩:=A.ob
 have hlim':s.heap.NoLimit:=hlim.keeps fun b o eb=>S.frz b o (S.top b o eb)
 refine codeAny_call_function (li (aX (aR _ _) Rm.dp) (by decide)) (X _ _ hf) rfl st.co st.gen A.bd (codeRec_of X A.co) (A.ar.get args la s X _ _ _ _ ?_)
 rw[A.cl]
 exact wpAny_newFunctionEnv_cells st.kind (fun y hy=>Ki st y hy) fun env' he s₁ x=>⟨hlim'.keeps x.toInCall.keep,Kj Y rok O Rm S st hl (ra.append (RdL.mono S.topLe.f _ _ A.df).pvrl) (by rw[he];rfl) (by rw[he];exact A.gl) (by rw[he];exact A.bi) (by rw[he];rfl) x h.2 k⟩
end
theorem bl {a b:Bool}(h:(a&&b)=true):a=true:=(aP.mp h).1
theorem br {a b:Bool}(h:(a&&b)=true):b=true:=(aP.mp h).2
theorem nb {n k:Nat}(h:(n !=k)=true){x:Expr}(e:bc x=n):bc x≠k:=e▸bne_iff_ne.mp h
noncomputable def mW (c:Cx)(b:Str):Bool:=c.names.lookup b==some .globalImplicit
noncomputable def AL:Operator→Bool
 | .Add| .Sub| .Mult| .FloorDiv| .Mod=>true
 | _=>false
noncomputable def AM:CmpOp→Bool
 | .Eq| .NotEq| .Lt| .LtE| .Gt| .GtE=>true
 | _=>false
theorem Kl {W:Wd}:∀{op:Operator},AL op=true→lw W op
 | .Add,_=>HE
 | .Sub,_=>Hz
 | .Mult,_=>HA
 | .FloorDiv,_=>qi
 | .Mod,_=>tJ
theorem Km {W:Wd}:∀{op:CmpOp},AM op=true→kn W op
 | .Eq,_=>HM
 | .NotEq,_=>HN
 | .Lt,_=>HF
 | .LtE,_=>HG
 | .Gt,_=>HH
 | .GtE,_=>HI
structure XS where
 w:EP Slot
 sh:Nat
 src:Expr→Expr
 chk:Cx→Expr→Bool
 shp:∀x,bc (src x)=sh
 ok:∀{W:Wd} [cE W] (f:Fc W) x,chk f.F.c x=true→f.OkS w (src x)
structure XF where
 w:EP Slot
 sh:Nat
 src:Expr→Expr
 chk:Cx→Expr→Bool
 shp:∀x,bc (src x)=sh
 ok:∀{W:Wd} [cE W] (f:Fc W) x,chk f.F.c x=true→f.OkF w (src x)
structure XP where
 w:EP (Option Int)
 src:Expr→Option Expr
 chk:Cx→Expr→Bool
 ok:∀{W:Wd} [cE W] (f:Fc W) x,chk f.F.c x=true→f.OkP w (src x)
structure XC where
 w:EP Bool
 op:CmpOp
 a:Expr→Expr
 b:Expr→Expr
 chk:Cx→Expr→Bool
 ok:∀{W:Wd} [cE W] (f:Fc W) x,chk f.F.c x=true→f.OkC op w (a x) (b x)∧bc (b x)≠9
structure XT where
 w:EP Bool
 src:Expr→Expr
 chk:Cx→Expr→Bool
 ok:∀{W:Wd} [cE W] (f:Fc W) x,chk f.F.c x=true→f.OkT w (src x)
structure XR (op:BoolOp) where
 w:EP Bool
 src:List Expr→List Expr
 chk:Cx→List Expr→Bool
 ok:∀{W:Wd} [cE W] (f:Fc W) xs,chk f.F.c xs=true→f.OkTs op w (src xs)
noncomputable def xV (i:Nat):XE:=⟨eV i,0,fun x=>.Name (cr x) x.pos,fun c x=>c.ix.lookup (cr x)==some i,fun _=>rfl,fun f x h=>zw (aN h)⟩
noncomputable def xC (d:aa):XE:=⟨eC d,0,fun x=>.Constant (z7 d) (num x) x.pos,fun _ _=>z8 d,fun _=>rfl,fun f x h=>Is d _ _ h⟩
noncomputable def xG (n:Str)(p:PV)(hp:qc.lookup n=some p):XE:=⟨eP p,0,fun x=>.Name n x.pos,fun c _=>mW c n,fun _=>rfl,fun f x h=>It (aN h) hp⟩
noncomputable def aq (es:List XE):XE:=⟨ap (es.map (·.w)),3,fun x=>.Tuple (bD es (aY x)) (num x) x.pos,fun c x=>gE es.length 64&&cM c es (aY x),fun _=>rfl,fun f x h=>z9 es _ _ _ (br h) (jc (bl h))⟩
noncomputable def cc (es:List XE):XE:=⟨bK (es.map (·.w)),0,fun x=>.List (bD es (aY x)) x.pos,fun c x=>gE es.length 64&&cM c es (aY x),fun _=>rfl,fun f x h=>Iv es _ _ (br h) (jc (bl h))⟩
noncomputable def aK (op:Operator)(a b:XE):XE:=⟨aI op a.w b.w,0,fun x=>.BinOp (a.src (aD 0 x)) op (b.src (aD 1 x)) x.pos,fun c x=>AL op&&(a.chk c (aD 0 x)&&b.chk c (aD 1 x)),fun _=>rfl,fun f x h=>HB (a.ok f _ (bl (br h))) (b.ok f _ (br (br h))) (Kl (bl h))⟩
noncomputable def fx (a:XE):XE:=⟨dX a.w,0,fun x=>.UnaryOp .USub (a.src (aD 0 x)) x.pos,fun c x=>a.chk c (aD 0 x),fun _=>rfl,fun f x h=>Iw (a.ok f _ h)⟩
noncomputable def Kn (a:XE):XE:=⟨tu a.w,1,fun x=>.UnaryOp .Not (a.src (aD 0 x)) x.pos,fun c x=>a.chk c (aD 0 x),fun _=>rfl,fun f x h=>Ix (a.ok f _ h)⟩
noncomputable def jx (t:XT)(a b:XE):XE:=⟨ii t.w a.w b.w,1,fun x=>.IfExp (t.src (aD 0 x)) (a.src (aD 1 x)) (b.src (aD 2 x)) x.pos,fun c x=>t.chk c (aD 0 x)&&(a.chk c (aD 1 x)&&b.chk c (aD 2 x)),fun _=>rfl,fun f x h=>Iy (t.ok f _ (bl h)) (a.ok f _ (bl (br h))) (b.ok f _ (br (br h)))⟩
noncomputable def xB (t:XC):XE:=⟨eB t.w,1,fun x=>.Compare (t.a x) [t.op] [t.b x] x.pos,t.chk,fun _=>rfl,fun f x h=>IY (t.ok f x h).2 (t.ok f x h).1⟩
noncomputable def Ko (a b:XE):XE:=⟨tv a.w b.w,1,fun x=>.BoolOp .Or [a.src (aD 0 x),b.src (aD 1 x)] x.pos,fun c x=>a.chk c (aD 0 x)&&b.chk c (aD 1 x),fun _=>rfl,fun f x h=>IM (a.ok f _ (bl h)) (b.ok f _ (br h))⟩
noncomputable def AN (a b:XE):XE:=⟨pY a.w b.w,1,fun x=>.BoolOp .And [a.src (aD 0 x),b.src (aD 1 x)] x.pos,fun c x=>a.chk c (aD 0 x)&&b.chk c (aD 1 x),fun _=>rfl,fun f x h=>IO (a.ok f _ (bl h)) (b.ok f _ (br h))⟩
noncomputable def i0 (b:String)(e:Expr→Expr)(x:Expr):Expr:=.Call (.Name (ac b) (aD 0 x).pos) [e (aD 1 x)] [] x.pos
noncomputable def i1 (b:String)(e:XE)(c:Cx)(x:Expr):Bool:=(mW c (ac b)&&e.sh !=9)&&e.chk c (aD 1 x)
theorem kr {b:String}{e:XE}{c:Cx}{x:Expr}(h:i1 b e c x=true):c.names.lookup (ac b)=some .globalImplicit:=aN (bl (bl h))
theorem kt {b:String}{e:XE}{c:Cx}{x:Expr}(h:i1 b e c x=true){y:Expr}:bc (e.src y)≠9:=nb (br (bl h)) (e.shp _)
noncomputable def jy (e:XE):XE:=⟨ij e.w,4,i0 "range" e.src,i1 "range" e,fun _=>rfl,fun f x h=>IF (kr h) (kt h) (e.ok f _ (br h))⟩
noncomputable def gK (e:XE):XE:=⟨fQ e.w,4,i0 "tuple" e.src,i1 "tuple" e,fun _=>rfl,fun f x h=>IG (kr h) (kt h) (e.ok f _ (br h))⟩
noncomputable def ux (e:XE):XE:=⟨oo e.w,4,i0 "list" e.src,i1 "list" e,fun _=>rfl,fun f x h=>IH (kr h) (kt h) (e.ok f _ (br h))⟩
noncomputable def AO (e:XE):XE:=⟨p3 e.w,4,i0 "any" e.src,i1 "any" e,fun _=>rfl,fun f x h=>II (kr h) (kt h) (e.ok f _ (br h))⟩
noncomputable def Kp (e:XE):XE:=⟨tw e.w,4,i0 "all" e.src,i1 "all" e,fun _=>rfl,fun f x h=>IJ (kr h) (kt h) (e.ok f _ (br h))⟩
noncomputable def mX (e:XE):XE:=⟨kb e.w,4,i0 "sorted" e.src,i1 "sorted" e,fun _=>rfl,fun f x h=>IK (kr h) (kt h) (e.ok f _ (br h))⟩
noncomputable def AP (e:XE):XE:=⟨pZ e.w,4,i0 "sorted" (i0 "set" e.src),fun c x=>mW c "sorted"&&i1 "set" e c (aD 1 x),fun _=>rfl,fun f x h=>IL (aN (bl h)) (kr (br h)) (kt (br h)) (e.ok f _ (br (br h)))⟩
noncomputable def dB (e:XE):XS:=⟨sV e.w,e.sh,e.src,e.chk,e.shp,fun f x h=>IA (e.ok f x h)⟩
theorem AQ:∀(p:Pl) (x:Expr),bc (p.src x)=0
 | .n _,_=>rfl
 | .a _ _,_=>rfl
 | .b _ _ _,_=>rfl
noncomputable def sP (p:Pl):XS:=⟨p.g,0,p.src,p.chk,AQ p,fun f x h=>IB h⟩
noncomputable def cF (e:XS):XE:=⟨bT e.w,4,i0 "len" e.src,fun c x=>(mW c "len"&&e.sh !=9)&&e.chk c (aD 1 x),fun _=>rfl,fun f x h=>IE (aN (bl (bl h))) (nb (br (bl h)) (e.shp _)) (e.ok f _ (br h))⟩
noncomputable def uy (p:Pl):XE:=⟨oq p,0,p.src,p.chk,AQ p,fun f x h=>IC h⟩
noncomputable def aE (n:Str)(es:List XE):XE:=⟨aC n (es.map (·.w)),4,fun x=>.Call (.Name n (aD 0 x).pos) (bD es (aY x).tail) [] x.pos,fun c x=>(ot.contains n&&mW c n)&&cM c es (aY x).tail,fun _=>rfl,fun f x h=>Je (bl (bl h)) (aN (br (bl h))) (br h)⟩
noncomputable def AR (n:Str)(k:Nat)(es:List XE):XE:=⟨p4 k (es.map (·.w)),4,fun x=>.Call (.Name n (aD 0 x).pos) (bD es (aY x).tail) [] x.pos,fun c x=>(qa.lookup n==some k&&(mC.contains (k,"__init__")&&mW c n))&&cM c es (aY x).tail,fun _=>rfl,fun f x h=>Jg (aN (bl (bl h))) (bl (br (bl h))) (aN (br (br (bl h)))) (br h)⟩
noncomputable def AS (x:Expr):Bool:=(aD 0 x).pos.endLine==x.pos.line
noncomputable def eO (i:Nat)(m:Str)(es:List XE):XE:=⟨dY (eV i) m (es.map (·.w)),4,fun x=>.Call (.Attribute (.Name (cr (eM (aD 0 x))) (eM (aD 0 x)).pos) m (aD 0 x).pos) (bD es (aY x).tail) [] x.pos,fun c x=>(c.ix.lookup (cr (eM (aD 0 x)))==some i&&(gE es.length 8&&AS x))&&cM c es (aY x).tail,fun _=>rfl,fun f x h=>Jf (aN (bl (bl h))) (br h) (jc (bl (br (bl h)))) (br (br (bl h)))⟩
noncomputable def qN (m:String)(p:Pl)(es:List XE)(x:Expr):Expr:=.Call (.Attribute (p.src (eM (aD 0 x))) (ac m) (aD 0 x).pos) (bD es (aY x).tail) [] x.pos
noncomputable def qO (p:Pl)(es:List XE)(c:Cx)(x:Expr):Bool:=(p.chk c (eM (aD 0 x))&&AS x)&&cM c es (aY x).tail
noncomputable def cN (p:Pl)(e:XE):XE:=⟨cB p e.w,4,qN "append" p [e],qO p [e],fun _=>rfl,fun f x h=>I8 (bl (bl h)) (br h) (br (bl h))⟩
noncomputable def AT (p:Pl)(e:XE):XE:=⟨p6 p e.w,4,qN "extend" p [e],qO p [e],fun _=>rfl,fun f x h=>I9 (bl (bl h)) (br h) (br (bl h))⟩
noncomputable def AU (p:Pl):XE:=⟨p7 p,4,qN "pop" p [],qO p [],fun _=>rfl,fun f x h=>Ja (bl (bl h)) (br (bl h))⟩
noncomputable def Kr (p:Pl):XE:=⟨p8 p,4,qN "pop" p [xC (.int 0)],qO p [xC (.int 0)],fun _=>rfl,fun f x h=>Jb rfl (bl (bl h)) (br h) (br (bl h))⟩
noncomputable def bM (a i:XE):XE:=⟨bq a.w i.w,0,fun x=>.Subscript (a.src (aD 0 x)) (i.src (aD 1 x)) x.pos,fun c x=>i.sh !=9&&(a.chk c (aD 0 x)&&i.chk c (aD 1 x)),fun _=>rfl,fun f x h=>I1 (nb (bl h) (i.shp _)) (a.ok f _ (bl (br h))) (i.ok f _ (br (br h)))⟩
noncomputable def au (p:Pl)(i:XE):XE:=⟨ao p i.w,0,fun x=>.Subscript (p.src (aD 0 x)) (i.src (aD 1 x)) x.pos,fun c x=>i.sh !=9&&(p.chk c (aD 0 x)&&i.chk c (aD 1 x)),fun _=>rfl,fun f x h=>I2 (bl (br h)) (nb (bl h) (i.shp _)) (i.ok f _ (br (br h)))⟩
noncomputable def pN:XP:=⟨oN,fun _=>none,fun _ _=>true,fun f x _=>I4⟩
noncomputable def pS (e:XE):XP:=⟨oS e.w,fun x=>some (e.src x),e.chk,fun f x h=>I5 (e.ok f x h)⟩
noncomputable def g6 (e:XE)(a b:XP):XE:=⟨gk e.w a.w b.w,0,fun x=>.Subscript (e.src (aD 0 x)) (.Slice (a.src (aD 0 (aD 1 x))) (b.src (aD 1 (aD 1 x))) none (aD 1 x).pos) x.pos,fun c x=>e.chk c (aD 0 x)&&(a.chk c (aD 0 (aD 1 x))&&b.chk c (aD 1 (aD 1 x))),fun _=>rfl,fun f x h=>I6 (e.ok f _ (bl h)) (a.ok f _ (bl (br h))) (b.ok f _ (br (br h)))⟩
noncomputable def aw (op:CmpOp)(a b:XE):XC:=⟨av op a.w b.w,op,fun x=>a.src (aD 0 x),fun x=>b.src (aD 1 x),fun c x=>(AM op&&b.sh !=9)&&(a.chk c (aD 0 x)&&b.chk c (aD 1 x)),fun f x h=>⟨IV (Km (bl (bl h))) (a.ok f _ (bl (br h))) (b.ok f _ (br (br h))),nb (br (bl h)) (b.shp _)⟩⟩
noncomputable def d8 (a:XE)(b:XS):XC:=⟨dK a.w b.w,.In,fun x=>a.src (aD 0 x),fun x=>b.src (aD 1 x),fun c x=>b.sh !=9&&(a.chk c (aD 0 x)&&b.chk c (aD 1 x)),fun f x h=>⟨IW (a.ok f _ (bl (br h))) (b.ok f _ (br (br h))),nb (bl h) (b.shp _)⟩⟩
noncomputable def qP (a:XE)(b:XS):XC:=⟨mD a.w b.w,.NotIn,fun x=>a.src (aD 0 x),fun x=>b.src (aD 1 x),fun c x=>b.sh !=9&&(a.chk c (aD 0 x)&&b.chk c (aD 1 x)),fun f x h=>⟨IX (a.ok f _ (bl (br h))) (b.ok f _ (br (br h))),nb (bl h) (b.shp _)⟩⟩
noncomputable def tC (t:XC):XT:=⟨t.w,fun x=>.Compare (t.a x) [t.op] [t.b x] x.pos,t.chk,fun f x h=>IZ (t.ok f x h).2 (t.ok f x h).1⟩
noncomputable def tS (s:XS):XT:=⟨gG s.w,s.src,fun c x=>s.sh !=1&&s.chk c x,fun f x h=>IP (nb (bl h) (s.shp _)) (s.ok f _ (br h))⟩
noncomputable def tN (t:XT):XT:=⟨mE t.w,fun x=>.UnaryOp .Not (t.src (aD 0 x)) x.pos,fun c x=>t.chk c (aD 0 x),fun f x h=>IQ (t.ok f _ h)⟩
noncomputable def r1 (op:BoolOp)(t:XT):XR op:=⟨t.w,fun xs=>[t.src (xs.headD cW)],fun c xs=>t.chk c (xs.headD cW),fun f xs h=>IR (t.ok f _ h)⟩
noncomputable def rA (t:XT)(r:XR .And):XR .And:=⟨dz t.w r.w,fun xs=>t.src (xs.headD cW)::r.src xs.tail,fun c xs=>t.chk c (xs.headD cW)&&r.chk c xs.tail,fun f xs h=>IS (t.ok f _ (bl h)) (r.ok f _ (br h))⟩
noncomputable def rO (t:XT)(r:XR .Or):XR .Or:=⟨fk t.w r.w,fun xs=>t.src (xs.headD cW)::r.src xs.tail,fun c xs=>t.chk c (xs.headD cW)&&r.chk c xs.tail,fun f xs h=>IT (t.ok f _ (bl h)) (r.ok f _ (br h))⟩
noncomputable def tR {op:BoolOp}(r:XR op):XT:=⟨r.w,fun x=>.BoolOp op (r.src (aY x)) x.pos,fun c x=>r.chk c (aY x),fun f x h=>IU (r.ok f _ h)⟩
noncomputable def fO (e:XE):XF:=⟨sV e.w,e.sh,e.src,e.chk,e.shp,fun f x h=>Jy (e.ok f x h)⟩
noncomputable def de (es:List XE):XF:=⟨fL (es.map (·.w)),0,fun x=>.List (bD es (aY x)) x.pos,fun c x=>gE es.length 64&&cM c es (aY x),fun _=>rfl,fun f x h=>Jz es _ (br h) (jc (bl h))⟩
noncomputable def mY:XF:=⟨ki,0,fun x=>.Dict [] [] x.pos,fun _ _=>true,fun _=>rfl,fun f x h=>JA⟩
noncomputable def Ks (e:XE):XF:=⟨tx e.w,4,i0 "list" e.src,i1 "list" e,fun _=>rfl,fun f x h=>JB (kr h) (kt h) (e.ok f _ (br h))⟩
structure XK where
 as:TP
 src:Expr→Expr
 ix:Expr→List (Str×Nat)
 chk:Cx→Nat→Expr→Bool
 ok:∀{W:Wd} (f:Fc W) m x,m≤f.F.c.nl→chk f.F.c m x=true→f.OkAs m as (src x)
noncomputable def kN (i:Nat):XK:=⟨ay i,fun x=>.Name (cr x) x.pos,fun x=>[(cr x,i)],fun c m x=>c.bix (cr x)==some i&&gE m i,fun f m x _ h=>Ji (aN (bl h)) (jc (br h))⟩
noncomputable def AV:List Nat→List Expr→List (Str×Nat)
 |[],_=>[]
 |i::is,xs=>(cr (xs.headD cW),i)::AV is xs.tail
noncomputable def kT (is:List Nat):XK:=⟨cJ is,fun x=>.Tuple (ko is (aY x)) (num x) x.pos,fun x=>AV is (aY x),fun c m x=>lF c m is (aY x),fun f m x hm h=>Ap hm h⟩
noncomputable def dj (i:Nat)(x:Expr):jQ:=(mO x).2.2.2.2.1.getD i ⟨cW,cW,[],0⟩
noncomputable def i2 (x:Expr):Scope:=(mO x).2.2.2.2.2
structure XI where
 w:EP Bool
 src:List Expr→List Expr
 chk:Cx→List Expr→Bool
 ok:∀{W:Wd} [cE W] (f:Fc W) xs,chk f.F.c xs=true→f.Ok w (kp (src xs) f.F.env) (RB f)
noncomputable def iN:XI:=⟨tT,fun _=>[],fun _ _=>true,fun f xs h=>ui⟩
noncomputable def iT (t:XT):XI:=⟨t.w,fun xs=>[t.src (xs.headD cW)],fun c xs=>t.chk c (xs.headD cW),fun f xs h=>J1 (t.ok f _ h)⟩
noncomputable def qQ (c:Cx)(sc:Scope)(ix:List (Str×Nat)):List (Str×Nat):=ix++c.ix.filter fun p=>sc.names.lookup p.1==some .free
structure XM where
 w:EP (List aa)
 src:Expr→Expr
 chk:Cx→Expr→Bool
 ok:∀{W:Wd} [cE W] (f:Fc W) x,chk f.F.c x=true→f.OkF (fR w) (src x)∧f.OkE (c5 w) (src x)∧∀(y:Str) (yp:Pos) (j:Nat) (pos:Pos),f.F.c.bix y=some j→f.OkX (sA j (fR w)) (.Assign [.Name y yp] (src x) pos)
 shp:∀x,bc (src x)=2
theorem XM.of {W:Wd}{f:Fc W}{elt T i:Expr}{ifs:List Expr}{gs:List jQ}{sc:Scope}{p:Pos}{nts nl:Nat}{w:EP PV}{g:List aa→List aa→EP (List aa)}(e:nl=f.F.c.nl)(H:mV f (.ListComp elt (⟨T,i,ifs,0⟩::gs) sc p) i sc nts w g):
 f.OkF (fR (bA nl nts w g)) (.ListComp elt (⟨T,i,ifs,0⟩::gs) sc p)∧f.OkE (c5 (bA nl nts w g)) (.ListComp elt (⟨T,i,ifs,0⟩::gs) sc p)∧∀(y:Str) (yp:Pos) (j:Nat) (pos:Pos),f.F.c.bix y=some j→f.OkX (sA j (fR (bA nl nts w g))) (.Assign [.Name y yp] (.ListComp elt (⟨T,i,ifs,0⟩::gs) sc p) pos):=by
 subst e
 exact⟨Ka H,Kb H,fun _ _ _ _ hx=>Kf hx H⟩
noncomputable def uz (c:Cx)(k:XK)(nts:Nat)(x:Expr):Cx:=⟨(i2 x).names,qQ c (i2 x) (k.ix (dj 0 x).target),c.nl+nts⟩
noncomputable def m1 (nl nts:Nat)(it:XE)(k:XK)(t:XI)(e:XE):XM where
 w:=bA nl nts it.w (bf k.as t.w e.w)
 src:=fun x=>.ListComp (e.src (aD 0 x)) [⟨k.src (dj 0 x).target,it.src (dj 0 x).iter,t.src (dj 0 x).ifs,0⟩] (i2 x) x.pos
 chk:=fun c x=>(nl==c.nl&&(it.sh !=9&&it.chk c (dj 0 x).iter))&&(uk c (i2 x) (qQ c (i2 x) (k.ix (dj 0 x).target)) nts&&(k.chk (uz c k nts x) c.nl (dj 0 x).target&&(t.chk (uz c k nts x) (dj 0 x).ifs&&e.chk (uz c k nts x) (aD 0 x))))
 shp:=fun _=>rfl
 ok:=fun f x h=>XM.of (aN (bl (bl h))) ⟨nb (bl (br (bl h))) (it.shp _),it.ok f _ (br (br (bl h))),_,iX (bl (br h)),fun cl Q N=>uh (T:=k.src (dj 0 x).target) JU (aR _ _) (k.ok (f.comp (iX (bl (br h))) Q N) _ _ (aR _ _) (bl (br (br h)))) (t.ok (f.comp (iX (bl (br h))) Q N) _ (bl (br (br (br h))))) (Ax (aR _ _) (e.ok (f.comp (iX (bl (br h))) Q N) _ (br (br (br (br h))))))⟩
noncomputable def qR (c:Cx)(k k':XK)(nts:Nat)(x:Expr):Cx:=⟨(i2 x).names,qQ c (i2 x) (k.ix (dj 0 x).target++k'.ix (dj 1 x).target),c.nl+nts⟩
noncomputable def m2 (nl nts:Nat)(it:XE)(k:XK)(it':XE)(k':XK)(e:XE):XM where
 w:=bA nl nts it.w (tB k.as tT it'.w (bf k'.as tT e.w))
 src:=fun x=>.ListComp (e.src (aD 0 x)) [⟨k.src (dj 0 x).target,it.src (dj 0 x).iter,[],0⟩,⟨k'.src (dj 1 x).target,it'.src (dj 1 x).iter,[],0⟩] (i2 x) x.pos
 chk:=fun c x=>((nl==c.nl&&it'.sh !=9)&&(it.sh !=9&&it.chk c (dj 0 x).iter))&&(uk c (i2 x) (qQ c (i2 x) (k.ix (dj 0 x).target++k'.ix (dj 1 x).target)) nts&&((k.chk (qR c k k' nts x) c.nl (dj 0 x).target&&it'.chk (qR c k k' nts x) (dj 1 x).iter)&&(k'.chk (qR c k k' nts x) c.nl (dj 1 x).target&&e.chk (qR c k k' nts x) (aD 0 x))))
 shp:=fun _=>rfl
 ok:=fun f x h=>XM.of (aN (bl (bl (bl h)))) ⟨nb (bl (br (bl h))) (it.shp _),it.ok f _ (br (br (bl h))),_,iX (bl (br h)),fun cl Q N=>have hm:=aR _ _;have f':=f.comp (iX (bl (br h))) Q N
  uh (T:=k.src (dj 0 x).target) JV hm (k.ok (f.comp (iX (bl (br h))) Q N) _ _ hm (bl (bl (br (br h))))) ui (J2 hm (nb (br (bl (bl h))) (it'.shp _)) (it'.ok (f.comp (iX (bl (br h))) Q N) _ (br (bl (br (br h))))) (uh (T:=k'.src (dj 1 x).target) JW hm (k'.ok (f.comp (iX (bl (br h))) Q N) _ _ hm (bl (br (br (br h))))) ui (Ax hm (e.ok (f.comp (iX (bl (br h))) Q N) _ (br (br (br (br h))))))))⟩
noncomputable def dM (m:XM):XE:=⟨c5 m.w,2,m.src,m.chk,m.shp,fun f x h=>(m.ok f x h).2.1⟩
noncomputable def jz:Stmt→List Expr×List Stmt×List Stmt
 | .Expr e _=>([e],[],[])
 | .Return e _=>([e.getD cW],[],[])
 | .Assign ts e _=>(e::ts,[],[])
 | .AugAssign t _ e _=>([e,t],[],[])
 | .If t a b _=>([t],a,b)
 | .While t a b _=>([t],a,b)
 | .For t i a b _=>([i,t],a,b)
 | _=>([],[],[])
noncomputable def ek (i:Nat)(x:Stmt):Expr:=(jz x).1.getD i cW
structure XX where
 w:SP
 src:Stmt→Stmt
 chk:Cx→Stmt→Bool
 ok:∀{W:Wd} [cE W] (f:Fc W) x,chk f.F.c x=true→f.OkX w (src x)
structure XB where
 w:SP
 src:List Stmt→List Stmt
 chk:Cx→List Stmt→Bool
 ok:∀{W:Wd} [cE W] (f:Fc W) xs,chk f.F.c xs=true→f.OkB w (src xs)
noncomputable def mZ:Stmt:=.Pass ⟨0,0,0,0⟩
noncomputable def bX:XB:=⟨sX,id,fun _ _=>true,fun f xs h C n t Q hk hn ht=>hk.elim⟩
noncomputable def bN:XB:=⟨sN,fun _=>[],fun _ _=>true,fun f xs h=>Jj⟩
noncomputable def b1 (s:XX):XB:=⟨s.w,fun xs=>[s.src (xs.headD mZ)],fun c xs=>s.chk c (xs.headD mZ),fun f xs h=>Jl (s.ok f _ h)⟩
noncomputable def bS (s:XX)(b:XB):XB:=⟨sS s.w b.w,fun xs=>s.src (xs.headD mZ)::b.src xs.tail,fun c xs=>s.chk c (xs.headD mZ)&&b.chk c xs.tail,fun f xs h=>Jk (s.ok f _ (bl h)) (b.ok f _ (br h))⟩
noncomputable def zX:XX:=⟨sX,id,fun _ _=>true,fun f x h C n t Q hk hn ht=>hk.elim⟩
noncomputable def zE (e:XE):XX:=⟨sE e.w,fun x=>.Expr (e.src (ek 0 x)) x.pos,fun c x=>e.sh==4&&e.chk c (ek 0 x),fun f x h=>Jp ((e.shp _).trans (aN (bl h))) (e.ok f _ (br h))⟩
noncomputable def zR (e:XE):XX:=⟨sR e.w,fun x=>.Return (some (e.src (ek 0 x))) x.pos,fun c x=>e.chk c (ek 0 x),fun f x h=>Jq (e.ok f _ h)⟩
noncomputable def zI (t:XT)(a b:XB):XX:=⟨sI t.w a.w b.w,fun x=>.If (t.src (ek 0 x)) (a.src (jz x).2.1) (b.src (jz x).2.2) x.pos,fun c x=>t.chk c (ek 0 x)&&(a.chk c (jz x).2.1&&b.chk c (jz x).2.2),fun f x h=>Jr (t.ok f _ (bl h)) (a.ok f _ (bl (br h))) (b.ok f _ (br (br h)))⟩
noncomputable def zW (t:XT)(a:XB):XX:=⟨sW t.w a.w,fun x=>.While (t.src (ek 0 x)) (a.src (jz x).2.1) [] x.pos,fun c x=>t.chk c (ek 0 x)&&a.chk c (jz x).2.1,fun f x h=>JJ (t.ok f _ (bl h)) (a.ok f _ (br h))⟩
noncomputable def zF (k:XK)(e:XE)(a:XB):XX:=⟨sF k.as e.w a.w,fun x=>.For (k.src (ek 1 x)) (e.src (ek 0 x)) (a.src (jz x).2.1) [] x.pos,fun c x=>(e.sh !=9&&k.chk c 0 (ek 1 x))&&(e.chk c (ek 0 x)&&a.chk c (jz x).2.1),fun f x h=>JN (nb (bl (bl h)) (e.shp _)) (k.ok f _ _ (bz _) (br (bl h))) (e.ok f _ (bl (br h))) (a.ok f _ (br (br h)))⟩
noncomputable def zA (i:Nat)(e:XF):XX:=⟨sA i e.w,fun x=>.Assign [.Name (cr (ek 1 x)) (ek 1 x).pos] (e.src (ek 0 x)) x.pos,fun c x=>(c.bix (cr (ek 1 x))==some i&&(e.sh !=2&&e.sh !=9))&&e.chk c (ek 0 x),fun f x h=>Js (aN (bl (bl h))) (nb (bl (br (bl h))) (e.shp _)) (nb (br (br (bl h))) (e.shp _)) (e.ok f _ (br h))⟩
noncomputable def zC (i:Nat)(m:XM):XX:=⟨sA i (fR m.w),fun x=>.Assign [.Name (cr (ek 1 x)) (ek 1 x).pos] (m.src (ek 0 x)) x.pos,fun c x=>c.bix (cr (ek 1 x))==some i&&m.chk c (ek 0 x),fun f x h=>(m.ok f _ (br h)).2.2 _ _ _ _ (aN (bl h))⟩
noncomputable def zT (is:List Nat)(e:XE):XX:=⟨gH (cJ is) e.w,fun x=>.Assign [.Tuple (ko is (aY (ek 1 x))) (num (ek 1 x)) (ek 1 x).pos] (e.src (ek 0 x)) x.pos,fun c x=>(lF c 0 is (aY (ek 1 x))&&(e.sh !=3&&(e.sh !=2&&e.sh !=9)))&&e.chk c (ek 0 x),
 fun f x h=>Ju (nb (bl (br (bl h))) (e.shp _)) (nb (bl (br (br (bl h)))) (e.shp _)) (nb (br (br (br (bl h)))) (e.shp _)) (Ap (bz _) (bl (bl h))) (e.ok f _ (br h))⟩
noncomputable def m3 (p:Pl)(i e:XE):XX:=⟨ik p i.w e.w,fun x=>.Assign [.Subscript (p.src (aD 0 (ek 1 x))) (i.src (aD 1 (ek 1 x))) (ek 1 x).pos] (e.src (ek 0 x)) x.pos,fun c x=>(p.chk c (aD 0 (ek 1 x))&&(e.sh !=2&&e.sh !=9))&&(i.chk c (aD 1 (ek 1 x))&&e.chk c (ek 0 x)),fun f x h=>Jv (nb (bl (br (bl h))) (e.shp _)) (nb (br (br (bl h))) (e.shp _)) (bl (bl h)) (i.ok f _ (bl (br h))) (e.ok f _ (br (br h)))⟩
noncomputable def Kt (i:Nat)(e:XE):XX:=⟨tz i e.w,fun x=>.AugAssign (.Name (cr (ek 1 x)) (ek 1 x).pos) .Add (e.src (ek 0 x)) x.pos,fun c x=>c.bix (cr (ek 1 x))==some i&&e.chk c (ek 0 x),fun f x h=>Jx (aN (bl h)) (e.ok f _ (br h))⟩
noncomputable def AW (i j:Nat)(e1 e2:XE):XX:=⟨p9 i j (ap [e1.w,e2.w]),fun x=>.Assign [.Tuple [.Name (cr (aD 0 (ek 1 x))) (aD 0 (ek 1 x)).pos,.Name (cr (aD 1 (ek 1 x))) (aD 1 (ek 1 x)).pos] (num (ek 1 x)) (ek 1 x).pos] (.Tuple (bD [e1,e2] (aY (ek 0 x))) (num (ek 0 x)) (ek 0 x).pos) x.pos,
 fun c x=>(c.bix (cr (aD 0 (ek 1 x)))==some i&&c.bix (cr (aD 1 (ek 1 x)))==some j)&&(cM c [e1,e2] (aY (ek 0 x))&&ue c (cr (aD 0 (ek 1 x))) (cr (aD 1 (ek 1 x))) (aD 0 (ek 1 x)).pos (aD 1 (ek 1 x)).pos (e1.src ((aY (ek 0 x)).headD cW)) (e2.src ((aY (ek 0 x)).tail.headD cW))),fun f x h=>JR (aN (bl (bl h))) (aN (br (bl h))) (bl (br h)) (br (br h))⟩
noncomputable def fV (i:Nat)(y:Str)(e:XF):XX:=⟨eY i y e.w,fun x=>.Assign [.Attribute (.Name (cr (eM (ek 1 x))) (eM (ek 1 x)).pos) y (ek 1 x).pos] (e.src (ek 0 x)) x.pos,fun c x=>((c.ix.lookup (cr (eM (ek 1 x)))==some i&&mG.contains y)&&(e.sh !=2&&e.sh !=9))&&e.chk c (ek 0 x),fun f x h=>JG (nb (bl (br (bl h))) (e.shp _)) (nb (br (br (bl h))) (e.shp _)) (aN (bl (bl (bl h)))) (br (bl (bl h))) (e.ok f _ (br h))⟩
end Mine
end
noncomputable section
open PySem PySem.W PyProof.Rows
namespace Mine
def lI:XE:=xG "ANY" (.d (.int (0))) (by kernel_rfl)
def uA:XE:=xG "ERR" (.d (.int (13))) (by kernel_rfl)
def fW:XE:=xG "E_NEED" (.d (.int (0))) (by kernel_rfl)
def jA:XE:=xG "E_OPT" (.d (.int (1))) (by kernel_rfl)
def dC:XE:=xG "E_REST" (.d (.int (2))) (by kernel_rfl)
def dN:XE:=xG "E_SPREAD" (.d (.int (3))) (by kernel_rfl)
def AX:XE:=xG "FALSE_T" (.d (.int (8))) (by kernel_rfl)
def Ku:XE:=xG "FIRST_ROWS" mH (by kernel_rfl)
def Kv:XE:=xG "FRESH_F" (.d (.int (14))) (by kernel_rfl)
def Kw:XE:=xG "FRESH_T" (.d (.int (15))) (by kernel_rfl)
def AY:XE:=xG "KID_SPANS" qb (by kernel_rfl)
def Kx:XE:=xG "MARKED_ROWS" tD (by kernel_rfl)
def Ky:XE:=xG "MAX_UNION" (.d (.int (400))) (by kernel_rfl)
def Kz:XE:=xG "MOST_ELEMS" (.d (.int (10000))) (by kernel_rfl)
def KB:XE:=xG "MOST_ROUNDS" (.d (.int (200))) (by kernel_rfl)
def KC:XE:=xG "MOST_SHAPES" (.d (.int (40))) (by kernel_rfl)
def qS:XE:=xG "NEVER" (.d (.int (2))) (by kernel_rfl)
def KD:XE:=xG "NUMBER" (.d (.int (7))) (by kernel_rfl)
def KE:XE:=xG "OPEN_KINDS" tF (by kernel_rfl)
def oM:XE:=xG "STRING" (.d (.int (6))) (by kernel_rfl)
def AZ:XE:=xG "TRUE_T" (.d (.int (9))) (by kernel_rfl)
def qT:XE:=xG "UNDEF" (.d (.int (4))) (by kernel_rfl)
def ku:XE:=xG "UNKNOWN" (.d (.int (1))) (by kernel_rfl)
def KG:XE:=xG "Y_ALIAS" (.d (.int (19))) (by kernel_rfl)
def jB:XE:=xG "Y_ARRAY" (.d (.int (11))) (by kernel_rfl)
def KH:XE:=xG "Y_COND" (.d (.int (16))) (by kernel_rfl)
def KI:XE:=xG "Y_ENUM" (.d (.int (5))) (by kernel_rfl)
def oO:XE:=xG "Y_INTER" (.d (.int (7))) (by kernel_rfl)
def KJ:XE:=xG "Y_KEYOF" (.d (.int (14))) (by kernel_rfl)
def KK:XE:=xG "Y_MAPPED" (.d (.int (17))) (by kernel_rfl)
def A0:XE:=xG "Y_NUM" (.d (.int (4))) (by kernel_rfl)
def uB:XE:=xG "Y_OBJ" (.d (.int (8))) (by kernel_rfl)
def A1:XE:=xG "Y_PARAM" (.d (.int (10))) (by kernel_rfl)
def KL:XE:=xG "Y_REF" (.d (.int (9))) (by kernel_rfl)
def A3:XE:=xG "Y_SIG" (.d (.int (13))) (by kernel_rfl)
def A5:XE:=xG "Y_STR" (.d (.int (3))) (by kernel_rfl)
def uC:XE:=xG "Y_TPL" (.d (.int (18))) (by kernel_rfl)
def jC:XE:=xG "Y_TUPLE" (.d (.int (12))) (by kernel_rfl)
def kw:XE:=xG "Y_UNION" (.d (.int (6))) (by kernel_rfl)
def KM:XB:=(b1 (zE (eO 0 "put" [(xV 1)])))
def KN:XB:=(b1 (zF (kN 1) Ku KM))
def KO:XB:=(bS (fV 0 "putting" (fO (xC (.int 0)))) KN)
def KQ:XB:=(bS (fV 0 "shaping" (fO (xC (.int 0)))) KO)
def KR:XB:=(bS (fV 0 "renamed" mY) KQ)
def KS:XB:=(bS (fV 0 "origins" mY) KR)
def KT:XB:=(bS (fV 0 "names" (de [])) KS)
def KU:XB:=(bS (fV 0 "defaults" (de [])) KT)
def KV:XB:=(bS (fV 0 "bounds" (de [])) KU)
def KW:XB:=(bS (fV 0 "decls" (de [(xC .none)])) KV)
def KY:XB:=(bS (fV 0 "index" mY) KW)
def A6:XB:=(bS (fV 0 "rows" (de [])) KY)
def KZ:XB:=(bS (m3 (.a 0 "index") (xV 1) (xV 2)) (b1 (zR (xV 2))))
def K1:XB:=(bS (zE (cN (.a 0 "rows") (xV 1))) KZ)
def K2:XB:=(bS (zA 2 (fO (cF (sP (.a 0 "rows"))))) K1)
def K3:XB:=(b1 (zR (au (.a 0 "index") (xV 1))))
def A7:XB:=(bS (zI (tC (d8 (xV 1) (sP (.a 0 "index")))) K3 bN) K2)
def A8:XB:=(b1 (zR (eO 0 "put" [(aq [A5,(xV 1),(xV 2)])])))
def A9:XB:=(b1 (zR (eO 0 "put" [(aq [A0,(xV 1),(xV 2)])])))
def Ba:XB:=(b1 (zR (eO 0 "put" [(aq [jB,(xV 1),(xV 2)])])))
def K4:XB:=(b1 (zI (tC (d8 (bM (au (.n 0) (xV 3)) (xC (.int 1))) (sP (.n 1)))) (b1 (zA 2 (fO (xV 3)))) bN))
def K5:XB:=(bS (zF (kN 3) (jy (cF (sP (.n 0)))) K4) (b1 (zR (xV 2))))
def Bb:XB:=(bS (zA 2 (fO (fx (xC (.int 1))))) K5)
def K6:XB:=(b1 (zE (cN (.n 3) (aq [(aE "add_undef" [(xV 0),(xV 5)]),fW]))))
def K7:XB:=(b1 (zE (cN (.n 3) (aq [(xV 5),(xV 6)]))))
def K8:XB:=(b1 (zI (tR (rA (tC (aw .Eq (xV 6) jA)) (r1 .And (tC (aw .Lt (xV 4) (xV 2)))))) K6 K7))
def K9:XB:=(bS (zT [5,6] (au (.n 1) (xV 4))) K8)
def La:XB:=(bS (zF (kN 4) (jy (cF (sP (.n 1)))) K9) (b1 (zR (xV 3))))
def Bc:XB:=(bS (zA 2 (fO (aE "last_mark" [(xV 1),(aq [fW])]))) (bS (zA 3 (de [])) La))
def Lb:XB:=(b1 (zR (aK .Add (aK .Add (g6 (xV 1) pN (pS (xV 3))) (cc [(aq [(aE "union" [(xV 0),(xV 5)]),dC])])) (g6 (xV 1) (pS (aK .Add (xV 2) (xC (.int 1)))) pN))))
def Lc:XB:=(b1 (zE (cN (.n 5) (jx (tC (aw .Eq (xV 7) jA)) (aE "add_undef" [(xV 0),(xV 6)]) (xV 6)))))
def Ld:XB:=(bS (zF (kT [6,7]) (g6 (xV 1) (pS (xV 3)) (pS (aK .Add (xV 2) (xC (.int 1))))) Lc) Lb)
def Lf:XB:=(bS (zI (tR (rO (tC (aw .Lt (xV 3) (xC (.int 0)))) (r1 .Or (tC (aw .LtE (xV 2) (xV 3)))))) (b1 (zR (xV 1))) bN) (bS (zA 5 (de [])) Ld))
def Lg:XB:=(b1 (zI (tR (rA (tC (aw .Lt (xV 3) (xC (.int 0)))) (r1 .And (tC (aw .Eq (bM (au (.n 1) (xV 4)) (xC (.int 1))) dC))))) (b1 (zA 3 (fO (xV 4)))) bN))
def Lh:XB:=(bS (zF (kN 4) (jy (cF (sP (.n 1)))) Lg) Lf)
def Bd:XB:=(bS (zA 3 (fO (fx (xC (.int 1))))) Lh)
def Li:XB:=(b1 (zR (eO 0 "put" [(aq [jC,(gK (xV 3)),(xV 2)])])))
def Lj:XB:=(b1 (zR (aE "array_type" [(xV 0),(bM (au (.n 3) (xC (.int 0))) (xC (.int 0))),(xV 2)])))
def Ll:XB:=(b1 (zI (tR (rA (tC (aw .Eq (cF (sP (.n 3))) (xC (.int 1)))) (r1 .And (tC (aw .Eq (bM (au (.n 3) (xC (.int 0))) (xC (.int 1))) dC))))) Lj bN))
def Lm:XB:=(bS (zA 3 (fO (aE "one_rest" [(xV 0),(aE "needed_to_last" [(xV 0),(xV 3)]),(xV 4)]))) Ll)
def Ln:XB:=(bS (zA 4 (fO (aE "last_mark" [(xV 3),(aq [dC,jA])]))) Lm)
def Lo:XB:=(bS (zI (tC (aw .Lt (aE "last_mark" [(xV 3),(aq [dN])]) (xC (.int 0)))) Ln bN) Li)
def Be:XB:=(bS (zC 3 (m1 5 2 (xV 1) (kT [5,6]) iN (aq [(xV 5),(xV 6)]))) Lo)
def Lp:XB:=(b1 (zR (eO 0 "put" [(aq [A1,(xV 4)])])))
def Lq:XB:=(bS (zE (cN (.a 0 "names") (xV 1))) Lp)
def Lr:XB:=(bS (zE (cN (.a 0 "defaults") (xV 3))) Lq)
def Ls:XB:=(bS (zE (cN (.a 0 "bounds") (xV 2))) Lr)
def Bf:XB:=(bS (zA 4 (fO (cF (sP (.a 0 "bounds"))))) Ls)
def Lu:XB:=(bS (zI (tC (aw .Eq (au (.n 2) (xC (.int 0))) kw)) (b1 (zR (au (.n 2) (xC (.int 1))))) bN) (b1 (zR (aq [(xV 1)]))))
def Lw:XB:=(bS (zA 2 (fO (au (.a 0 "rows") (xV 1)))) Lu)
def Bg:XB:=(bS (zI (tC (aw .Eq (xV 1) qS)) (b1 (zR (aq []))) bN) Lw)
def Lx:XB:=(bS (zI (tC (aw .Eq (xV 1) KI)) (b1 zX) bN) (b1 (zR (fx (xC (.int 1))))))
def Ly:XB:=(bS (zI (tC (aw .Eq (xV 1) A0)) (b1 (zR KD)) bN) Lx)
def Lz:XB:=(bS (zI (tR (rO (tC (aw .Eq (xV 1) A5)) (r1 .Or (tC (aw .Eq (xV 1) uC))))) (b1 (zR oM)) bN) Ly)
def Bh:XB:=(bS (zA 1 (fO (au (.n 0) (xC (.int 0))))) Lz)
def LA:XB:=(bS (zI (tR (rA (tC (d8 (au (.n 2) (xC (.int 0))) (dB Kx))) (r1 .And (tC (aw .Eq (au (.n 2) (fx (xC (.int 1)))) (xC (.int 1))))))) (b1 zX) bN) (b1 (zR (fx (xC (.int 1))))))
def Bi:XB:=(bS (zA 2 (fO (au (.a 0 "rows") (xV 1)))) LA)
def LB:XB:=(b1 (m3 (.n 0) AZ (xC (.int 1))))
def LC:XB:=(bS (m3 (.n 0) AX (xC (.int 1))) LB)
def Bj:XB:=(b1 (zI (tR (rA (tR (rO (tC (d8 AX (sP (.n 0)))) (r1 .Or (tC (d8 Kv (sP (.n 0))))))) (r1 .And (tR (rO (tC (d8 AZ (sP (.n 0)))) (r1 .Or (tC (d8 Kw (sP (.n 0)))))))))) LC bN))
def LD:XB:=(b1 (zR (xB (qP (aE "whole_of_row" [(au (.a 0 "rows") (xV 2))]) (sP (.n 1))))))
def Bk:XB:=(bS (zI (tC (d8 (aE "regular_twin" [(xV 0),(xV 2)]) (sP (.n 1)))) (b1 (zR (xC (.bool false)))) bN) LD)
def LF:XB:=(b1 (zI (tC (d8 (xV 1) (sP (.n 0)))) (b1 (zR (xV 1))) bN))
def Bl:XB:=(bS (zF (kN 1) (aq [lI,uA,ku]) LF) (b1 (zR (fx (xC (.int 1))))))
def LG:XB:=(b1 (zR (eO 0 "put" [(aq [kw,(gK (xV 6))])])))
def LH:XB:=(bS (zI (tC (aw .Gt (cF (sP (.n 6))) Ky)) (b1 zX) bN) LG)
def LI:XB:=(bS (zI (tC (aw .Eq (cF (sP (.n 6))) (xC (.int 1)))) (b1 (zR (au (.n 6) (xC (.int 0))))) bN) LH)
def LJ:XB:=(bS (zI (tN (tS (sP (.n 6)))) (b1 (zR qS)) bN) LI)
def LK:XB:=(bS (zC 6 (m1 7 1 (mX (xV 2)) (kN 7) (iT (tS (dB (aE "stays_beside" [(xV 0),(xV 2),(xV 7)])))) (xV 7))) LJ)
def LL:XB:=(bS (zE (aE "join_bools" [(xV 2)])) LK)
def LM:XB:=(bS (zI (tC (aw .GtE (xV 5) (xC (.int 0)))) (b1 (zR (xV 5))) bN) LL)
def LN:XB:=(bS (zA 5 (fO (aE "top_of" [(xV 2)]))) LM)
def LO:XB:=(b1 (zF (kN 4) (aE "parts_of" [(xV 0),(xV 3)]) (b1 (m3 (.n 2) (xV 4) (xC (.int 1))))))
def LP:XB:=(bS (zF (kN 3) (xV 1) LO) LN)
def Bm:XB:=(bS (zA 2 mY) LP)
def Bn:XB:=(b1 (zR (aE "union" [(xV 0),(aq [(xV 1),qT])])))
def Bo:XB:=(b1 (zR (jx (tC (aw .Eq (xV 0) (aq []))) (cc []) (cc [(au (.n 0) (xC (.int 0)))]))))
def LQ:XB:=(b1 (zE (cN (.n 1) (bM (au (.n 0) (xC (.int 4))) (xC (.int 1))))))
def LS:XB:=(bS (zI (tC (aw .NotEq (au (.n 0) (xC (.int 4))) (aq []))) LQ bN) (b1 (zR (xV 1))))
def LT:XB:=(bS (zE (cN (.n 1) (au (.n 0) (xC (.int 3))))) LS)
def Bp:XB:=(bS (zC 1 (m1 2 1 (au (.n 0) (xC (.int 2))) (kN 2) iN (au (.n 2) (xC (.int 1))))) LT)
def LU:XB:=(b1 (zR (aK .Add (aK .Add (xV 1) (aE "index_kids" [(au (.n 0) (xC (.int 4)))])) (aE "index_kids" [(au (.n 0) (xC (.int 5)))]))))
def LV:XB:=(bS (zF (kN 2) (aK .Add (au (.n 0) (xC (.int 2))) (au (.n 0) (xC (.int 3)))) (b1 (zE (cN (.n 1) (xV 2))))) LU)
def Bq:XB:=(bS (zC 1 (m1 3 1 (au (.n 0) (xC (.int 1))) (kN 3) iN (au (.n 3) (xC (.int 1))))) LV)
def LW:XB:=(b1 (zR (aE "sig_kids" [(xV 0)])))
def LX:XB:=(bS (zI (tC (aw .Eq (xV 1) A3)) LW bN) (b1 (zR (cc []))))
def LY:XB:=(b1 (zR (dM (m1 4 1 (au (.n 0) (xC (.int 1))) (kN 4) iN (au (.n 4) (xC (.int 0)))))))
def LZ:XB:=(bS (zI (tC (aw .Eq (xV 1) jC)) LY bN) LX)
def L2:XB:=(b1 (zR (dM (m1 4 1 (au (.n 0) (xC (.int 2))) (kN 4) iN (xV 4)))))
def L3:XB:=(bS (zI (tR (rO (tC (aw .Eq (xV 1) KL)) (rO (tC (aw .Eq (xV 1) KG)) (r1 .Or (tC (aw .Eq (xV 1) uC)))))) L2 bN) LZ)
def L4:XB:=(b1 (zR (aE "object_kids" [(xV 0)])))
def L5:XB:=(bS (zI (tC (aw .Eq (xV 1) uB)) L4 bN) L3)
def L6:XB:=(b1 (zR (dM (m1 4 1 (au (.n 0) (xC (.int 1))) (kN 4) iN (xV 4)))))
def L7:XB:=(bS (zI (tR (rO (tC (aw .Eq (xV 1) kw)) (r1 .Or (tC (aw .Eq (xV 1) oO))))) L6 bN) L5)
def L8:XB:=(b1 (zR (dM (m1 4 1 (g6 (xV 0) (pS (xV 2)) (pS (xV 3))) (kN 4) iN (xV 4)))))
def L9:XB:=(bS (zT [2,3] (bM AY (xV 1))) L8)
def Ma:XB:=(bS (zI (tC (d8 (xV 1) (dB AY))) L9 bN) L7)
def Bt:XB:=(bS (zA 1 (fO (au (.n 0) (xC (.int 0))))) Ma)
def Mb:XB:=(b1 (zR (aq [(au (.n 0) (xC (.int 1)))])))
def Mc:XB:=(bS (zI (tC (aw .Eq (au (.n 0) (xC (.int 0))) KK)) Mb bN) (b1 (zR (aq []))))
def Md:XB:=(bS (zI (tC (aw .Eq (au (.n 0) (xC (.int 0))) KH)) (b1 (zR (au (.n 0) (xC (.int 5))))) bN) Mc)
def Bu:XB:=(bS (zI (tC (aw .Eq (au (.n 0) (xC (.int 0))) A3)) (b1 (zR (au (.n 0) (xC (.int 1))))) bN) Md)
def Me:XB:=(b1 (zE (cN (.n 2) (au (.a 0 "defaults") (xV 3)))))
def Mf:XB:=(bS (zE (cN (.n 2) (au (.a 0 "bounds") (xV 3)))) Me)
def Mg:XB:=(bS (zF (kN 3) (aE "row_binds" [(xV 1)]) Mf) (b1 (zR (xV 2))))
def Bv:XB:=(bS (zA 2 (fO (aE "row_kids" [(xV 1)]))) Mg)
def Mh:XB:=(b1 (zE (AT (.n 3) (aE "inner_kids" [(xV 0),(au (.a 0 "rows") (xV 4))]))))
def Mi:XB:=(bS (m3 (.n 2) (xV 4) (xC (.int 1))) Mh)
def Mj:XB:=(b1 (zI (tR (rA (tC (aw .GtE (xV 4) (xC (.int 0)))) (r1 .And (tC (qP (xV 4) (sP (.n 2))))))) Mi bN))
def Mk:XB:=(bS (zA 4 (fO (AU (.n 3)))) Mj)
def Ml:XB:=(bS (zW (tS (sP (.n 3))) Mk) (b1 (zR (mX (xV 2)))))
def Bw:XB:=(bS (zA 2 mY) (bS (zA 3 (de [(xV 1)])) Ml))
def Mm:XB:=(b1 (zR (gK (mX (dM (m1 7 1 (xV 2) (kN 7) (iT (tC (aw .Eq (bM (au (.a 0 "rows") (xV 7)) (xC (.int 0))) A1))) (bM (au (.a 0 "rows") (xV 7)) (xC (.int 1)))))))))
def Mn:XB:=(bS (zI (tN (tS (dB (AO (dM (m1 7 1 (xV 2) (kN 7) iN (aE "row_binds" [(au (.a 0 "rows") (xV 7))]))))))) Mm bN) bX)
def Mo:XB:=(bS (zA 2 (fO (aE "reached" [(xV 0),(xV 1)]))) Mn)
def Bx:XB:=(bS (zI (tC (aw .Lt (xV 1) (xC (.int 0)))) (b1 (zR (aq []))) bN) Mo)
def By:XB:=(b1 (zR (xB (aw .Gt (cF (dB (aE "free_params" [(xV 0),(xV 1)]))) (xC (.int 0))))))
def Mp:XB:=(b1 (zI (tS (dB (aE "is_open" [(xV 0),(xV 5)]))) (b1 (zR (xC (.bool true)))) bN))
def Mq:XB:=(b1 (zF (kN 5) (au (.n 2) (xC (.int 2))) Mp))
def Mr:XB:=(bS (zI (tC (aw .Eq (au (.n 2) (xC (.int 0))) uC)) Mq bN) (b1 (zR (xC (.bool false)))))
def Ms:XB:=(b1 (zI (tC (aw .Eq (au (.n 4) (xC (.int 1))) dN)) (b1 (zR (xC (.bool true)))) bN))
def Mt:XB:=(b1 (zF (kN 4) (au (.n 2) (xC (.int 1))) Ms))
def Mu:XB:=(bS (zI (tC (aw .Eq (au (.n 2) (xC (.int 0))) jC)) Mt bN) Mr)
def Mv:XB:=(b1 (zI (tS (dB (aE "is_open" [(xV 0),(xV 3)]))) (b1 (zR (xC (.bool true)))) bN))
def Mw:XB:=(b1 (zF (kN 3) (au (.n 2) (xC (.int 1))) Mv))
def Mx:XB:=(bS (zI (tR (rO (tC (aw .Eq (au (.n 2) (xC (.int 0))) kw)) (r1 .Or (tC (aw .Eq (au (.n 2) (xC (.int 0))) oO))))) Mw bN) Mu)
def My:XB:=(bS (zI (tC (d8 (au (.n 2) (xC (.int 0))) (dB KE))) (b1 (zR (xC (.bool true)))) bN) Mx)
def Bz:XB:=(bS (zA 2 (fO (au (.a 0 "rows") (xV 1)))) My)
def Mz:XB:=(b1 (zI (tC (aw .Eq (au (.n 1) (xC (.int 1))) dN)) (b1 (zR (xC (.bool true)))) bN))
def BA:XB:=(bS (zF (kN 1) (xV 0) Mz) (b1 (zR (xC (.bool false)))))
def MA:XB:=(bS (zI (tR (rA (tS (dB (aE "has_params" [(uy (.a 0 "tab")),(xV 1)]))) (r1 .And (tC (qP (bM (au (.b 0 "tab" "rows") (xV 2)) (xC (.int 0))) (dB (aq [jB,jC]))))))) (b1 (zR (xV 1))) bN) (b1 (zR (xV 2))))
def BB:XB:=(bS (zA 2 (fO (eO 0 "force" [(xV 1)]))) MA)
def MB:XB:=(b1 (zI (tR (rA (tC (aw .Eq (bM (au (.n 1) (xV 2)) (xC (.int 1))) dN)) (r1 .And (tC (aw .Eq (bM (au (.a 0 "rows") (bM (au (.n 1) (xV 2)) (xC (.int 0)))) (xC (.int 0))) kw))))) (b1 (zR (xV 2))) bN))
def BC:XB:=(bS (zF (kN 2) (jy (cF (sP (.n 1)))) MB) (b1 (zR (fx (xC (.int 1))))))
def MC:XB:=(b1 (zI (tC (d8 (bM (au (.a 0 "rows") (xV 3)) (xC (.int 0))) (dB (aq [jB,jC])))) (b1 (zR (xV 3))) bN))
def MD:XB:=(b1 (zF (kN 3) (au (.n 2) (xC (.int 1))) MC))
def ME:XB:=(bS (zI (tR (rA (tC (aw .Eq (au (.n 2) (xC (.int 0))) oO)) (r1 .And (tN (tS (dB (aE "is_open" [(xV 0),(xV 1)]))))))) MD bN) (b1 (zR (xV 1))))
def BD:XB:=(bS (zA 2 (fO (au (.a 0 "rows") (xV 1)))) ME)
def MF:XB:=(b1 (zR (cc [(aq [ku,dC])])))
def MG:XB:=(bS (zI (tS (dB (aE "is_open" [(xV 0),(au (.n 1) (xC (.int 0)))]))) (b1 (zR (cc [(xV 1)]))) bN) MF)
def MH:XB:=(b1 (zR (cc [(aq [lI,dC])])))
def MI:XB:=(bS (zI (tC (aw .Eq (au (.n 1) (xC (.int 0))) lI)) MH bN) MG)
def MJ:XB:=(b1 (zR (dM (m1 3 1 (au (.n 2) (xC (.int 1))) (kN 3) iN (xV 3)))))
def MK:XB:=(bS (zI (tC (aw .Eq (au (.n 2) (xC (.int 0))) jC)) MJ bN) MI)
def ML:XB:=(b1 (zR (cc [(aq [(au (.n 2) (xC (.int 1))),dC])])))
def MN:XB:=(bS (zI (tC (aw .Eq (au (.n 2) (xC (.int 0))) jB)) ML bN) MK)
def BE:XB:=(bS (zA 2 (fO (au (.a 0 "rows") (aE "kindsplice_list_part" [(xV 0),(au (.n 1) (xC (.int 0)))])))) MN)
def MO:XB:=(b1 (zR (aE "union" [(xV 4),(xV 5)])))
def MP:XB:=(b1 (zE (cN (.n 5) (aE "splice" [(xV 0),(xV 7),(xV 3)]))))
def MQ:XB:=(bS (zA 7 (fO (aK .Add (aK .Add (g6 (xV 1) pN (pS (xV 2))) (cc [(aq [(xV 6),dN])])) (g6 (xV 1) (pS (aK .Add (xV 2) (xC (.int 1)))) pN)))) MP)
def MR:XB:=(bS (zF (kN 6) (bM (au (.a 4 "rows") (bM (au (.n 1) (xV 2)) (xC (.int 0)))) (xC (.int 1))) MQ) MO)
def BF:XB:=(bS (zA 4 (fO (uy (.a 0 "tab")))) (bS (zA 5 (de [])) MR))
def MS:XB:=(b1 (zR (aE "tuple_type" [(xV 3),(gK (xV 7)),(xV 2)])))
def MT:XB:=(b1 (zI (tC (aw .Gt (cF (sP (.n 7))) Kz)) (b1 zX) bN))
def MU:XB:=(b1 (zE (AT (.n 7) (aE "cut_open" [(xV 3),(xV 5)]))))
def MV:XB:=(bS (zI (tC (aw .Eq (au (.n 5) (xC (.int 1))) dN)) MU (b1 (zE (cN (.n 7) (xV 5))))) MT)
def MW:XB:=(bS (zF (kN 5) (xV 4) MV) MS)
def MX:XB:=(b1 (zR (aE "splice_union" [(xV 0),(xV 4),(xV 6),(xV 2)])))
def MY:XB:=(bS (zI (tC (aw .GtE (xV 6) (xC (.int 0)))) MX bN) (bS (zA 7 (de [])) MW))
def MZ:XB:=(bS (zA 6 (fO (aE "union_places" [(xV 3),(xV 4)]))) MY)
def M0:XB:=(b1 (zI (tR (rO (tC (aw .Eq (au (.n 5) (xC (.int 0))) qS)) (r1 .Or (tC (aw .Eq (au (.n 5) (xC (.int 0))) uA))))) (b1 (zR (au (.n 5) (xC (.int 0))))) bN))
def M1:XB:=(bS (zA 5 (fO (aq [(aE "kindsplice_spread_kind" [(xV 0),(au (.n 5) (xC (.int 0)))]),dN]))) M0)
def M2:XB:=(bS (zI (tC (aw .Eq (au (.n 5) (xC (.int 1))) dN)) M1 bN) (b1 (zE (cN (.n 4) (xV 5)))))
def M3:XB:=(bS (zF (kN 5) (xV 1) M2) MZ)
def BG:XB:=(bS (zA 3 (fO (uy (.a 0 "tab")))) (bS (zA 4 (de [])) M3))
def M4:XB:=(b1 (fV 0 "lib" (fO (xC .none))))
def M5:XB:=(bS (fV 0 "most_deep" (fO KC)) M4)
def M6:XB:=(bS (fV 0 "most_rounds" (fO KB)) M5)
def M7:XB:=(bS (fV 0 "deep" (fO (xC (.int 0)))) M6)
def BH:XB:=(bS (fV 0 "tab" (fO (xV 1))) M7)
def BI:XB:=(b1 (zR (xV 1)))
def M8:XB:=(bS (zI (tC (d8 ku (sP (.n 1)))) (b1 (zR (aq [ku]))) bN) (b1 (zR (gK (AP (xV 1))))))
def M9:XB:=(bS (zI (tC (d8 lI (sP (.n 1)))) (b1 (zR (aq [lI]))) bN) M8)
def Na:XB:=(b1 (zA 1 (fO (aK .Add (xV 1) (ux (xV 2))))))
def Nb:XB:=(bS (zF (kN 2) (xV 0) Na) M9)
def BJ:XB:=(bS (zA 1 (de [])) Nb)
def Nc:XB:=(b1 (zR (gK (aK .Add (xV 6) (xV 4)))))
def Nd:XB:=(b1 (zE (cN (.n 6) (aq [(aE "_law_join" [(xV 8)]),dC]))))
def Nf:XB:=(bS (zI (tC (d8 jA (dB (dM (m1 9 2 (xV 3) (kT [9,10]) iN (xV 10)))))) (b1 (zE (cN (.n 8) (aq [qT])))) bN) Nd)
def Ng:XB:=(bS (zC 8 (m1 9 2 (xV 3) (kT [9,10]) iN (xV 9))) Nf)
def Nh:XB:=(bS (zI (tC (aw .Gt (cF (sP (.n 3))) (xC (.int 0)))) Ng bN) Nc)
def Ni:XB:=(b1 (zE (cN (.n 6) (aq [(aE "_law_join" [(cc [(xV 1),(aq [qT])])]),fW]))))
def Nj:XB:=(b1 (zE (cN (.n 6) (aq [(xV 1),(xV 2)]))))
def Nk:XB:=(b1 (zI (tR (rA (tC (aw .Eq (xV 2) jA)) (r1 .And (tC (d8 fW (dB (dM (m1 9 1 (aK .Add (aK .Add (g6 (xV 5) (pS (aK .Add (xV 7) (xC (.int 1)))) pN) (xV 3)) (xV 4)) (kN 9) iN (au (.n 9) (xC (.int 1))))))))))) Ni Nj))
def Nl:XB:=(bS (zT [1,2] (au (.n 5) (xV 7))) Nk)
def Nm:XB:=(bS (zF (kN 7) (jy (cF (sP (.n 5)))) Nl) Nh)
def Nn:XB:=(bS (zW (tR (rA (tC (aw .Gt (cF (sP (.n 3))) (xC (.int 0)))) (r1 .And (tC (aw .NotEq (bM (au (.n 3) (xC (.int 0))) (xC (.int 1))) dC))))) (b1 (zE (cN (.n 5) (Kr (.n 3)))))) (bS (zA 6 (de [])) Nm))
def No:XB:=(b1 (zA 4 (fO (aK .Add (cc [(AU (.n 3))]) (xV 4)))))
def Np:XB:=(bS (zW (tR (rA (tC (aw .Gt (cF (sP (.n 3))) (xC (.int 0)))) (r1 .And (tC (aw .Eq (bM (au (.n 3) (fx (xC (.int 1)))) (xC (.int 1))) fW))))) No) (bS (zA 5 (de [])) Nn))
def Nq:XB:=(bS (zA 3 (Ks (xV 0))) (bS (zA 4 (de [])) Np))
def BK:XB:=(bS (zI (tC (d8 dN (dB (dM (m1 9 2 (xV 0) (kT [9,10]) iN (xV 10)))))) (b1 (zR (gK (xV 0)))) bN) Nq)
def Nr:XB:=(b1 (zC 1 (m2 3 2 (xV 1) (kN 3) (xV 2) (kN 4) (aK .Add (xV 3) (xV 4)))))
def Nt:XB:=(bS (zF (kN 2) (xV 0) Nr) (b1 (zR (xV 1))))
def BL:XB:=(bS (zA 1 (de [(cc [])])) Nt)
def BM:XB:=(b1 (zR (AP (dM (m1 1 1 (aE "_law_choices" [(xV 0)]) (kN 1) iN (aE "_law_settled" [(xV 1)]))))))
def BN:XB:=(b1 (zR (jx (tC (aw .Eq (bM (au (.a 0 "rows") (xV 1)) (xC (.int 0))) kw)) (gK (bM (au (.a 0 "rows") (xV 1)) (xC (.int 1)))) (aq [(xV 1)]))))
def BO:XB:=(b1 (zR (dM (m1 2 1 (xV 1) (kN 2) iN (aq [(aE "_law_atoms" [(xV 0),(au (.n 2) (xC (.int 0)))]),(au (.n 2) (xC (.int 1)))])))))
def Nu:XB:=(b1 (zI (tR (rO (tC (qP (au (.n 5) (xC (.int 0))) (dB (aq [jB,jC])))) (r1 .Or (tC (aw .NotEq (au (.n 5) (xC (.int 2))) (xV 2)))))) (b1 (zR (cc []))) bN))
def Nv:XB:=(b1 (zE (cN (.n 3) (aq [(aq [(aE "_law_atoms" [(xV 0),(au (.n 5) (xC (.int 1)))]),dC])]))))
def Nw:XB:=(b1 (zE (cN (.n 3) (gK (aE "_law_elems" [(xV 0),(au (.n 5) (xC (.int 1)))])))))
def Ny:XB:=(b1 (zI (tC (aw .Eq (au (.n 5) (xC (.int 0))) jC)) Nw bN))
def Nz:XB:=(bS (zI (tC (aw .Eq (au (.n 5) (xC (.int 0))) jB)) Nv Ny) Nu)
def NA:XB:=(bS (zA 5 (fO (au (.a 0 "rows") (xV 4)))) Nz)
def NB:XB:=(bS (zF (kN 4) (aE "_law_atoms" [(xV 0),(xV 1)]) NA) (b1 (zR (mX (xV 3)))))
def BP:XB:=(bS (zA 3 (de [])) NB)
def NC:XB:=(b1 (zE (cN (.n 5) (aq [(jx (tC (aw .Eq (cF (sP (.n 6))) (xC (.int 1)))) (au (.n 6) (xC (.int 0))) (eO 0 "put" [(aq [kw,(xV 6)])])),(xV 6)]))))
def ND:XB:=(bS (zA 6 (fO (gK (mX (xV 6))))) NC)
def NE:XB:=(bS (zF (kN 6) (aq [(aq [(xV 1)]),(aq [(xV 2)]),(aq [(xV 3)]),(aq [(xV 1),(xV 3)]),(aq [qT,(xV 2)]),(aq [(xV 4)])]) ND) (b1 (zR (xV 5))))
def NF:XB:=(bS (zA 4 (fO (aE "new_param" [(xV 0),(xC (.str "T")),(fx (xC (.int 1))),(fx (xC (.int 1)))]))) (bS (zA 5 (de [])) NE))
def NG:XB:=(bS (zA 3 (fO (aE "num_type" [(xV 0),(xC (.int 1))]))) NF)
def NH:XB:=(bS (zA 2 (fO (aE "str_type" [(xV 0),(xC (.str "b"))]))) NG)
def BQ:XB:=(bS (zA 1 (fO (aE "str_type" [(xV 0),(xC (.str "a"))]))) NH)
def NI:XB:=(b1 (zR (aq [(eO 1 "put" [(aq [jC,(gK (xV 5)),(xV 10)])]),(cc [(xV 6)])])))
def NJ:XB:=(b1 (zR (aq [(eO 1 "put" [(aq [jB,(bM (au (.n 5) (xC (.int 0))) (xC (.int 0))),(xV 10)])]),(cc [(xV 6)])])))
def NK:XB:=(bS (zI (tC (aw .Eq (xV 4) (aq [dC]))) NJ bN) NI)
def NL:XB:=(bS (zA 10 (fO (aK .Mod (aK .FloorDiv (xV 0) (xC (.int 30))) (xC (.int 2))))) NK)
def NM:XB:=(b1 (zE (cN (.n 6) (aq [(xV 9),(au (.n 4) (xV 7))]))))
def NN:XB:=(bS (zE (cN (.n 5) (aq [(xV 8),(au (.n 4) (xV 7))]))) NM)
def NO:XB:=(b1 (zT [8,9] (au (.n 2) (xC (.int 5)))))
def NP:XB:=(bS (zI (tC (aw .Eq (au (.n 4) (xV 7)) dN)) NO bN) NN)
def NQ:XB:=(bS (zT [8,9] (au (.n 2) (aK .Mod (aK .Add (xV 0) (aK .Mult (xV 7) (aK .Add (xC (.int 1)) (aK .Mod (aK .FloorDiv (xV 0) (xC (.int 6))) (xC (.int 5)))))) (xC (.int 6))))) NP)
def NR:XB:=(bS (zF (kN 7) (jy (cF (sP (.n 4)))) NQ) NL)
def NS:XB:=(bS (zA 5 (de [])) (bS (zA 6 (de [])) NR))
def NU:XB:=(bS (zA 0 (fO (aK .FloorDiv (xV 0) (xC (.int 11))))) NS)
def NV:XB:=(bS (zA 4 (fO (au (.n 3) (aK .Mod (xV 0) (xC (.int 11)))))) NU)
def BR:XB:=(bS (zA 3 (fO (aq [(aq []),(aq [fW]),(aq [jA]),(aq [fW,jA]),(aq [fW,dC]),(aq [dC,fW]),(aq [jA,dC]),(aq [fW,dC,fW]),(aq [fW,fW]),(aq [dN,fW]),(aq [dC])]))) NV)
def NW:XB:=(b1 (zR (aq [(eO 1 "put" [(aq [kw,(gK (mX (dM (m1 10 1 (xV 4) (kN 10) iN (xV 10)))))])]),(xV 9)])))
def NX:XB:=(b1 (zA 9 (fO (aK .Add (xV 9) (au (.n 4) (xV 7))))))
def NY:XB:=(bS (zF (kN 7) (xV 4) NX) NW)
def NZ:XB:=(b1 (zR (aE "_law_list" [(aK .FloorDiv (xV 0) (xC (.int 2))),(xV 1),(xV 2)])))
def N0:XB:=(bS (zI (tC (aw .Eq (cF (sP (.n 4))) (xC (.int 1)))) NZ bN) (bS (zA 9 (de [])) NY))
def N2:XB:=(b1 (AW 7 8 (bM (au (.n 2) (xC (.int 5))) (xC (.int 0))) (cc [(cc [(aq [(bM (au (.n 2) (xC (.int 5))) (xC (.int 1))),dN])])])))
def N3:XB:=(b1 (AW 7 8 (xV 3) (cc [(cc [(aq [(aq [ku]),dC])])])))
def N4:XB:=(b1 (zT [7,8] (aE "_law_list" [(aK .Add (xV 6) (xV 5)),(xV 1),(xV 2)])))
def N5:XB:=(b1 (zI (tR (rA (tC (aw .Gt (xV 5) (xC (.int 0)))) (r1 .And (tC (aw .Eq (aK .Mod (xV 6) (xC (.int 5))) (xC (.int 4))))))) N3 N4))
def N6:XB:=(bS (zI (tR (rA (tC (aw .Gt (xV 5) (xC (.int 0)))) (r1 .And (tC (aw .Eq (aK .Mod (xV 6) (xC (.int 5))) (xC (.int 3))))))) N2 N5) (b1 (m3 (.n 4) (xV 7) (xV 8))))
def N7:XB:=(bS (zA 6 (fO (aK .FloorDiv (aK .FloorDiv (xV 0) (xC (.int 2))) (bM (aq [(xC (.int 1)),(xC (.int 7)),(xC (.int 5))]) (xV 5))))) N6)
def N8:XB:=(bS (zF (kN 5) (jy (aK .Add (xC (.int 2)) (aK .Mod (xV 0) (xC (.int 2))))) N7) N0)
def BS:XB:=(bS (zA 4 mY) N8)
def N9:XB:=(b1 (zR (aq [(xV 7),(xV 5),(xV 4)])))
def Oa:XB:=(b1 (zR (aq [(xV 7),(cc [(cc [(aq [(aq [(xV 7)]),dN])])]),(xV 7)])))
def Oc:XB:=(bS (zI (tR (rO (tC (aw .Eq (aK .Mod (xV 0) (xC (.int 4))) (xC (.int 2)))) (r1 .Or (tC (d8 dN (dB (dM (m1 9 2 (au (.n 5) (xC (.int 0))) (kT [9,10]) iN (xV 10))))))))) Oa bN) N9)
def Od:XB:=(bS (zA 7 (fO (eO 1 "put" [(aq [oO,(xV 8)])]))) Oc)
def Oe:XB:=(bS (zA 8 (fO (bM (aq [(aq [(xV 4),(xV 3)]),(aq [(xV 3),(xV 4)]),(aq [(xV 4),(bM (au (.n 2) (xC (.int 5))) (xC (.int 0)))])]) (aK .Mod (xV 0) (xC (.int 4)))))) Od)
def Of:XB:=(b1 (zR (aq [(xV 7),(cc [(cc [(aq [(aq [ku]),dC])])]),(xV 7)])))
def Og:XB:=(bS (zA 7 (fO (eO 1 "put" [(aq [oO,(aq [(xV 3),(xV 6)])])]))) Of)
def Oh:XB:=(bS (zA 6 (fO (eO 1 "put" [(aq [uB,(aq [(aq [(xC (.str "other")),oM,(xC (.int 0)),(xC (.int 0))])]),(aq []),(aq []),(aq []),(aq []),(xC (.int 0))])]))) Og)
def Oi:XB:=(bS (zI (tC (aw .Eq (aK .Mod (xV 0) (xC (.int 4))) (xC (.int 3)))) Oh bN) Oe)
def BU:XB:=(bS (zT [4,5] (aE "_law_list" [(aK .FloorDiv (xV 0) (xC (.int 4))),(xV 1),(xV 2)])) Oi)
def Oj:XB:=(b1 (zR (aq [(bM (aq [qS,uA]) (aK .Sub (aK .Mod (xV 0) (xC (.int 9))) (xC (.int 7)))),(cc [])])))
def Ol:XB:=(b1 (zR (aq [(xV 5),(cc [(cc [(aq [(aq [(xV 5)]),dN])])])])))
def Om:XB:=(bS (zA 5 (fO (bM (aq [(bM (au (.n 2) (xC (.int 5))) (xC (.int 0))),(xV 4),(eO 1 "put" [(aq [KJ,(bM (au (.n 2) (xC (.int 5))) (xC (.int 0)))])])]) (aK .Sub (aK .Mod (xV 0) (xC (.int 9))) (xC (.int 4)))))) Ol)
def On:XB:=(bS (zI (tC (aw .Lt (aK .Mod (xV 0) (xC (.int 9))) (xC (.int 7)))) Om bN) Oj)
def Oo:XB:=(b1 (zR (aq [(bM (aq [ku,oM,(xV 3)]) (aK .Sub (aK .Mod (xV 0) (xC (.int 9))) (xC (.int 1)))),(cc [(cc [(aq [(aq [ku]),dC])])])])))
def Op:XB:=(bS (zI (tC (aw .Lt (aK .Mod (xV 0) (xC (.int 9))) (xC (.int 4)))) Oo bN) On)
def Oq:XB:=(b1 (zR (aq [lI,(cc [(cc [(aq [(aq [lI]),dC])])])])))
def BV:XB:=(bS (zI (tC (aw .Eq (aK .Mod (xV 0) (xC (.int 9))) (xC (.int 0)))) Oq bN) Op)
def Os:XB:=(b1 (zR (aq [(xV 7),dN,(xV 8),(xV 7)])))
def Ot:XB:=(b1 (zT [7,8] (aE "_law_list" [(xV 0),(xV 1),(xV 2)])))
def Ou:XB:=(b1 (zR (aq [(xV 7),dN,(xV 8),(xV 9)])))
def Ov:XB:=(bS (zT [7,8,9] (aE "_law_met" [(xV 0),(xV 1),(xV 2),(xV 3)])) Ou)
def Ox:XB:=(b1 (zT [7,8] (aE "_law_joined" [(xV 0),(xV 1),(xV 2),(xV 3)])))
def Oy:XB:=(b1 (zT [7,8] (aE "_law_single" [(xV 0),(xV 1),(xV 2),(xV 3),(xV 4)])))
def Oz:XB:=(b1 (zI (tC (aw .Lt (xV 5) (xC (.int 8)))) Ox Oy))
def OA:XB:=(b1 (zI (tC (aw .Eq (xV 5) (xC (.int 5)))) Ov Oz))
def OB:XB:=(bS (zI (tC (aw .Lt (xV 5) (xC (.int 5)))) Ot OA) Os)
def OC:XB:=(b1 (zR (aq [(bM (au (.n 2) (aK .Mod (xV 0) (xC (.int 6)))) (xC (.int 0))),(xV 6),(cc [(cc [(aq [(bM (au (.n 2) (aK .Mod (xV 0) (xC (.int 6)))) (xC (.int 1))),(xV 6)])])]),(bM (au (.n 2) (aK .Mod (xV 0) (xC (.int 6)))) (xC (.int 0)))])))
def OD:XB:=(bS (zA 6 (fO (bM (aq [fW,jA,dC]) (xV 5)))) OC)
def OE:XB:=(bS (zI (tC (aw .Lt (xV 5) (xC (.int 3)))) OD bN) OB)
def OF:XB:=(bS (zA 0 (fO (aK .FloorDiv (xV 0) (xC (.int 9))))) OE)
def BW:XB:=(bS (zA 5 (fO (aK .Mod (xV 0) (xC (.int 9))))) OF)
def OG:XB:=(b1 (zI (tC (aw .Eq (cF (sP (.n 3))) (xC (.int 0)))) (b1 (zR (xV 1))) bN))
def BX:XB:=(bS (zF (kT [1,2,3,4]) (xV 0) OG) (b1 (zR (fx (xC (.int 1))))))
def OH:XB:=(b1 (zR (jx (tC (aw .Eq (aE "_law_seen" [(xV 0),(xV 4),(xV 3)]) (aE "_law_forms" [(dM (m1 6 1 (xV 2) (kN 6) iN (au (.n 6) (xC (.int 2)))))]))) (xV 4) (fx (xC (.int 1))))))
def OI:XB:=(b1 (zR (jx (tC (aw .Eq (xV 4) (xV 5))) (xV 4) (fx (xC (.int 1))))))
def OJ:XB:=(bS (zI (tC (aw .GtE (xV 5) (xC (.int 0)))) OI bN) OH)
def OK:XB:=(bS (zA 5 (fO (aE "_law_lost" [(xV 2)]))) OJ)
def BY:XB:=(bS (zA 4 (fO (aE "splice" [(xV 1),(dM (m1 6 1 (xV 2) (kN 6) iN (aq [(au (.n 6) (xC (.int 0))),(au (.n 6) (xC (.int 1)))]))),(xV 3)]))) OK)
def OL:XB:=(b1 (zR (AN (xB (aw .Eq (aE "_law_seen" [(xV 0),(xV 8),(xV 3)]) (aE "_law_forms" [(xV 10)]))) (Ko (xB (aw .Eq (xV 8) (xV 5))) (Kn (xV 9))))))
def OM:XB:=(b1 (zE (cN (.n 10) (dM (m1 13 1 (aE "_law_forms" [(dM (m1 13 1 (xV 11) (kN 13) iN (au (.n 13) (xC (.int 2)))))]) (kN 13) iN (ux (xV 13)))))))
def ON:XB:=(bS (zA 9 (fO (AN (xV 9) (Kp (dM (m1 13 1 (xV 12) (kN 13) iN (xB (aw .Eq (aE "_law_settled" [(xV 13)]) (gK (xV 13)))))))))) OM)
def OO:XB:=(bS (zA 12 (fO (aE "_law_choices" [(dM (m1 13 1 (xV 11) (kN 13) iN (au (.n 13) (xC (.int 2)))))]))) ON)
def OP:XB:=(bS (zF (kN 11) (aq [(g6 (xV 2) pN (pS (xV 4))),(g6 (xV 2) (pS (xV 4)) pN)]) OO) OL)
def OQ:XB:=(bS (zA 9 (fO (xC (.bool true)))) (bS (zA 10 (de [])) OP))
def OR:XB:=(bS (zI (tC (aw .GtE (aE "_law_lost" [(xV 2)]) (xC (.int 0)))) (b1 (zR (xB (aw .Eq (xV 8) (xV 5))))) bN) OQ)
def OS:XB:=(bS (zA 8 (fO (aE "splice" [(xV 1),(cc [(aq [(xV 6),dN]),(aq [(xV 7),dN])]),(xV 3)]))) OR)
def OT:XB:=(bS (zI (tR (rO (tC (aw .Lt (xV 6) (xC (.int 0)))) (r1 .Or (tC (aw .Lt (xV 7) (xC (.int 0))))))) (b1 (zR (xC (.bool false)))) bN) OS)
def OU:XB:=(bS (zA 7 (fO (aE "_law_whole" [(xV 0),(xV 1),(g6 (xV 2) (pS (xV 4)) pN),(xV 3)]))) OT)
def BZ:XB:=(bS (zA 6 (fO (aE "_law_whole" [(xV 0),(xV 1),(g6 (xV 2) pN (pS (xV 4))),(aK .Sub (xC (.int 1)) (xV 3))]))) OU)
def OV:XB:=(b1 (zI (tC (aw .NotEq (aE "splice" [(xV 1),(xV 13),(xV 3)]) (xV 11))) (b1 (zR (xC (.bool false)))) bN))
def OW:XB:=(bS (zA 13 (fO (jx (tC (aw .Eq (au (.n 12) (xC (.int 0))) jB)) (cc [(aq [(au (.n 12) (xC (.int 1))),dC])]) (ux (au (.n 12) (xC (.int 1))))))) OV)
def OX:XB:=(bS (zA 12 (fO (au (.a 0 "rows") (xV 11)))) OW)
def OY:XB:=(bS (zF (kN 11) (aE "_law_atoms" [(xV 0),(xV 4)]) OX) (b1 (zR (xC (.bool true)))))
def OZ:XB:=(bS (zI (tR (rA (tC (aw .Eq (cF (sP (.n 6))) (xC (.int 1)))) (r1 .And (tC (aw .NotEq (aE "splice_union" [(xV 1),(xV 5),(au (.n 6) (xC (.int 0))),(xV 3)]) (xV 4)))))) (b1 (zR (xC (.bool false)))) bN) OY)
def O0:XB:=(bS (zI (tC (aw .GtE (aE "_law_lost" [(xV 2)]) (xC (.int 0)))) (b1 (zR (xC (.bool true)))) bN) OZ)
def O1:XB:=(b1 (zI (tR (rA (tC (aw .Eq (xV 8) dN)) (rA (tC (aw .Eq (cF (sP (.n 9))) (xC (.int 1)))) (r1 .And (tC (aw .NotEq (aE "_law_elems" [(xV 0),(aE "cut_open" [(xV 0),(aq [(xV 7),(xV 8)])])]) (au (.n 9) (xC (.int 0))))))))) (b1 (zR (xC (.bool false)))) bN))
def O2:XB:=(bS (zI (tR (rO (tC (aw .NotEq (aE "kindsplice_list_part" [(xV 0),(xV 7)]) (xV 10))) (r1 .Or (tC (aw .NotEq (aE "kindsplice_spread_kind" [(xV 1),(xV 7)]) (xV 7)))))) (b1 (zR (xC (.bool false)))) bN) O1)
def O3:XB:=(bS (zF (kT [7,8,9,10]) (xV 2) O2) O0)
def O4:XB:=(bS (zI (tC (aw .NotEq (aE "union_places" [(xV 0),(xV 5)]) (jx (tC (aw .Gt (cF (sP (.n 6))) (xC (.int 0)))) (au (.n 6) (xC (.int 0))) (fx (xC (.int 1)))))) (b1 (zR (xC (.bool false)))) bN) O3)
def O5:XB:=(bS (zI (tC (aw .NotEq (aE "has_spread" [(xV 5)]) (AO (dM (m1 14 1 (xV 2) (kN 14) iN (xB (aw .Eq (au (.n 14) (xC (.int 1))) dN))))))) (b1 (zR (xC (.bool false)))) bN) O4)
def O6:XB:=(bS (zC 6 (m1 14 1 (jy (cF (sP (.n 2)))) (kN 14) (iT (tC (aw .Gt (cF (dB (bM (au (.n 2) (xV 14)) (xC (.int 2))))) (xC (.int 1))))) (xV 14))) O5)
def B2:XB:=(bS (zC 5 (m1 14 1 (xV 2) (kN 14) iN (aq [(au (.n 14) (xC (.int 0))),(au (.n 14) (xC (.int 1)))]))) O6)
def O7:XB:=(b1 (zR (aE "_law_parted" [(xV 1),(xV 2),(xV 7),(xV 12),(aK .Mod (aK .FloorDiv (xV 6) (xC (.int 12))) (aK .Add (cF (sP (.n 7))) (xC (.int 1)))),(xV 13)])))
def O8:XB:=(bS (zI (tR (rO (tC (aw .Lt (xV 13) (xC (.int 0)))) (r1 .Or (tN (tS (dB (aE "_law_pieces" [(xV 1),(xV 2),(xV 7),(xV 12),(xV 13)]))))))) (b1 (zR (xC (.bool false)))) bN) O7)
def O9:XB:=(bS (zA 13 (fO (aE "_law_whole" [(xV 1),(xV 2),(xV 7),(xV 12)]))) O8)
def Pa:XB:=(bS (zA 12 (fO (aK .Mod (aK .FloorDiv (xV 6) (xC (.int 6))) (xC (.int 2))))) O9)
def Pb:XB:=(b1 (zI (tC (aw .Gt (cF (dB (bM (au (.n 7) (fx (xC (.int 1)))) (xC (.int 2))))) (xC (.int 1)))) (b1 (Kt 8 (xC (.int 1)))) bN))
def Pc:XB:=(bS (zE (cN (.n 7) (aE "_law_element" [(xV 11),(xV 1),(xV 3),(xV 4),(xV 5)]))) Pb)
def Pd:XB:=(b1 (zA 11 (fO (jx (tC (aw .Eq (xV 8) (xC (.int 1)))) (aK .Sub (xV 11) (aK .Mult (aK .Mod (aK .FloorDiv (xV 11) (xC (.int 9))) (xC (.int 2))) (xC (.int 9)))) (aK .Add (aK .Sub (xV 11) (aK .Mod (xV 11) (xC (.int 9)))) (xC (.int 3)))))))
def Pe:XB:=(bS (zI (tR (rA (tC (aw .Gt (xV 8) (xC (.int 0)))) (r1 .And (tC (d8 (aK .Mod (xV 11) (xC (.int 9))) (dB (aq [(xC (.int 6)),(xC (.int 7))]))))))) Pd bN) Pc)
def Pf:XB:=(bS (zA 11 (fO (aK .Mod (aK .Add (au (.n 0) (aK .Mod (xV 10) (cF (sP (.n 0))))) (aK .Mult (aK .FloorDiv (xV 10) (cF (sP (.n 0)))) (xC (.int 131)))) (xC (.int 10000000))))) Pe)
def Pg:XB:=(bS (zA 10 (fO (aK .Add (xV 9) (xC (.int 1))))) Pf)
def Ph:XB:=(bS (zF (kN 9) (jy (aK .Mod (xV 6) (xC (.int 6)))) Pg) Pa)
def Pi:XB:=(bS (zA 7 (de [])) (bS (zA 8 (fO (xC (.int 0)))) Ph))
def Pj:XB:=(bS (zA 6 (fO (aK .Mod (au (.n 0) (xC (.int 0))) (xC (.int 1000000))))) Pi)
def Pk:XB:=(bS (zA 5 (fO (aE "new_param" [(xV 1),(xC (.str "U")),(eO 1 "put" [(aq [jB,oM,(xC (.int 0))])]),(fx (xC (.int 1)))]))) Pj)
def Pm:XB:=(bS (zA 4 (fO (eO 1 "put" [(aq [uB,(aq [(aq [(xC (.str "brand")),oM,(xC (.int 0)),(xC (.int 0))])]),(aq []),(aq []),(aq []),(aq []),(xC (.int 0))])]))) Pk)
def Pn:XB:=(bS (zA 3 (fO (aE "_law_kinds" [(xV 1)]))) Pm)
def Po:XB:=(bS (zA 2 (fO (AR "Thin" 1 [(xV 1)]))) Pn)
def Pp:XB:=(bS (zA 1 (fO (AR "TypeTable" 0 []))) Po)
def Pq:XB:=(b1 (zA 0 (de [(xC (.int 21)),(xC (.int 1896)),(xC (.int 18)),(xC (.int 3036))])))
def Ps:XB:=(bS (zI (tC (aw .Eq (cF (sP (.n 0))) (xC (.int 0)))) Pq bN) Pp)
def B3:XB:=(bS (zA 0 (fO (g6 (xV 0) pN (pS (xC (.int 24)))))) Ps)
end Mine
end
section
open PySem PySem.W PyProof.Rows
namespace Mine
noncomputable def oP:List Stmt:=PySem.Challenge.pw_xm0487_01.main.body
noncomputable def B4:Stmt→Arguments×Scope×List Stmt
 | .FunctionDef _ a b _ _ _ sc _ _ _=>(a,sc,b)
 | .ClassDef _ _ _ b _ _ sc _ _ _ _=>(⟨[],[],none,[],[],none,[]⟩,sc,b)
 | _=>(⟨[],[],none,[],[],none,[]⟩,⟨.function,[],false,false,[]⟩,[])
noncomputable def an (k:Nat):Arguments×Scope×List Stmt:=B4 (oP.getD k mZ)
noncomputable def cm (k j:Nat):Arguments×Scope×List Stmt:=B4 ((an k).2.2.getD j mZ)
noncomputable def oQ (sc:Scope):List Str:=(sc.names.filter fun p=>p.2== .local||p.2== .cell).map (·.1)
noncomputable def uD (sc:Scope):List (Str×Nat):=(oQ sc).zip (c0 (oQ sc).length)
noncomputable def Pu (sc:Scope):Cx:=⟨sc.names,uD sc,(oQ sc).length⟩
noncomputable def qU (a:Arguments):List Str:=a.args.map (·.arg)
structure Lk (x:XB)(q:Arguments×Scope×List Stmt):Prop where
 src:x.src q.2.2=q.2.2
 chk:(x.chk (Pu q.2.1) q.2.2&&qL q.2.1 (uD q.2.1) (oQ q.2.1).length (qU q.1))=true
theorem Pv:Lk A8 (an 44):=⟨by kernel_rfl,by kernel_rfl⟩
theorem Pw:Lk A9 (an 45):=⟨by kernel_rfl,by kernel_rfl⟩
theorem Px:Lk Ba (an 46):=⟨by kernel_rfl,by kernel_rfl⟩
theorem Py:Lk Bb (an 47):=⟨by kernel_rfl,by kernel_rfl⟩
theorem Pz:Lk Bc (an 48):=⟨by kernel_rfl,by kernel_rfl⟩
theorem PA:Lk Bd (an 49):=⟨by kernel_rfl,by kernel_rfl⟩
theorem PB:Lk Be (an 50):=⟨by kernel_rfl,by kernel_rfl⟩
theorem PC:Lk Bf (an 51):=⟨by kernel_rfl,by kernel_rfl⟩
theorem PD:Lk Bg (an 52):=⟨by kernel_rfl,by kernel_rfl⟩
theorem PE:Lk Bh (an 53):=⟨by kernel_rfl,by kernel_rfl⟩
theorem PF:Lk Bi (an 54):=⟨by kernel_rfl,by kernel_rfl⟩
theorem PG:Lk Bj (an 55):=⟨by kernel_rfl,by kernel_rfl⟩
theorem PH:Lk Bk (an 56):=⟨by kernel_rfl,by kernel_rfl⟩
theorem PJ:Lk Bl (an 57):=⟨by kernel_rfl,by kernel_rfl⟩
theorem PK:Lk Bm (an 58):=⟨by kernel_rfl,by kernel_rfl⟩
theorem PL:Lk Bn (an 59):=⟨by kernel_rfl,by kernel_rfl⟩
theorem PM:Lk Bo (an 60):=⟨by kernel_rfl,by kernel_rfl⟩
theorem PN:Lk Bp (an 61):=⟨by kernel_rfl,by kernel_rfl⟩
theorem PO:Lk Bq (an 62):=⟨by kernel_rfl,by kernel_rfl⟩
theorem PP:Lk Bt (an 63):=⟨by kernel_rfl,by kernel_rfl⟩
theorem PQ:Lk Bu (an 64):=⟨by kernel_rfl,by kernel_rfl⟩
theorem PR:Lk Bv (an 65):=⟨by kernel_rfl,by kernel_rfl⟩
theorem PS:Lk Bw (an 66):=⟨by kernel_rfl,by kernel_rfl⟩
theorem PT:Lk Bx (an 69):=⟨by kernel_rfl,by kernel_rfl⟩
theorem PU:Lk By (an 70):=⟨by kernel_rfl,by kernel_rfl⟩
theorem PW:Lk Bz (an 73):=⟨by kernel_rfl,by kernel_rfl⟩
theorem PX:Lk BA (an 76):=⟨by kernel_rfl,by kernel_rfl⟩
theorem PY:Lk BB (an 77):=⟨by kernel_rfl,by kernel_rfl⟩
theorem PZ:Lk BC (an 78):=⟨by kernel_rfl,by kernel_rfl⟩
theorem P0:Lk BD (an 79):=⟨by kernel_rfl,by kernel_rfl⟩
theorem P1:Lk BE (an 80):=⟨by kernel_rfl,by kernel_rfl⟩
theorem P2:Lk BF (an 81):=⟨by kernel_rfl,by kernel_rfl⟩
theorem P3:Lk BG (an 82):=⟨by kernel_rfl,by kernel_rfl⟩
theorem P4:Lk BJ (an 88):=⟨by kernel_rfl,by kernel_rfl⟩
theorem P5:Lk BK (an 89):=⟨by kernel_rfl,by kernel_rfl⟩
theorem P6:Lk BL (an 90):=⟨by kernel_rfl,by kernel_rfl⟩
theorem P7:Lk BM (an 91):=⟨by kernel_rfl,by kernel_rfl⟩
theorem P8:Lk BN (an 92):=⟨by kernel_rfl,by kernel_rfl⟩
theorem P9:Lk BO (an 93):=⟨by kernel_rfl,by kernel_rfl⟩
theorem Qa:Lk BP (an 94):=⟨by kernel_rfl,by kernel_rfl⟩
theorem Qc:Lk BQ (an 95):=⟨by kernel_rfl,by kernel_rfl⟩
theorem Qe:Lk BR (an 96):=⟨by kernel_rfl,by kernel_rfl⟩
theorem Qf:Lk BS (an 97):=⟨by kernel_rfl,by kernel_rfl⟩
theorem Qg:Lk BU (an 98):=⟨by kernel_rfl,by kernel_rfl⟩
theorem Qh:Lk BV (an 99):=⟨by kernel_rfl,by kernel_rfl⟩
theorem Qi:Lk BW (an 100):=⟨by kernel_rfl,by kernel_rfl⟩
theorem Qj:Lk BX (an 101):=⟨by kernel_rfl,by kernel_rfl⟩
theorem Qk:Lk BY (an 102):=⟨by kernel_rfl,by kernel_rfl⟩
theorem Ql:Lk BZ (an 103):=⟨by kernel_rfl,by kernel_rfl⟩
theorem Qm:Lk B2 (an 104):=⟨by kernel_rfl,by kernel_rfl⟩
theorem Qo:Lk B3 (an 105):=⟨by kernel_rfl,by kernel_rfl⟩
theorem Qp:Lk A6 (cm 43 0):=⟨by kernel_rfl,by kernel_rfl⟩
theorem Qq:Lk A7 (cm 43 2):=⟨by kernel_rfl,by kernel_rfl⟩
theorem Qr:Lk BH (cm 86 0):=⟨by kernel_rfl,by kernel_rfl⟩
theorem Qs:Lk BI (cm 86 1):=⟨by kernel_rfl,by kernel_rfl⟩
end Mine
end
section
set_option autoImplicit false
set_option genInjectivity false
set_option genSizeOf false
open PySem PySem.W PyProof.Rows
namespace Mine
noncomputable def Z (x:String):Str:=ac x
noncomputable def en (P:Params)(k:Str)(t:Nat)(v:Value):DictEntry:={hash:=PyData.keyHash P k,key:=.str k t,val:=v}
structure FR where
 a:Nat
 t:Nat
 L:Nat
 n:Nat
 nm:Str
 qn:Str
 vs:List Str
 fd:Arguments×Scope×List Stmt
 d:Value
 md:Value
noncomputable def tE:Obj:={cls:=.type "tuple",data:=.seq #[]}
noncomputable def fE:Obj:={cls:=.none,data:=.fields #[]}
noncomputable def sT (vs:List Str)(t:Nat):List Value:=(vs.zip (c0 vs.length)).map fun p=>.str p.1 (t+p.2)
noncomputable def tV (f:FR):Obj:={cls:=.type "tuple",data:=.seq (sT f.vs (f.t+3)).toArray}
noncomputable def iO (f:FR):Obj:={cls:=.none,data:=.func {name:=f.nm,qualname:=f.qn,params:=f.fd.1,body:=.stmts f.fd.2.2,scope:=f.fd.2.1,globals:=0,closure:=[],defaults:=.none,kwdefaults:=.none}}
noncomputable def vN (f:FR):Nat:=match f.vs with
 |[]=>0
 | _=>2
noncomputable def vR (f:FR)(i:Nat):Value:=match f.vs with
 |[]=>.none
 | _=>.ref (f.a+i)
noncomputable def cO (f:FR):Obj:={cls:=.type "code",data:=.fields #[.str f.nm f.t,.str f.qn (f.t+1),.str (Z "/claim/cut.py") (f.t+2),.int f.L 0,.int f.n 0,.int 0 0,.int 0 0,.int 3 0,.ref f.a,.bool true,.int 181 0,.ref (f.a+1),.none,vR f 2,vR f 3,.ref (f.a+2+vN f),.int (f.t+3+f.vs.length:Nat) 0,.int f.L 0,.str (Z "/claim/cut.py") (f.t+4+f.vs.length)]}
noncomputable def uO (f:FR):Obj:={cls:=.type "function",data:=.func {name:=f.nm,qualname:=f.qn,params:=f.fd.1,body:=.stmts f.fd.2.2,scope:=f.fd.2.1,globals:=3,closure:=[],defaults:=f.d,kwdefaults:=.none,pyModule:=f.md,code:=.ref (f.a+3+vN f)}}
noncomputable def f7 (f:FR)(l:List Obj):List Obj:=tE::fE::match f.vs with
 |[]=>iO f::cO f::uO f::l
 | _=>tV f::tE::iO f::cO f::uO f::l
noncomputable def Qt:Value:=.str (Z "__main__") 164
noncomputable def B5:Value:=.str (Z "kindkeep.diags") 194
noncomputable def ci:Value:=.str (Z "kindkeep.types") 256
noncomputable def Qu:Value:=.str (Z "kindkeep.kindtpl") 660
noncomputable def lJ:Value:=.str (Z "kindkeep.kindsplice") 675
noncomputable def d3:Value:=.str (Z "kindkeep.hosts") 749
noncomputable def eQ:Value:=.str (Z "law_xm0487_01") 941
noncomputable def Qw:FR:=⟨15,187,1,1,Z "_wall",Z "_wall",[Z "k"],an 0,.none,Qt⟩
noncomputable def Qx:FR:=⟨30,209,7,2,Z "__init__",Z "KeepError.__init__",[Z "self",Z "text"],cm 2 0,(.ref 29),B5⟩
noncomputable def Qy:FR:=⟨51,241,12,3,Z "__init__",Z "TooDeep.__init__",[Z "self",Z "number",Z "text"],cm 3 0,(.ref 50),B5⟩
noncomputable def uE:FR:=⟨100,379,56,1,Z "__init__",Z "TypeTable.__init__",[Z "self",Z "row"],cm 43 0,.none,ci⟩
noncomputable def Qz:FR:=⟨107,387,70,2,Z "row",Z "TypeTable.row",[Z "self",Z "t"],cm 43 1,.none,ci⟩
noncomputable def uF:FR:=⟨114,395,73,2,Z "put",Z "TypeTable.put",[Z "self",Z "row",Z "t"],cm 43 2,.none,ci⟩
noncomputable def uG:FR:=⟨129,423,80,3,Z "str_type",Z "str_type",[Z "tab",Z "text",Z "fresh"],an 44,(.ref 128),ci⟩
noncomputable def uH:FR:=⟨137,433,82,3,Z "num_type",Z "num_type",[Z "tab",Z "n",Z "fresh"],an 45,(.ref 136),ci⟩
noncomputable def uI:FR:=⟨145,443,84,3,Z "array_type",Z "array_type",[Z "tab",Z "elem",Z "ro"],an 46,(.ref 144),ci⟩
noncomputable def uJ:FR:=⟨152,452,86,2,Z "last_mark",Z "last_mark",[Z "elems",Z "marks",Z "found",Z "place"],an 47,.none,ci⟩
noncomputable def uK:FR:=⟨159,462,92,2,Z "needed_to_last",Z "needed_to_last",[Z "tab",Z "elems",Z "last",Z "out",Z "place",Z "given",Z "mark"],an 48,.none,ci⟩
noncomputable def uL:FR:=⟨166,475,102,3,Z "one_rest",Z "one_rest",[Z "tab",Z "elems",Z "last",Z "first",Z "place",Z "held",Z "given",Z "mark"],an 49,.none,ci⟩
noncomputable def uM:FR:=⟨174,490,113,3,Z "tuple_type",Z "tuple_type",[],an 50,(.ref 173),ci⟩
noncomputable def uN:FR:=⟨180,500,121,4,Z "new_param",Z "new_param",[Z "tab",Z "name",Z "bound",Z "default",Z "pid"],an 51,(.ref 179),ci⟩
noncomputable def uP:FR:=⟨187,511,127,2,Z "parts_of",Z "parts_of",[Z "tab",Z "t",Z "row"],an 52,.none,ci⟩
noncomputable def uQ:FR:=⟨194,520,134,1,Z "whole_of_row",Z "whole_of_row",[Z "row",Z "kind"],an 53,.none,ci⟩
noncomputable def uR:FR:=⟨201,528,143,2,Z "regular_twin",Z "regular_twin",[Z "tab",Z "t",Z "row"],an 54,.none,ci⟩
noncomputable def uS:FR:=⟨208,537,148,1,Z "join_bools",Z "join_bools",[Z "got"],an 55,.none,ci⟩
noncomputable def uT:FR:=⟨215,544,152,3,Z "stays_beside",Z "stays_beside",[Z "tab",Z "got",Z "t"],an 56,.none,ci⟩
noncomputable def uU:FR:=⟨222,553,156,1,Z "top_of",Z "top_of",[Z "got",Z "t"],an 57,.none,ci⟩
noncomputable def uV:FR:=⟨229,561,161,2,Z "union",Z "union",[],an 58,.none,ci⟩
noncomputable def uW:FR:=⟨234,567,178,2,Z "add_undef",Z "add_undef",[Z "tab",Z "t"],an 59,.none,ci⟩
noncomputable def uX:FR:=⟨241,575,180,1,Z "index_kids",Z "index_kids",[Z "cell"],an 60,.none,ci⟩
noncomputable def uY:FR:=⟨248,582,182,1,Z "sig_kids",Z "sig_kids",[],an 61,.none,ci⟩
noncomputable def uZ:FR:=⟨253,588,188,1,Z "object_kids",Z "object_kids",[],an 62,.none,ci⟩
noncomputable def u0:FR:=⟨258,594,193,1,Z "row_kids",Z "row_kids",[],an 63,.none,ci⟩
noncomputable def u4:FR:=⟨263,600,209,1,Z "row_binds",Z "row_binds",[Z "row"],an 64,.none,ci⟩
noncomputable def u5:FR:=⟨270,607,217,2,Z "inner_kids",Z "inner_kids",[Z "tab",Z "row",Z "out",Z "pid"],an 65,.none,ci⟩
noncomputable def u6:FR:=⟨277,617,223,2,Z "reached",Z "reached",[Z "tab",Z "t",Z "seen",Z "waiting",Z "at"],an 66,.none,ci⟩
noncomputable def QA:FR:=⟨284,628,232,3,Z "row_free",Z "row_free",[Z "row",Z "free",Z "kids",Z "out",Z "kid",Z "pid"],an 67,.none,ci⟩
noncomputable def QB:FR:=⟨291,640,243,3,Z "free_round",Z "free_round",[],an 68,.none,ci⟩
noncomputable def u7:FR:=⟨296,646,250,2,Z "free_params",Z "free_params",[],an 69,.none,ci⟩
noncomputable def u8:FR:=⟨301,652,266,2,Z "has_params",Z "has_params",[Z "tab",Z "t"],an 70,.none,ci⟩
noncomputable def u9:FR:=⟨309,663,270,2,Z "is_open",Z "is_open",[Z "tab",Z "t",Z "row",Z "part",Z "elem",Z "hole"],an 73,.none,Qu⟩
noncomputable def va:FR:=⟨316,679,289,1,Z "has_spread",Z "has_spread",[Z "elems",Z "elem"],an 76,.none,lJ⟩
noncomputable def vb:FR:=⟨323,687,294,2,Z "kindsplice_spread_kind",Z "kindsplice_spread_kind",[Z "host",Z "t",Z "opened"],an 77,.none,lJ⟩
noncomputable def vc:FR:=⟨330,696,299,2,Z "union_places",Z "union_places",[Z "tab",Z "elems",Z "place"],an 78,.none,lJ⟩
noncomputable def vd:FR:=⟨337,705,304,2,Z "kindsplice_list_part",Z "kindsplice_list_part",[Z "tab",Z "t",Z "row",Z "part"],an 79,.none,lJ⟩
noncomputable def ve:FR:=⟨344,715,311,2,Z "cut_open",Z "cut_open",[],an 80,.none,lJ⟩
noncomputable def vf:FR:=⟨349,721,322,4,Z "splice_union",Z "splice_union",[Z "host",Z "elems",Z "place",Z "ro",Z "tab",Z "made",Z "part",Z "more"],an 81,.none,lJ⟩
noncomputable def vg:FR:=⟨356,735,329,3,Z "splice",Z "splice",[Z "host",Z "elems",Z "ro",Z "tab",Z "ready",Z "elem",Z "place",Z "out"],an 82,.none,lJ⟩
noncomputable def vh:FR:=⟨370,767,355,2,Z "__init__",Z "Thin.__init__",[Z "self",Z "tab"],cm 86 0,.none,d3⟩
noncomputable def vi:FR:=⟨377,775,362,2,Z "force",Z "Thin.force",[Z "self",Z "t"],cm 86 1,.none,d3⟩
noncomputable def QC:FR:=⟨384,783,365,2,Z "put_deferred",Z "Thin.put_deferred",[Z "self",Z "row"],cm 86 2,.none,d3⟩
noncomputable def QD:FR:=⟨391,791,368,3,Z "put_cond",Z "Thin.put_cond",[Z "self",Z "row",Z "mapping"],cm 86 3,.none,d3⟩
noncomputable def QE:FR:=⟨398,800,371,3,Z "lay_row",Z "Thin.lay_row",[Z "self",Z "row",Z "mapping"],cm 86 4,.none,d3⟩
noncomputable def QF:FR:=⟨405,809,374,2,Z "bound",Z "Thin.bound",[Z "self",Z "t"],cm 86 5,.none,d3⟩
noncomputable def QG:FR:=⟨412,817,377,2,Z "shape",Z "Thin.shape",[Z "self",Z "t"],cm 86 6,.none,d3⟩
noncomputable def QH:FR:=⟨419,825,380,3,Z "fits",Z "Thin.fits",[Z "self",Z "s",Z "t"],cm 86 7,.none,d3⟩
noncomputable def QI:FR:=⟨426,834,383,3,Z "lies",Z "Thin.lies",[Z "self",Z "s",Z "t"],cm 86 8,.none,d3⟩
noncomputable def QJ:FR:=⟨433,843,386,4,Z "infers",Z "Thin.infers",[Z "self",Z "pids",Z "check",Z "ext"],cm 86 9,.none,d3⟩
noncomputable def QK:FR:=⟨440,853,389,3,Z "tpl_fits",Z "Thin.tpl_fits",[Z "self",Z "s",Z "t"],cm 86 10,.none,d3⟩
noncomputable def QL:FR:=⟨447,862,392,3,Z "shape_fits",Z "Thin.shape_fits",[Z "self",Z "s",Z "t"],cm 86 11,.none,d3⟩
noncomputable def QM:FR:=⟨454,871,395,3,Z "put_in",Z "Thin.put_in",[Z "self",Z "t",Z "mapping"],cm 86 12,.none,d3⟩
noncomputable def QN:FR:=⟨461,880,398,3,Z "own_sig",Z "Thin.own_sig",[Z "self",Z "s",Z "erased"],cm 86 13,.none,d3⟩
noncomputable def QO:FR:=⟨468,889,401,1,Z "forget",Z "Thin.forget",[Z "self"],cm 86 14,.none,d3⟩
noncomputable def QP:FR:=⟨475,896,404,3,Z "list_prop",Z "Thin.list_prop",[Z "self",Z "t",Z "name"],cm 86 15,.none,d3⟩
noncomputable def QQ:FR:=⟨482,905,407,2,Z "list_index",Z "Thin.list_index",[Z "self",Z "t"],cm 86 16,.none,d3⟩
noncomputable def QR:FR:=⟨489,913,410,2,Z "elem_met",Z "Thin.elem_met",[Z "self",Z "kinds"],cm 86 17,.none,d3⟩
noncomputable def QS:FR:=⟨496,921,413,1,Z "error_class",Z "Thin.error_class",[Z "self"],cm 86 18,.none,d3⟩
noncomputable def vj:FR:=⟨510,943,416,1,Z "_law_join",Z "_law_join",[Z "many",Z "out",Z "atoms"],an 88,.none,eQ⟩
noncomputable def vk:FR:=⟨517,952,425,1,Z "_law_settled",Z "_law_settled",[],an 89,.none,eQ⟩
noncomputable def vm:FR:=⟨522,958,448,1,Z "_law_choices",Z "_law_choices",[],an 90,.none,eQ⟩
noncomputable def vo:FR:=⟨527,964,453,1,Z "_law_forms",Z "_law_forms",[],an 91,.none,eQ⟩
noncomputable def vp:FR:=⟨532,970,455,2,Z "_law_atoms",Z "_law_atoms",[Z "tab",Z "t"],an 92,.none,eQ⟩
noncomputable def vq:FR:=⟨539,978,457,2,Z "_law_elems",Z "_law_elems",[],an 93,.none,eQ⟩
noncomputable def vr:FR:=⟨544,984,459,3,Z "_law_seen",Z "_law_seen",[Z "tab",Z "t",Z "ro",Z "out",Z "part",Z "kind"],an 94,.none,eQ⟩
noncomputable def vw:FR:=⟨551,996,470,1,Z "_law_kinds",Z "_law_kinds",[Z "tab",Z "a",Z "b",Z "n",Z "t",Z "out",Z "atoms"],an 95,.none,eQ⟩
noncomputable def vx:FR:=⟨558,1009,480,3,Z "_law_list",Z "_law_list",[Z "x",Z "tab",Z "kinds",Z "forms",Z "marks",Z "elems",Z "flat",Z "place",Z "t",Z "atoms",Z "ro"],an 96,.none,eQ⟩
noncomputable def vy:FR:=⟨565,1026,496,4,Z "_law_joined",Z "_law_joined",[],an 97,.none,eQ⟩
noncomputable def vz:FR:=⟨570,1032,513,4,Z "_law_met",Z "_law_met",[],an 98,.none,eQ⟩
noncomputable def vA:FR:=⟨575,1038,524,5,Z "_law_single",Z "_law_single",[Z "x",Z "tab",Z "kinds",Z "brand",Z "limited",Z "t"],an 99,.none,eQ⟩
noncomputable def vB:FR:=⟨582,1050,533,5,Z "_law_element",Z "_law_element",[Z "x",Z "tab",Z "kinds",Z "brand",Z "limited",Z "sort",Z "sign",Z "t",Z "choices",Z "held"],an 100,.none,eQ⟩
noncomputable def vC:FR:=⟨589,1066,549,1,Z "_law_lost",Z "_law_lost",[Z "row",Z "t",Z "sign",Z "choices",Z "held"],an 101,.none,eQ⟩
noncomputable def vD:FR:=⟨596,1077,554,4,Z "_law_whole",Z "_law_whole",[],an 102,.none,eQ⟩
noncomputable def vE:FR:=⟨601,1083,560,6,Z "_law_parted",Z "_law_parted",[],an 103,.none,eQ⟩
noncomputable def vF:FR:=⟨606,1089,575,5,Z "_law_pieces",Z "_law_pieces",[],an 104,.none,eQ⟩
noncomputable def vG:FR:=⟨611,1095,597,1,Z "law",Z "law",[Z "script",Z "tab",Z "host",Z "kinds",Z "brand",Z "limited",Z "head",Z "row",Z "unions",Z "nr",Z "at",Z "x",Z "ro",Z "whole"],an 105,.none,eQ⟩
noncomputable def o2 (P:Params):Obj:={cls:=.none,data:=.dict #[en P (Z "type.__subclasses__.Exception.0") 223 (.int 39 0),en P (Z "type.__subclasses__.Exception.n") 224 (.int 1 0)] 2}
noncomputable def o3 (P:Params):Obj:={cls:=.type "dict",data:=.dict #[en P (Z "__name__") 165 (.str (Z "law_xm0487_01") 941),en P (Z "__doc__") 166 .none,en P (Z "__package__") 167 .none,en P (Z "__loader__") 168 (.builtin "__main__.__loader__#opaque"),en P (Z "__spec__") 169 .none,en P (Z "__annotations__") 170 (.ref 6),en P (Z "__builtins__") 171 (.ref 4),en P (Z "__file__") 173 (.str (Z "/claim/cut.py") 172),en P (Z "__cached__") 174 .none,en P (Z "_wall") 193 (.ref 21),en P (Z "KeepError") 226 (.ref 39),en P (Z "TooDeep") 255 (.ref 60),en P (Z "Y_KEY") 259 (.int 1 258),en P (Z "Y_BOOL") 261 (.int 2 260),en P (Z "Y_STR") 263 (.int 3 262),en P (Z "Y_NUM") 265 (.int 4 264),en P (Z "Y_ENUM") 267 (.int 5 266),en P (Z "Y_UNION") 269 (.int 6 268),en P (Z "Y_INTER") 271 (.int 7 270),en P (Z "Y_OBJ") 273 (.int 8 272),en P (Z "Y_REF") 275 (.int 9 274),en P (Z "Y_PARAM") 277 (.int 10 276),en P (Z "Y_ARRAY") 279 (.int 11 278),en P (Z "Y_TUPLE") 281 (.int 12 280),en P (Z "Y_SIG") 283 (.int 13 282),en P (Z "Y_KEYOF") 285 (.int 14 284),en P (Z "Y_INDEX") 287 (.int 15 286),en P (Z "Y_COND") 289 (.int 16 288),en P (Z "Y_MAPPED") 291 (.int 17 290),en P (Z "Y_TPL") 293 (.int 18 292),en P (Z "Y_ALIAS") 295 (.int 19 294),en P (Z "ANY") 297 (.int 0 296),en P (Z "UNKNOWN") 299 (.int 1 298),en P (Z "NEVER") 301 (.int 2 300),en P (Z "UNDEF") 303 (.int 4 302),en P (Z "STRING") 305 (.int 6 304),en P (Z "NUMBER") 307 (.int 7 306),en P (Z "FALSE_T") 309 (.int 8 308),en P (Z "TRUE_T") 311 (.int 9 310),en P (Z "ERR") 313 (.int 13 312),en P (Z "FRESH_F") 315 (.int 14 314),en P (Z "FRESH_T") 317 (.int 15 316),en P (Z "E_NEED") 319 (.int 0 318),en P (Z "E_OPT") 321 (.int 1 320),en P (Z "E_REST") 323 (.int 2 322),en P (Z "E_SPREAD") 325 (.int 3 324),en P (Z "MAX_UNION") 327 (.int 400 326),en P (Z "FIRST_ROWS") 349 (.ref 85),en P (Z "MARKED_ROWS") 350 (.ref 86),en P (Z "KID_SPANS") 366 (.ref 87),en P (Z "TypeTable") 421 (.ref 123),en P (Z "str_type") 431 (.ref 135),en P (Z "num_type") 441 (.ref 143),en P (Z "array_type") 451 (.ref 151),en P (Z "last_mark") 461 (.ref 158),en P (Z "needed_to_last") 474 (.ref 165),en P (Z "one_rest") 488 (.ref 172),en P (Z "tuple_type") 495 (.ref 178),en P (Z "new_param") 510 (.ref 186),en P (Z "parts_of") 519 (.ref 193),en P (Z "whole_of_row") 527 (.ref 200),en P (Z "regular_twin") 536 (.ref 207),en P (Z "join_bools") 543 (.ref 214),en P (Z "stays_beside") 552 (.ref 221),en P (Z "top_of") 560 (.ref 228),en P (Z "union") 566 (.ref 233),en P (Z "add_undef") 574 (.ref 240),en P (Z "index_kids") 581 (.ref 247),en P (Z "sig_kids") 587 (.ref 252),en P (Z "object_kids") 593 (.ref 257),en P (Z "row_kids") 599 (.ref 262),en P (Z "row_binds") 606 (.ref 269),en P (Z "inner_kids") 616 (.ref 276),en P (Z "reached") 627 (.ref 283),en P (Z "row_free") 639 (.ref 290),en P (Z "free_round") 645 (.ref 295),en P (Z "free_params") 651 (.ref 300),en P (Z "has_params") 659 (.ref 307),en P (Z "OPEN_KINDS") 662 (.ref 308),en P (Z "is_open") 674 (.ref 315),en P (Z "MOST_ELEMS") 678 (.int 10000 677),en P (Z "has_spread") 686 (.ref 322),en P (Z "kindsplice_spread_kind") 695 (.ref 329),en P (Z "union_places") 704 (.ref 336),en P (Z "kindsplice_list_part") 714 (.ref 343),en P (Z "cut_open") 720 (.ref 348),en P (Z "splice_union") 734 (.ref 355),en P (Z "splice") 748 (.ref 362),en P (Z "MOST_ROUNDS") 752 (.int 200 751),en P (Z "MOST_SHAPES") 754 (.int 40 753),en P (Z "Thin") 940 (.ref 505),en P (Z "_law_join") 951 (.ref 516),en P (Z "_law_settled") 957 (.ref 521),en P (Z "_law_choices") 963 (.ref 526),en P (Z "_law_forms") 969 (.ref 531),en P (Z "_law_atoms") 977 (.ref 538),en P (Z "_law_elems") 983 (.ref 543),en P (Z "_law_seen") 995 (.ref 550),en P (Z "_law_kinds") 1008 (.ref 557),en P (Z "_law_list") 1025 (.ref 564),en P (Z "_law_joined") 1031 (.ref 569),en P (Z "_law_met") 1037 (.ref 574),en P (Z "_law_single") 1049 (.ref 581),en P (Z "_law_element") 1065 (.ref 588),en P (Z "_law_lost") 1076 (.ref 595),en P (Z "_law_whole") 1082 (.ref 600),en P (Z "_law_parted") 1088 (.ref 605),en P (Z "_law_pieces") 1094 (.ref 610),en P (Z "law") 1114 (.ref 617)] 109}
noncomputable def B6:Obj:={cls:=.none,data:=.fields #[.int 1 0,.int 0 0,.ref 20,.int 5 0,.int 0 0,.ref 27,.int 10 0,.int 0 0,.ref 48,.int 54 0,.int 0 0,.ref 98,.int 80 0,.int 0 0,.ref 134,.int 82 0,.int 0 0,.ref 142,.int 84 0,.int 0 0,.ref 150,.int 86 0,.int 0 0,.ref 157,.int 92 0,.int 0 0,.ref 164,.int 102 0,.int 0 0,.ref 171,.int 113 0,.int 0 0,.ref 177,.int 121 0,.int 0 0,.ref 185,.int 127 0,.int 0 0,.ref 192,.int 134 0,.int 0 0,.ref 199,.int 143 0,.int 0 0,.ref 206,.int 148 0,.int 0 0,.ref 213,.int 152 0,.int 0 0,.ref 220,.int 156 0,.int 0 0,.ref 227,.int 161 0,.int 0 0,.ref 232,.int 178 0,.int 0 0,.ref 239,.int 180 0,.int 0 0,.ref 246,.int 182 0,.int 0 0,.ref 251,.int 188 0,.int 0 0,.ref 256,.int 193 0,.int 0 0,.ref 261,.int 209 0,.int 0 0,.ref 268,.int 217 0,.int 0 0,.ref 275,.int 223 0,.int 0 0,.ref 282,.int 232 0,.int 0 0,.ref 289,.int 243 0,.int 0 0,.ref 294,.int 250 0,.int 0 0,.ref 299,.int 266 0,.int 0 0,.ref 306,.int 270 0,.int 0 0,.ref 314,.int 289 0,.int 0 0,.ref 321,.int 294 0,.int 0 0,.ref 328,.int 299 0,.int 0 0,.ref 335,.int 304 0,.int 0 0,.ref 342,.int 311 0,.int 0 0,.ref 347,.int 322 0,.int 0 0,.ref 354,.int 329 0,.int 0 0,.ref 361,.int 353 0,.int 0 0,.ref 368,.int 416 0,.int 0 0,.ref 515,.int 425 0,.int 0 0,.ref 520,.int 448 0,.int 0 0,.ref 525,.int 453 0,.int 0 0,.ref 530,.int 455 0,.int 0 0,.ref 537,.int 457 0,.int 0 0,.ref 542,.int 459 0,.int 0 0,.ref 549,.int 470 0,.int 0 0,.ref 556,.int 480 0,.int 0 0,.ref 563,.int 496 0,.int 0 0,.ref 568,.int 513 0,.int 0 0,.ref 573,.int 524 0,.int 0 0,.ref 580,.int 533 0,.int 0 0,.ref 587,.int 549 0,.int 0 0,.ref 594,.int 554 0,.int 0 0,.ref 599,.int 560 0,.int 0 0,.ref 604,.int 575 0,.int 0 0,.ref 609,.int 597 0,.int 0 0,.ref 616]}
noncomputable def QT:Obj:={cls:=.type "code",data:=.fields #[.str (Z "<module>") 182,.str (Z "<module>") 183,.str (Z "/claim/cut.py") 184,.int 1 0,.int 0 0,.int 0 0,.int 0 0,.int 0 0,.ref 11,.bool false,.int 181 0,.ref 12,.none,.none,.none,.none,.int 185 0,.int 1 0,.str (Z "/claim/cut.py") 186]}
noncomputable def QU:Obj:={cls:=.type "frame",slots:=#[some (.ref 13),some (.ref 3),some (.ref 3),none,some (.str (Z "__main__") 164),none,some (.ref 0)]}
noncomputable def QV:Obj:={cls:=.type "tuple",data:=.seq #[.type "Exception"]}
noncomputable def QW:Obj:={cls:=.type "builtin_function_or_method",data:=.fields #[.builtin "type.__prepare__",.type "type"]}
noncomputable def QX (P:Params):Obj:={cls:=.type "dict",data:=.dict #[en P (Z "__module__") 203 (.str (Z "kindkeep.diags") 194),en P (Z "__qualname__") 205 (.str (Z "KeepError") 204),en P (Z "__firstlineno__") 207 (.int 5 206),en P (Z "__init__") 216 (.ref 36),en P (Z "__static_attributes__") 219 (.ref 37)] 5}
noncomputable def QY:Obj:={cls:=.none,data:=.fields #[.int 7 0,.int 4 0,.ref 35]}
noncomputable def QZ:Obj:={cls:=.type "code",data:=.fields #[.str (Z "KeepError") 198,.str (Z "KeepError") 199,.str (Z "/claim/cut.py") 200,.int 5 0,.int 0 0,.int 0 0,.int 0 0,.int 0 0,.ref 25,.bool false,.int 181 0,.ref 26,.none,.none,.none,.none,.int 201 0,.int 5 0,.str (Z "/claim/cut.py") 202]}
noncomputable def Q0:Obj:={cls:=.type "frame",slots:=#[some (.ref 27),some (.ref 3),some (.ref 24),none,some (.str (Z "kindkeep.diags") 194),none,some (.ref 0)]}
noncomputable def Q3:Obj:={cls:=.type "tuple",data:=.seq #[.str (Z "") 208]}
noncomputable def Q4:Obj:={cls:=.type "tuple",data:=.seq #[.str (Z "number") 217,.str (Z "text") 218]}
noncomputable def Q5 (P:Params):Obj:={cls:=.type "dict",data:=.dict #[en P (Z "__module__") 203 (.str (Z "kindkeep.diags") 194),en P (Z "__firstlineno__") 207 (.int 5 206),en P (Z "__init__") 216 (.ref 36),en P (Z "__static_attributes__") 219 (.ref 37),en P (Z "__weakref__") 221 (.ref 40),en P (Z "__doc__") 222 .none] 3}
noncomputable def Q6:Obj:={cls:=.type "type",data:=.cls {name:=Z "KeepError",bases:=[.type "Exception"],mro:=[.ref 39,.type "Exception",.type "BaseException",.type "object"],ns:=38,qualname:=Z "KeepError",subclasses:=[.ref 60]},slots:=#[some (.ref 22),none,some (.str (Z "KeepError") 196),some (.str (Z "KeepError") 204),some (.builtin "Exception.__new__"),some (.bool true)]}
noncomputable def Q7:Obj:={cls:=.type "getset_descriptor",data:=.fields #[.str (Z "__weakref__") 220,.ref 39,.builtin "ExceptionGroup.__weakref__",.none]}
noncomputable def Q8:Obj:={cls:=.type "super",data:=.fields #[.ref 39,.ref 39,.ref 39]}
noncomputable def Q9:Obj:={cls:=.type "builtin_function_or_method",data:=.fields #[.builtin "object.__init_subclass__",.ref 39]}
noncomputable def Ra:Obj:={cls:=.type "tuple",data:=.seq #[.ref 39]}
noncomputable def Rb:Obj:={cls:=.type "builtin_function_or_method",data:=.fields #[.builtin "type.__prepare__",.type "type"]}
noncomputable def Rc (P:Params):Obj:={cls:=.type "dict",data:=.dict #[en P (Z "__module__") 234 (.str (Z "kindkeep.diags") 194),en P (Z "__qualname__") 236 (.str (Z "TooDeep") 235),en P (Z "__firstlineno__") 238 (.int 10 237),en P (Z "__init__") 249 (.ref 57),en P (Z "__static_attributes__") 252 (.ref 58)] 5}
noncomputable def Re:Obj:={cls:=.none,data:=.fields #[.int 12 0,.int 4 0,.ref 56]}
noncomputable def Rf:Obj:={cls:=.type "code",data:=.fields #[.str (Z "TooDeep") 229,.str (Z "TooDeep") 230,.str (Z "/claim/cut.py") 231,.int 10 0,.int 0 0,.int 0 0,.int 0 0,.int 0 0,.ref 46,.bool false,.int 181 0,.ref 47,.none,.none,.none,.none,.int 232 0,.int 10 0,.str (Z "/claim/cut.py") 233]}
noncomputable def Rg:Obj:={cls:=.type "frame",slots:=#[some (.ref 48),some (.ref 3),some (.ref 45),none,some (.str (Z "kindkeep.diags") 194),none,some (.ref 0)]}
noncomputable def Rh:Obj:={cls:=.type "tuple",data:=.seq #[.int 2589 239,.str (Z "") 240]}
noncomputable def Ri:Obj:={cls:=.type "tuple",data:=.seq #[.str (Z "number") 250,.str (Z "text") 251]}
noncomputable def jD (P:Params):Obj:={cls:=.type "dict",data:=.dict #[en P (Z "__module__") 234 (.str (Z "kindkeep.diags") 194),en P (Z "__firstlineno__") 238 (.int 10 237),en P (Z "__init__") 249 (.ref 57),en P (Z "__static_attributes__") 252 (.ref 58),en P (Z "__doc__") 253 .none] 2}
noncomputable def Rj:Obj:={cls:=.type "type",data:=.cls {name:=Z "TooDeep",bases:=[.ref 39],mro:=[.ref 60,.ref 39,.type "Exception",.type "BaseException",.type "object"],ns:=59,qualname:=Z "TooDeep"},slots:=#[some (.ref 43),none,some (.str (Z "TooDeep") 227),some (.str (Z "TooDeep") 235),some (.builtin "Exception.__new__"),some (.bool true)]}
noncomputable def Rk:Obj:={cls:=.type "super",data:=.fields #[.ref 60,.ref 60,.ref 60]}
noncomputable def Rn:Obj:={cls:=.type "builtin_function_or_method",data:=.fields #[.builtin "object.__init_subclass__",.ref 60]}
noncomputable def B7 (P:Params):Obj:={cls:=.type "tuple",data:=.seq #[.int 1 258,.str (Z "any") 328]}
noncomputable def B8 (P:Params):Obj:={cls:=.type "tuple",data:=.seq #[.int 1 258,.str (Z "unknown") 329]}
noncomputable def B9 (P:Params):Obj:={cls:=.type "tuple",data:=.seq #[.int 1 258,.str (Z "never") 330]}
noncomputable def Ca (P:Params):Obj:={cls:=.type "tuple",data:=.seq #[.int 1 258,.str (Z "void") 331]}
noncomputable def Cb (P:Params):Obj:={cls:=.type "tuple",data:=.seq #[.int 1 258,.str (Z "undefined") 332]}
noncomputable def Cc (P:Params):Obj:={cls:=.type "tuple",data:=.seq #[.int 1 258,.str (Z "null") 333]}
noncomputable def Ce (P:Params):Obj:={cls:=.type "tuple",data:=.seq #[.int 1 258,.str (Z "string") 334]}
noncomputable def Cf (P:Params):Obj:={cls:=.type "tuple",data:=.seq #[.int 1 258,.str (Z "number") 335]}
noncomputable def Cg (P:Params):Obj:={cls:=.type "tuple",data:=.seq #[.int 2 260,.int 0 336,.int 0 337]}
noncomputable def Ch (P:Params):Obj:={cls:=.type "tuple",data:=.seq #[.int 2 260,.int 1 338,.int 0 339]}
noncomputable def Ci (P:Params):Obj:={cls:=.type "tuple",data:=.seq #[.int 1 258,.str (Z "object") 340]}
noncomputable def Cj (P:Params):Obj:={cls:=.type "tuple",data:=.seq #[]}
noncomputable def Ck (P:Params):Obj:={cls:=.type "tuple",data:=.seq #[]}
noncomputable def Cl (P:Params):Obj:={cls:=.type "tuple",data:=.seq #[]}
noncomputable def Cm (P:Params):Obj:={cls:=.type "tuple",data:=.seq #[]}
noncomputable def Cn (P:Params):Obj:={cls:=.type "tuple",data:=.seq #[]}
noncomputable def Co (P:Params):Obj:={cls:=.type "tuple",data:=.seq #[.int 8 272,.ref 74,.ref 75,.ref 76,.ref 77,.ref 78,.int 0 341]}
noncomputable def Cq (P:Params):Obj:={cls:=.type "tuple",data:=.seq #[.int 8 342,.int 9 343]}
noncomputable def Cr (P:Params):Obj:={cls:=.type "tuple",data:=.seq #[.int 6 268,.ref 80]}
noncomputable def Cs (P:Params):Obj:={cls:=.type "tuple",data:=.seq #[.int 1 258,.str (Z "error") 344]}
noncomputable def Ct (P:Params):Obj:={cls:=.type "tuple",data:=.seq #[.int 2 260,.int 0 345,.int 1 346]}
noncomputable def Cv (P:Params):Obj:={cls:=.type "tuple",data:=.seq #[.int 2 260,.int 1 347,.int 1 348]}
noncomputable def Cw (P:Params):Obj:={cls:=.type "tuple",data:=.seq #[.ref 63,.ref 64,.ref 65,.ref 66,.ref 67,.ref 68,.ref 69,.ref 70,.ref 71,.ref 72,.ref 73,.ref 79,.ref 81,.ref 82,.ref 83,.ref 84]}
noncomputable def Cy (P:Params):Obj:={cls:=.type "tuple",data:=.seq #[.int 2 260,.int 3 262,.int 4 264,.int 5 266,.int 8 272]}
noncomputable def Cz (P:Params):Obj:={cls:=.type "dict",data:=.dict #[{hash:=11,key:=.int 11 278,val:=.ref 88},{hash:=14,key:=.int 14 284,val:=.ref 89},{hash:=15,key:=.int 15 286,val:=.ref 90},{hash:=16,key:=.int 16 288,val:=.ref 91},{hash:=17,key:=.int 17 290,val:=.ref 92}] 5}
noncomputable def CB (P:Params):Obj:={cls:=.type "tuple",data:=.seq #[.int 1 351,.int 2 352]}
noncomputable def CC (P:Params):Obj:={cls:=.type "tuple",data:=.seq #[.int 1 353,.int 2 354]}
noncomputable def CD (P:Params):Obj:={cls:=.type "tuple",data:=.seq #[.int 1 355,.int 3 356]}
noncomputable def CE (P:Params):Obj:={cls:=.type "tuple",data:=.seq #[.int 1 357,.int 5 358]}
noncomputable def CF (P:Params):Obj:={cls:=.type "tuple",data:=.seq #[.int 2 359,.int 5 360]}
noncomputable def Ro:Obj:={cls:=.type "builtin_function_or_method",data:=.fields #[.builtin "type.__prepare__",.type "type"]}
noncomputable def Rp (P:Params):Obj:={cls:=.type "dict",data:=.dict #[en P (Z "__module__") 374 (.str (Z "kindkeep.types") 256),en P (Z "__qualname__") 376 (.str (Z "TypeTable") 375),en P (Z "__firstlineno__") 378 (.int 54 377),en P (Z "__init__") 386 (.ref 106),en P (Z "row") 394 (.ref 113),en P (Z "put") 403 (.ref 120),en P (Z "__static_attributes__") 414 (.ref 121)] 7}
noncomputable def Rq:Obj:={cls:=.none,data:=.fields #[.int 56 0,.int 4 0,.ref 105,.int 70 0,.int 4 0,.ref 112,.int 73 0,.int 4 0,.ref 119]}
noncomputable def Rr:Obj:={cls:=.type "code",data:=.fields #[.str (Z "TypeTable") 369,.str (Z "TypeTable") 370,.str (Z "/claim/cut.py") 371,.int 54 0,.int 0 0,.int 0 0,.int 0 0,.int 0 0,.ref 96,.bool false,.int 181 0,.ref 97,.none,.none,.none,.none,.int 372 0,.int 54 0,.str (Z "/claim/cut.py") 373]}
noncomputable def Rs:Obj:={cls:=.type "frame",slots:=#[some (.ref 98),some (.ref 3),some (.ref 95),none,some (.str (Z "kindkeep.types") 256),none,some (.ref 0)]}
noncomputable def CG (P:Params):Obj:={cls:=.type "tuple",data:=.seq #[.str (Z "bounds") 404,.str (Z "decls") 405,.str (Z "defaults") 406,.str (Z "index") 407,.str (Z "names") 408,.str (Z "origins") 409,.str (Z "putting") 410,.str (Z "renamed") 411,.str (Z "rows") 412,.str (Z "shaping") 413]}
noncomputable def CH (P:Params):Obj:={cls:=.type "dict",data:=.dict #[en P (Z "__module__") 374 (.str (Z "kindkeep.types") 256),en P (Z "__firstlineno__") 378 (.int 54 377),en P (Z "__init__") 386 (.ref 106),en P (Z "row") 394 (.ref 113),en P (Z "put") 403 (.ref 120),en P (Z "__static_attributes__") 414 (.ref 121),en P (Z "__dict__") 416 (.ref 124),en P (Z "__weakref__") 418 (.ref 125),en P (Z "__doc__") 419 .none] 4}
noncomputable def CJ (P:Params):Obj:={cls:=.type "type",data:=.cls {name:=Z "TypeTable",bases:=[.type "object"],mro:=[.ref 123,.type "object"],ns:=122,qualname:=Z "TypeTable"},slots:=#[none,none,some (.str (Z "TypeTable") 367),some (.str (Z "TypeTable") 375),some (.builtin "object.__new__"),some (.bool true)]}
noncomputable def CK (P:Params):Obj:={cls:=.type "getset_descriptor",data:=.fields #[.str (Z "__dict__") 415,.ref 123,.builtin "function.__dict__",.builtin "function.__dict__#set"]}
noncomputable def CL (P:Params):Obj:={cls:=.type "getset_descriptor",data:=.fields #[.str (Z "__weakref__") 417,.ref 123,.builtin "ExceptionGroup.__weakref__",.none]}
noncomputable def Rt:Obj:={cls:=.type "super",data:=.fields #[.ref 123,.ref 123,.ref 123]}
noncomputable def Rx:Obj:={cls:=.type "builtin_function_or_method",data:=.fields #[.builtin "object.__init_subclass__",.ref 123]}
noncomputable def CM (P:Params):Obj:={cls:=.type "tuple",data:=.seq #[.int 0 422]}
noncomputable def CN (P:Params):Obj:={cls:=.type "tuple",data:=.seq #[.int 0 432]}
noncomputable def CO (P:Params):Obj:={cls:=.type "tuple",data:=.seq #[.int 0 442]}
noncomputable def CP (P:Params):Obj:={cls:=.type "tuple",data:=.seq #[.int 0 489]}
noncomputable def CQ (P:Params):Obj:={cls:=.type "tuple",data:=.seq #[.int (-1) 497,.int (-1) 499]}
noncomputable def CR (P:Params):Obj:={cls:=.type "tuple",data:=.seq #[.int 10 276,.int 14 284,.int 15 286,.int 16 288,.int 17 290,.int 19 294]}
noncomputable def Ry:Obj:={cls:=.type "builtin_function_or_method",data:=.fields #[.builtin "type.__prepare__",.type "type"]}
noncomputable def Rz (P:Params):Obj:={cls:=.type "dict",data:=.dict #[en P (Z "__module__") 762 (.str (Z "kindkeep.hosts") 749),en P (Z "__qualname__") 764 (.str (Z "Thin") 763),en P (Z "__firstlineno__") 766 (.int 353 765),en P (Z "__init__") 774 (.ref 376),en P (Z "force") 782 (.ref 383),en P (Z "put_deferred") 790 (.ref 390),en P (Z "put_cond") 799 (.ref 397),en P (Z "lay_row") 808 (.ref 404),en P (Z "bound") 816 (.ref 411),en P (Z "shape") 824 (.ref 418),en P (Z "fits") 833 (.ref 425),en P (Z "lies") 842 (.ref 432),en P (Z "infers") 852 (.ref 439),en P (Z "tpl_fits") 861 (.ref 446),en P (Z "shape_fits") 870 (.ref 453),en P (Z "put_in") 879 (.ref 460),en P (Z "own_sig") 888 (.ref 467),en P (Z "forget") 895 (.ref 474),en P (Z "list_prop") 904 (.ref 481),en P (Z "list_index") 912 (.ref 488),en P (Z "elem_met") 920 (.ref 495),en P (Z "error_class") 927 (.ref 502),en P (Z "__static_attributes__") 933 (.ref 503)] 23}
noncomputable def RA:Obj:={cls:=.none,data:=.fields #[.int 355 0,.int 4 0,.ref 375,.int 362 0,.int 4 0,.ref 382,.int 365 0,.int 4 0,.ref 389,.int 368 0,.int 4 0,.ref 396,.int 371 0,.int 4 0,.ref 403,.int 374 0,.int 4 0,.ref 410,.int 377 0,.int 4 0,.ref 417,.int 380 0,.int 4 0,.ref 424,.int 383 0,.int 4 0,.ref 431,.int 386 0,.int 4 0,.ref 438,.int 389 0,.int 4 0,.ref 445,.int 392 0,.int 4 0,.ref 452,.int 395 0,.int 4 0,.ref 459,.int 398 0,.int 4 0,.ref 466,.int 401 0,.int 4 0,.ref 473,.int 404 0,.int 4 0,.ref 480,.int 407 0,.int 4 0,.ref 487,.int 410 0,.int 4 0,.ref 494,.int 413 0,.int 4 0,.ref 501]}
noncomputable def RC:Obj:={cls:=.type "code",data:=.fields #[.str (Z "Thin") 757,.str (Z "Thin") 758,.str (Z "/claim/cut.py") 759,.int 353 0,.int 0 0,.int 0 0,.int 0 0,.int 0 0,.ref 366,.bool false,.int 181 0,.ref 367,.none,.none,.none,.none,.int 760 0,.int 353 0,.str (Z "/claim/cut.py") 761]}
noncomputable def RE:Obj:={cls:=.type "frame",slots:=#[some (.ref 368),some (.ref 3),some (.ref 365),none,some (.str (Z "kindkeep.hosts") 749),none,some (.ref 0)]}
noncomputable def CT (P:Params):Obj:={cls:=.type "tuple",data:=.seq #[.str (Z "deep") 928,.str (Z "lib") 929,.str (Z "most_deep") 930,.str (Z "most_rounds") 931,.str (Z "tab") 932]}
noncomputable def CU (P:Params):Obj:={cls:=.type "dict",data:=.dict #[en P (Z "__module__") 762 (.str (Z "kindkeep.hosts") 749),en P (Z "__firstlineno__") 766 (.int 353 765),en P (Z "__init__") 774 (.ref 376),en P (Z "force") 782 (.ref 383),en P (Z "put_deferred") 790 (.ref 390),en P (Z "put_cond") 799 (.ref 397),en P (Z "lay_row") 808 (.ref 404),en P (Z "bound") 816 (.ref 411),en P (Z "shape") 824 (.ref 418),en P (Z "fits") 833 (.ref 425),en P (Z "lies") 842 (.ref 432),en P (Z "infers") 852 (.ref 439),en P (Z "tpl_fits") 861 (.ref 446),en P (Z "shape_fits") 870 (.ref 453),en P (Z "put_in") 879 (.ref 460),en P (Z "own_sig") 888 (.ref 467),en P (Z "forget") 895 (.ref 474),en P (Z "list_prop") 904 (.ref 481),en P (Z "list_index") 912 (.ref 488),en P (Z "elem_met") 920 (.ref 495),en P (Z "error_class") 927 (.ref 502),en P (Z "__static_attributes__") 933 (.ref 503),en P (Z "__dict__") 935 (.ref 506),en P (Z "__weakref__") 937 (.ref 507),en P (Z "__doc__") 938 .none] 4}
noncomputable def vH (P:Params):Obj:={cls:=.type "type",data:=.cls {name:=Z "Thin",bases:=[.type "object"],mro:=[.ref 505,.type "object"],ns:=504,qualname:=Z "Thin"},slots:=#[none,none,some (.str (Z "Thin") 755),some (.str (Z "Thin") 763),some (.builtin "object.__new__"),some (.bool true)]}
noncomputable def CV (P:Params):Obj:={cls:=.type "getset_descriptor",data:=.fields #[.str (Z "__dict__") 934,.ref 505,.builtin "function.__dict__",.builtin "function.__dict__#set"]}
noncomputable def CW (P:Params):Obj:={cls:=.type "getset_descriptor",data:=.fields #[.str (Z "__weakref__") 936,.ref 505,.builtin "ExceptionGroup.__weakref__",.none]}
noncomputable def RF:Obj:={cls:=.type "super",data:=.fields #[.ref 505,.ref 505,.ref 505]}
noncomputable def RG:Obj:={cls:=.type "builtin_function_or_method",data:=.fields #[.builtin "object.__init_subclass__",.ref 505]}
noncomputable def KP (P:Params):Frag:=[(3,o3 P),(63,B7 P),(64,B8 P),(65,B9 P),(66,Ca P),(67,Cb P),(68,Cc P),(69,Ce P),(70,Cf P),(71,Cg P),(72,Ch P),(73,Ci P),(74,Cj P),(75,Ck P),(76,Cl P),(77,Cm P),(78,Cn P),(79,Co P),(80,Cq P),(81,Cr P),(82,Cs P),(83,Ct P),(84,Cv P),(85,Cw P),(86,Cy P),(87,Cz P),(88,CB P),(89,CC P),(90,CD P),(91,CE P),(92,CF P),(105,cO uE),(106,uO uE),(119,cO uF),(120,uO uF),(121,CG P),(122,CH P),(123,CJ P),(124,CK P),(125,CL P),(128,CM P),(134,cO uG),(135,uO uG),(136,CN P),(142,cO uH),(143,uO uH),(144,CO P),(150,cO uI),(151,uO uI),(157,cO uJ),(158,uO uJ),(164,cO uK),(165,uO uK),(171,cO uL),(172,uO uL),(173,CP P),(177,cO uM),(178,uO uM),(179,CQ P),(185,cO uN),(186,uO uN),(192,cO uP),(193,uO uP),(199,cO uQ),(200,uO uQ),(206,cO uR),(207,uO uR),(213,cO uS),(214,uO uS),(220,cO uT),(221,uO uT),(227,cO uU),(228,uO uU),(232,cO uV),(233,uO uV),(239,cO uW),(240,uO uW),(246,cO uX),(247,uO uX),(251,cO uY),(252,uO uY),(256,cO uZ),(257,uO uZ),(261,cO u0),(262,uO u0),(268,cO u4),(269,uO u4),(275,cO u5),(276,uO u5),(282,cO u6),(283,uO u6),(299,cO u7),(300,uO u7),(306,cO u8),(307,uO u8),(308,CR P),(314,cO u9),(315,uO u9),(321,cO va),(322,uO va),(328,cO vb),(329,uO vb),(335,cO vc),(336,uO vc),(342,cO vd),(343,uO vd),(347,cO ve),(348,uO ve),(354,cO vf),(355,uO vf),(361,cO vg),(362,uO vg),(375,cO vh),(376,uO vh),(382,cO vi),(383,uO vi),(503,CT P),(504,CU P),(505,vH P),(506,CV P),(507,CW P),(515,cO vj),(516,uO vj),(520,cO vk),(521,uO vk),(525,cO vm),(526,uO vm),(530,cO vo),(531,uO vo),(537,cO vp),(538,uO vp),(542,cO vq),(543,uO vq),(549,cO vr),(550,uO vr),(556,cO vw),(557,uO vw),(563,cO vx),(564,uO vx),(568,cO vy),(569,uO vy),(573,cO vz),(574,uO vz),(580,cO vA),(581,uO vA),(587,cO vB),(588,uO vB),(594,cO vC),(595,uO vC),(599,cO vD),(600,uO vD),(604,cO vE),(605,uO vE),(609,cO vF),(610,uO vF),(616,cO vG),(617,uO vG)]
noncomputable def KA:List Addr:=[3,63,64,65,66,67,68,69,70,71,72,73,74,75,76,77,78,79,80,81,82,83,84,85,86,87,88,89,90,91,92,105,106,119,120,121,122,123,124,125,128,134,135,136,142,143,144,150,151,157,158,164,165,171,172,173,177,178,179,185,186,192,193,199,200,206,207,213,214,220,221,227,228,232,233,239,240,246,247,251,252,256,257,261,262,268,269,275,276,282,283,299,300,306,307,308,314,315,321,322,328,329,335,336,342,343,347,348,354,355,361,362,375,376,382,383,503,504,505,506,507,515,516,520,521,525,526,530,531,537,538,542,543,549,550,556,557,563,564,568,569,573,574,580,581,587,588,594,595,599,600,604,605,609,610,616,617]
noncomputable def HL (P:Params):List Obj:=boot_o_0 P::boot_o_1 P::o2 P::o3 P::boot_o_4 P::boot_o_5 P::boot_o_6 P::boot_o_7 P::boot_o_8 P::boot_o_9 P::boot_o_10 P::tE::B6::QT::QU::f7 Qw (QV::QW::QX P::tE::QY::QZ::Q0::Q3::f7 Qx (Q4::Q5 P::Q6::Q7::Q8::Q9::Ra::Rb::Rc P::tE::Re::Rf::Rg::Rh::f7 Qy (Ri::jD P::Rj::Rk::Rn::B7 P::B8 P::B9 P::Ca P::Cb P::Cc P::Ce P::Cf P::Cg P::Ch P::Ci P::Cj P::Ck P::Cl P::Cm P::Cn P::Co P::Cq P::Cr P::Cs P::Ct P::Cv P::Cw P::Cy P::Cz P::CB P::CC P::CD P::CE P::CF P::tE::Ro::Rp P::tE::Rq::Rr::Rs::f7 uE (f7 Qz (f7 uF (CG P::CH P::CJ P::CK P::CL P::Rt::Rx::CM P::f7 uG (CN P::f7 uH (CO P::f7 uI (f7 uJ (f7 uK (f7 uL (CP P::f7 uM (CQ P::f7 uN (f7 uP (f7 uQ (f7 uR (f7 uS (f7 uT (f7 uU (f7 uV (f7 uW (f7 uX (f7 uY (f7 uZ (f7 u0 (f7 u4 (f7 u5 (f7 u6 (f7 QA (f7 QB (f7 u7 (f7 u8 (CR P::f7 u9 (f7 va (f7 vb (f7 vc (f7 vd (f7 ve (f7 vf (f7 vg (tE::Ry::Rz P::tE::RA::RC::RE::f7 vh (f7 vi (f7 QC (f7 QD (f7 QE (f7 QF (f7 QG (f7 QH (f7 QI (f7 QJ (f7 QK (f7 QL (f7 QM (f7 QN (f7 QO (f7 QP (f7 QQ (f7 QR (f7 QS (CT P::CU P::vH P::CV P::CW P::RF::RG::f7 vj (f7 vk (f7 vm (f7 vo (f7 vp (f7 vq (f7 vr (f7 vw (f7 vx (f7 vy (f7 vz (f7 vA (f7 vB (f7 vC (f7 vD (f7 vE (f7 vF (f7 vG ([]))))))))))))))))))))))))))))))))))))))))))))))))))))))))))))))))))))))))))))))
end Mine
end
section
open PySem PySem.W PyProof.Rows
namespace Mine
noncomputable def vI:Cd:=⟨2,[.int 0],0,A8.w⟩
noncomputable def vJ:Cd:=⟨2,[.int 0],0,A9.w⟩
noncomputable def vK:Cd:=⟨3,[],0,Ba.w⟩
noncomputable def vL:Cd:=⟨2,[],2,Bb.w⟩
noncomputable def vM:Cd:=⟨2,[],5,Bc.w⟩
noncomputable def vO:Cd:=⟨3,[],5,Bd.w⟩
noncomputable def vP:Cd:=⟨3,[],2,Be.w⟩
noncomputable def vQ:Cd:=⟨4,[],1,Bf.w⟩
noncomputable def vS:Cd:=⟨2,[],1,Bg.w⟩
noncomputable def vT:Cd:=⟨1,[],1,Bh.w⟩
noncomputable def vU:Cd:=⟨2,[],1,Bi.w⟩
noncomputable def vV:Cd:=⟨1,[],0,Bj.w⟩
noncomputable def vW:Cd:=⟨3,[],0,Bk.w⟩
noncomputable def vX:Cd:=⟨1,[],1,Bl.w⟩
noncomputable def vY:Cd:=⟨2,[],5,Bm.w⟩
noncomputable def vZ:Cd:=⟨2,[],0,Bn.w⟩
noncomputable def v0:Cd:=⟨1,[],0,Bo.w⟩
noncomputable def v3:Cd:=⟨1,[],1,Bp.w⟩
noncomputable def v5:Cd:=⟨1,[],2,Bq.w⟩
noncomputable def v6:Cd:=⟨1,[],3,Bt.w⟩
noncomputable def v8:Cd:=⟨1,[],0,Bu.w⟩
noncomputable def v9:Cd:=⟨2,[],2,Bv.w⟩
noncomputable def wd:Cd:=⟨2,[],3,Bw.w⟩
noncomputable def wg:Cd:=⟨2,[],5,Bx.w⟩
noncomputable def wj:Cd:=⟨2,[],0,By.w⟩
noncomputable def wm:Cd:=⟨2,[],4,Bz.w⟩
noncomputable def wn:Cd:=⟨1,[],1,BA.w⟩
noncomputable def wo:Cd:=⟨2,[],1,BB.w⟩
noncomputable def wq:Cd:=⟨2,[],1,BC.w⟩
noncomputable def wu:Cd:=⟨2,[],2,BD.w⟩
noncomputable def wv:Cd:=⟨2,[],1,BE.w⟩
noncomputable def ww:Cd:=⟨4,[],4,BF.w⟩
noncomputable def wx:Cd:=⟨3,[],5,BG.w⟩
noncomputable def wy:Cd:=⟨1,[],2,BJ.w⟩
noncomputable def wz:Cd:=⟨1,[],8,BK.w⟩
noncomputable def wA:Cd:=⟨1,[],2,BL.w⟩
noncomputable def wB:Cd:=⟨1,[],0,BM.w⟩
noncomputable def wC:Cd:=⟨2,[],0,BN.w⟩
noncomputable def wD:Cd:=⟨2,[],0,BO.w⟩
noncomputable def wE:Cd:=⟨3,[],3,BP.w⟩
noncomputable def wF:Cd:=⟨1,[],6,BQ.w⟩
noncomputable def wG:Cd:=⟨3,[],8,BR.w⟩
noncomputable def wH:Cd:=⟨4,[],6,BS.w⟩
noncomputable def wI:Cd:=⟨4,[],5,BU.w⟩
noncomputable def wJ:Cd:=⟨5,[],1,BV.w⟩
noncomputable def wK:Cd:=⟨5,[],5,BW.w⟩
noncomputable def wL:Cd:=⟨1,[],4,BX.w⟩
noncomputable def wM:Cd:=⟨4,[],2,BY.w⟩
noncomputable def wN:Cd:=⟨6,[],7,BZ.w⟩
noncomputable def wO:Cd:=⟨5,[],9,B2.w⟩
noncomputable def wP:Cd:=⟨1,[],13,B3.w⟩
noncomputable def wQ:Cd:=⟨1,[],1,A6.w⟩
noncomputable def wR:Cd:=⟨2,[],1,A7.w⟩
noncomputable def wS:Cd:=⟨2,[],0,BH.w⟩
noncomputable def wT:Cd:=⟨2,[],0,BI.w⟩
noncomputable def tab:List (Str×Cd):=[(ac "str_type",vI),(ac "num_type",vJ),(ac "array_type",vK),(ac "last_mark",vL),(ac "needed_to_last",vM),(ac "one_rest",vO),(ac "tuple_type",vP),(ac "new_param",vQ),(ac "parts_of",vS),(ac "whole_of_row",vT),(ac "regular_twin",vU),(ac "join_bools",vV),(ac "stays_beside",vW),(ac "top_of",vX),(ac "union",vY),(ac "add_undef",vZ),(ac "index_kids",v0),(ac "sig_kids",v3),(ac "object_kids",v5),(ac "row_kids",v6),(ac "row_binds",v8),(ac "inner_kids",v9),(ac "reached",wd),(ac "free_params",wg),(ac "has_params",wj),(ac "is_open",wm),(ac "has_spread",wn),(ac "kindsplice_spread_kind",wo),(ac "union_places",wq),(ac "kindsplice_list_part",wu),(ac "cut_open",wv),(ac "splice_union",ww),(ac "splice",wx),(ac "_law_join",wy),(ac "_law_settled",wz),(ac "_law_choices",wA),(ac "_law_forms",wB),(ac "_law_atoms",wC),(ac "_law_elems",wD),(ac "_law_seen",wE),(ac "_law_kinds",wF),(ac "_law_list",wG),(ac "_law_joined",wH),(ac "_law_met",wI),(ac "_law_single",wJ),(ac "_law_element",wK),(ac "_law_lost",wL),(ac "_law_whole",wM),(ac "_law_parted",wN),(ac "_law_pieces",wO),(ac "law",wP)]
noncomputable def gM:List ((Nat×Str)×Cd):=[((0,ac "__init__"),wQ),((0,ac "put"),wR),((1,ac "__init__"),wS),((1,ac "force"),wT)]
theorem aEQ:tab.lookup (ac "str_type")=some vI:=by kernel_rfl
theorem aER:tab.lookup (ac "num_type")=some vJ:=by kernel_rfl
theorem aES:tab.lookup (ac "array_type")=some vK:=by kernel_rfl
theorem aET:tab.lookup (ac "last_mark")=some vL:=by kernel_rfl
theorem aEU:tab.lookup (ac "needed_to_last")=some vM:=by kernel_rfl
theorem aEV:tab.lookup (ac "one_rest")=some vO:=by kernel_rfl
theorem aEW:tab.lookup (ac "tuple_type")=some vP:=by kernel_rfl
theorem aEX:tab.lookup (ac "new_param")=some vQ:=by kernel_rfl
theorem aEY:tab.lookup (ac "parts_of")=some vS:=by kernel_rfl
theorem aEZ:tab.lookup (ac "whole_of_row")=some vT:=by kernel_rfl
theorem aFa:tab.lookup (ac "regular_twin")=some vU:=by kernel_rfl
theorem aFb:tab.lookup (ac "join_bools")=some vV:=by kernel_rfl
theorem aFc:tab.lookup (ac "stays_beside")=some vW:=by kernel_rfl
theorem aFd:tab.lookup (ac "top_of")=some vX:=by kernel_rfl
theorem aFe:tab.lookup (ac "union")=some vY:=by kernel_rfl
theorem aFf:tab.lookup (ac "add_undef")=some vZ:=by kernel_rfl
theorem aFg:tab.lookup (ac "index_kids")=some v0:=by kernel_rfl
theorem aFh:tab.lookup (ac "sig_kids")=some v3:=by kernel_rfl
theorem aFi:tab.lookup (ac "object_kids")=some v5:=by kernel_rfl
theorem aFj:tab.lookup (ac "row_kids")=some v6:=by kernel_rfl
theorem aFk:tab.lookup (ac "row_binds")=some v8:=by kernel_rfl
theorem aFl:tab.lookup (ac "inner_kids")=some v9:=by kernel_rfl
theorem aFm:tab.lookup (ac "reached")=some wd:=by kernel_rfl
theorem aFn:tab.lookup (ac "free_params")=some wg:=by kernel_rfl
theorem aFo:tab.lookup (ac "has_params")=some wj:=by kernel_rfl
theorem aFp:tab.lookup (ac "is_open")=some wm:=by kernel_rfl
theorem aFq:tab.lookup (ac "has_spread")=some wn:=by kernel_rfl
theorem aFr:tab.lookup (ac "kindsplice_spread_kind")=some wo:=by kernel_rfl
theorem aFs:tab.lookup (ac "union_places")=some wq:=by kernel_rfl
theorem aFt:tab.lookup (ac "kindsplice_list_part")=some wu:=by kernel_rfl
theorem aFu:tab.lookup (ac "cut_open")=some wv:=by kernel_rfl
theorem aFv:tab.lookup (ac "splice_union")=some ww:=by kernel_rfl
theorem aFw:tab.lookup (ac "splice")=some wx:=by kernel_rfl
theorem aFx:tab.lookup (ac "_law_join")=some wy:=by kernel_rfl
theorem aFy:tab.lookup (ac "_law_settled")=some wz:=by kernel_rfl
theorem aFz:tab.lookup (ac "_law_choices")=some wA:=by kernel_rfl
theorem aFA:tab.lookup (ac "_law_forms")=some wB:=by kernel_rfl
theorem aFB:tab.lookup (ac "_law_atoms")=some wC:=by kernel_rfl
theorem aFC:tab.lookup (ac "_law_elems")=some wD:=by kernel_rfl
theorem aFD:tab.lookup (ac "_law_seen")=some wE:=by kernel_rfl
theorem aFE:tab.lookup (ac "_law_kinds")=some wF:=by kernel_rfl
theorem aFF:tab.lookup (ac "_law_list")=some wG:=by kernel_rfl
theorem aFG:tab.lookup (ac "_law_joined")=some wH:=by kernel_rfl
theorem aFH:tab.lookup (ac "_law_met")=some wI:=by kernel_rfl
theorem aFI:tab.lookup (ac "_law_single")=some wJ:=by kernel_rfl
theorem aFJ:tab.lookup (ac "_law_element")=some wK:=by kernel_rfl
theorem aFK:tab.lookup (ac "_law_lost")=some wL:=by kernel_rfl
theorem aFL:tab.lookup (ac "_law_whole")=some wM:=by kernel_rfl
theorem aFM:tab.lookup (ac "_law_parted")=some wN:=by kernel_rfl
theorem aFN:tab.lookup (ac "_law_pieces")=some wO:=by kernel_rfl
theorem aFO:tab.lookup (ac "law")=some wP:=by kernel_rfl
theorem aFP:gM.lookup (0,ac "__init__")=some wQ:=by kernel_rfl
theorem aFQ:gM.lookup (0,ac "put")=some wR:=by kernel_rfl
theorem aFR:gM.lookup (1,ac "__init__")=some wS:=by kernel_rfl
theorem aFS:gM.lookup (1,ac "force")=some wT:=by kernel_rfl
noncomputable def CS:Nat→R
 |0=>⟨fun _ _ _ _=>False,fun _ _ _ _ _=>False⟩
 |m+1=>⟨fun f vs o K=>am (tab.lookup f) fun c=>c.run (CS m) vs o K,fun k f vs o K=>am (gM.lookup (k,f)) fun c=>c.run (CS m) vs o K⟩
structure m4 (W:Wd)(a:Addr)(c:Cd)(x:XB)(q:Arguments×Scope×List Stmt)(fd:FuncData)(D:List Value):Prop where
 w:c.c=x.w
 l:Lk x q
 s:fd.scope=q.2.1
 at':AJ W a c (uD q.2.1) (oQ q.2.1).length q.2.2 fd (qU q.1) D
theorem m4.ok {W:Wd}[cE W](hlim:W.Z.hT.NoLimit){a:Addr}{c:Cd}{x:XB}{q:Arguments×Scope×List Stmt}{fd:FuncData}{D:List Value}(A:m4 W a c x q fd D){n:Nat}{r:R}(rok:mK W n r){vs:List PV}{o:O}{K:PV→O→Prop}(h:c.run r vs o K):mJ W.Z (n+2) a vs o K:=
 Kk hlim A.at' (fun f e=>A.w▸A.l.src▸x.ok f q.2.2 (by rw[e,A.s];exact bl A.l.chk)) rok h
theorem wU {W:Wd}[cE W](hlim:W.Z.hT.NoLimit)(T:∀f c,tab.lookup f=some c→∃x q fd D,m4 W (W.fa f) c x q fd D)(M:∀k m c,gM.lookup (k,m)=some c→∃x q fd D,m4 W (W.ma k m) c x q fd D):∀n,mK W (2*n) (CS n)
 |0=>⟨fun _ _ _ _ _ h=>h.elim,fun _ _ _ _ _ _ h=>h.elim⟩
 |n+1=>⟨fun f vs o K _ h=>am.elim h fun c e h=>(T f c e).elim fun x z=>z.elim fun q z=>z.elim fun fd z=>z.elim fun D z=>z.ok hlim (wU hlim T M n) h,
  fun k m vs o K _ h=>am.elim h fun c e h=>(M k m c e).elim fun x z=>z.elim fun q z=>z.elim fun fd z=>z.elim fun D z=>z.ok hlim (wU hlim T M n) h⟩
def Lv (m:Nat)(r:R):Prop:=∃j,r=CS (j+m)
theorem Lv.of {m m':Nat}{r:R}(h:Lv m r)(l:m'≤m):Lv m' r:=h.elim fun j e=>⟨j+(m - m'),e.trans (congrArg CS (by rw[dS,Nat.sub_add_cancel l]))⟩
theorem Lv.call {m:Nat}{r:R}{f:Str}{c:Cd}{vs:List PV}{o:O}{K:PV→O→Prop}(h:Lv (m+1) r)(e:tab.lookup f=some c)(k:∀r,Lv m r→c.run r vs o K):r.call f vs o K:=
 h.elim fun j z=>by subst z;show am (tab.lookup f) _;rw[e];exact k _ ⟨j,rfl⟩
theorem Lv.meth {m:Nat}{r:R}{i:Nat}{f:Str}{c:Cd}{vs:List PV}{o:O}{K:PV→O→Prop}(h:Lv (m+1) r)(e:gM.lookup (i,f)=some c)(k:∀r,Lv m r→c.run r vs o K):r.meth i f vs o K:=
 h.elim fun j z=>by subst z;show am (gM.lookup (i,f)) _;rw[e];exact k _ ⟨j,rfl⟩
end Mine
end
section
set_option autoImplicit false
open PySem PySem.W PyProof.Rows
namespace Mine
noncomputable def RH:FuncData:=⟨dZ,dZ,⟨[],[],none,[],[],none,[]⟩,.stmts [],⟨.function,[],false,false,[]⟩,0,[],.none,.none,.none,.none,none,.none,.none,0⟩
noncomputable def g7 (K:Frag)(f:Addr):FuncData:=match K.lookup f with
 |some ⟨_,_,.func fd,_⟩=>fd
 | _=>RH
noncomputable def wV (K:Frag)(f:Addr):Bool:=match K.lookup f with
 |some ⟨_,_,.func fd,_⟩=>true
 | _=>false
theorem RI {K:Frag}{f:Addr}(h:wV K f=true):∃oc od osl,K.lookup f=some ⟨oc,od,.func (g7 K f),osl⟩:=by
 unfold wV at h
 split at h
 ·rename_i oc od fd osl e
  exact⟨oc,od,osl,by rw[e];unfold g7;rw[e]⟩
 ·cases h
structure aV (K:Frag)(a:Addr)(c:Cd)(q:Arguments×Scope×List Stmt)(D:List Value):Prop where
 b:(wV K a&&(codeIn K (g7 K a).code (g7 K a).qualname&&(qU q.1).length==c.n+D.length))=true
 f:((g7 K a).scope,(g7 K a).body,(g7 K a).closure,(g7 K a).globals,(g7 K a).builtins)=(q.2.1,.stmts q.2.2,[],dU,du)
 ar:iZ c.n fun l=>∀S:Setting,peek K S (bindArgs (g7 K a) ⟨l,[]⟩)=some ((qU q.1).zip (l++D))
theorem iZ.map {α:Type}:∀{n:Nat} {Q Q':List α→Prop},(∀l,Q l→Q' l)→iZ n Q→iZ n Q'
 |0,_,_=>fun f h=>f _ h
 |n+1,_,_=>fun f h a=>iZ.map (fun l=>f (a::l)) (h a)
theorem aV.to {W:Wd}{a:Addr}{c:Cd}{q:Arguments×Scope×List Stmt}{x:XB}{D:List Value}(A:aV W.K a c q D)(l:Lk x q)(w:c.c=x.w)(d:RdL (fT W.Z.hT) c.ds D):∃x q fd D,m4 W a c x q fd D:=
 have f:=mq A.f
 have f2:=mq f.2
 have f3:=mq f2.2
 have f4:=mq f3.2
 ⟨x,q,g7 W.K a,D,w,l,f.1,RI (bl A.b),by show qL (g7 W.K a).scope _ _ _=true;rw[f.1];exact br l.chk,aN (br (br A.b)),f2.1,f3.1,f4.1,f4.2,bl (br A.b),A.ar.map fun l h s X M _ _ _ q=>(Looks.of_peek (M:=M) X (h _)).here q,d⟩
theorem RJ (p:Params)(R:Frag):aV (KP p++R) 135 vI (an 44) [.int 0 422]:=⟨by kernel_rfl,by kernel_rfl,by intro a b S;kernel_rfl⟩
theorem RK (p:Params)(R:Frag):aV (KP p++R) 143 vJ (an 45) [.int 0 432]:=⟨by kernel_rfl,by kernel_rfl,by intro a b S;kernel_rfl⟩
theorem RL (p:Params)(R:Frag):aV (KP p++R) 151 vK (an 46) []:=⟨by kernel_rfl,by kernel_rfl,by intro a b c S;kernel_rfl⟩
theorem RN (p:Params)(R:Frag):aV (KP p++R) 158 vL (an 47) []:=⟨by kernel_rfl,by kernel_rfl,by intro a b S;kernel_rfl⟩
theorem RO (p:Params)(R:Frag):aV (KP p++R) 165 vM (an 48) []:=⟨by kernel_rfl,by kernel_rfl,by intro a b S;kernel_rfl⟩
theorem RP (p:Params)(R:Frag):aV (KP p++R) 172 vO (an 49) []:=⟨by kernel_rfl,by kernel_rfl,by intro a b c S;kernel_rfl⟩
theorem RQ (p:Params)(R:Frag):aV (KP p++R) 178 vP (an 50) []:=⟨by kernel_rfl,by kernel_rfl,by intro a b c S;kernel_rfl⟩
theorem RR (p:Params)(R:Frag):aV (KP p++R) 186 vQ (an 51) []:=⟨by kernel_rfl,by kernel_rfl,by intro a b c d S;kernel_rfl⟩
theorem RS (p:Params)(R:Frag):aV (KP p++R) 193 vS (an 52) []:=⟨by kernel_rfl,by kernel_rfl,by intro a b S;kernel_rfl⟩
theorem RT (p:Params)(R:Frag):aV (KP p++R) 200 vT (an 53) []:=⟨by kernel_rfl,by kernel_rfl,by intro a S;kernel_rfl⟩
theorem RU (p:Params)(R:Frag):aV (KP p++R) 207 vU (an 54) []:=⟨by kernel_rfl,by kernel_rfl,by intro a b S;kernel_rfl⟩
theorem RV (p:Params)(R:Frag):aV (KP p++R) 214 vV (an 55) []:=⟨by kernel_rfl,by kernel_rfl,by intro a S;kernel_rfl⟩
theorem RW (p:Params)(R:Frag):aV (KP p++R) 221 vW (an 56) []:=⟨by kernel_rfl,by kernel_rfl,by intro a b c S;kernel_rfl⟩
theorem RX (p:Params)(R:Frag):aV (KP p++R) 228 vX (an 57) []:=⟨by kernel_rfl,by kernel_rfl,by intro a S;kernel_rfl⟩
theorem RY (p:Params)(R:Frag):aV (KP p++R) 233 vY (an 58) []:=⟨by kernel_rfl,by kernel_rfl,by intro a b S;kernel_rfl⟩
theorem RZ (p:Params)(R:Frag):aV (KP p++R) 240 vZ (an 59) []:=⟨by kernel_rfl,by kernel_rfl,by intro a b S;kernel_rfl⟩
theorem R0 (p:Params)(R:Frag):aV (KP p++R) 247 v0 (an 60) []:=⟨by kernel_rfl,by kernel_rfl,by intro a S;kernel_rfl⟩
theorem R3 (p:Params)(R:Frag):aV (KP p++R) 252 v3 (an 61) []:=⟨by kernel_rfl,by kernel_rfl,by intro a S;kernel_rfl⟩
theorem R4 (p:Params)(R:Frag):aV (KP p++R) 257 v5 (an 62) []:=⟨by kernel_rfl,by kernel_rfl,by intro a S;kernel_rfl⟩
theorem R5 (p:Params)(R:Frag):aV (KP p++R) 262 v6 (an 63) []:=⟨by kernel_rfl,by kernel_rfl,by intro a S;kernel_rfl⟩
theorem R6 (p:Params)(R:Frag):aV (KP p++R) 269 v8 (an 64) []:=⟨by kernel_rfl,by kernel_rfl,by intro a S;kernel_rfl⟩
theorem R7 (p:Params)(R:Frag):aV (KP p++R) 276 v9 (an 65) []:=⟨by kernel_rfl,by kernel_rfl,by intro a b S;kernel_rfl⟩
theorem R8 (p:Params)(R:Frag):aV (KP p++R) 283 wd (an 66) []:=⟨by kernel_rfl,by kernel_rfl,by intro a b S;kernel_rfl⟩
theorem R9 (p:Params)(R:Frag):aV (KP p++R) 300 wg (an 69) []:=⟨by kernel_rfl,by kernel_rfl,by intro a b S;kernel_rfl⟩
theorem Sa (p:Params)(R:Frag):aV (KP p++R) 307 wj (an 70) []:=⟨by kernel_rfl,by kernel_rfl,by intro a b S;kernel_rfl⟩
theorem Sb (p:Params)(R:Frag):aV (KP p++R) 315 wm (an 73) []:=⟨by kernel_rfl,by kernel_rfl,by intro a b S;kernel_rfl⟩
theorem Sc (p:Params)(R:Frag):aV (KP p++R) 322 wn (an 76) []:=⟨by kernel_rfl,by kernel_rfl,by intro a S;kernel_rfl⟩
theorem Sd (p:Params)(R:Frag):aV (KP p++R) 329 wo (an 77) []:=⟨by kernel_rfl,by kernel_rfl,by intro a b S;kernel_rfl⟩
theorem Se (p:Params)(R:Frag):aV (KP p++R) 336 wq (an 78) []:=⟨by kernel_rfl,by kernel_rfl,by intro a b S;kernel_rfl⟩
theorem Sf (p:Params)(R:Frag):aV (KP p++R) 343 wu (an 79) []:=⟨by kernel_rfl,by kernel_rfl,by intro a b S;kernel_rfl⟩
theorem Sg (p:Params)(R:Frag):aV (KP p++R) 348 wv (an 80) []:=⟨by kernel_rfl,by kernel_rfl,by intro a b S;kernel_rfl⟩
theorem Sh (p:Params)(R:Frag):aV (KP p++R) 355 ww (an 81) []:=⟨by kernel_rfl,by kernel_rfl,by intro a b c d S;kernel_rfl⟩
theorem Si (p:Params)(R:Frag):aV (KP p++R) 362 wx (an 82) []:=⟨by kernel_rfl,by kernel_rfl,by intro a b c S;kernel_rfl⟩
theorem Sj (p:Params)(R:Frag):aV (KP p++R) 516 wy (an 88) []:=⟨by kernel_rfl,by kernel_rfl,by intro a S;kernel_rfl⟩
theorem Sk (p:Params)(R:Frag):aV (KP p++R) 521 wz (an 89) []:=⟨by kernel_rfl,by kernel_rfl,by intro a S;kernel_rfl⟩
theorem Sl (p:Params)(R:Frag):aV (KP p++R) 526 wA (an 90) []:=⟨by kernel_rfl,by kernel_rfl,by intro a S;kernel_rfl⟩
theorem Sm (p:Params)(R:Frag):aV (KP p++R) 531 wB (an 91) []:=⟨by kernel_rfl,by kernel_rfl,by intro a S;kernel_rfl⟩
theorem Sn (p:Params)(R:Frag):aV (KP p++R) 538 wC (an 92) []:=⟨by kernel_rfl,by kernel_rfl,by intro a b S;kernel_rfl⟩
theorem So (p:Params)(R:Frag):aV (KP p++R) 543 wD (an 93) []:=⟨by kernel_rfl,by kernel_rfl,by intro a b S;kernel_rfl⟩
theorem Sp (p:Params)(R:Frag):aV (KP p++R) 550 wE (an 94) []:=⟨by kernel_rfl,by kernel_rfl,by intro a b c S;kernel_rfl⟩
theorem Sq (p:Params)(R:Frag):aV (KP p++R) 557 wF (an 95) []:=⟨by kernel_rfl,by kernel_rfl,by intro a S;kernel_rfl⟩
theorem Sr (p:Params)(R:Frag):aV (KP p++R) 564 wG (an 96) []:=⟨by kernel_rfl,by kernel_rfl,by intro a b c S;kernel_rfl⟩
theorem Ss (p:Params)(R:Frag):aV (KP p++R) 569 wH (an 97) []:=⟨by kernel_rfl,by kernel_rfl,by intro a b c d S;kernel_rfl⟩
theorem Su (p:Params)(R:Frag):aV (KP p++R) 574 wI (an 98) []:=⟨by kernel_rfl,by kernel_rfl,by intro a b c d S;kernel_rfl⟩
theorem Sv (p:Params)(R:Frag):aV (KP p++R) 581 wJ (an 99) []:=⟨by kernel_rfl,by kernel_rfl,by intro a b c d e S;kernel_rfl⟩
theorem Sw (p:Params)(R:Frag):aV (KP p++R) 588 wK (an 100) []:=⟨by kernel_rfl,by kernel_rfl,by intro a b c d e S;kernel_rfl⟩
theorem Sx (p:Params)(R:Frag):aV (KP p++R) 595 wL (an 101) []:=⟨by kernel_rfl,by kernel_rfl,by intro a S;kernel_rfl⟩
theorem Sy (p:Params)(R:Frag):aV (KP p++R) 600 wM (an 102) []:=⟨by kernel_rfl,by kernel_rfl,by intro a b c d S;kernel_rfl⟩
theorem Sz (p:Params)(R:Frag):aV (KP p++R) 605 wN (an 103) []:=⟨by kernel_rfl,by kernel_rfl,by intro a b c d e f S;kernel_rfl⟩
theorem SA (p:Params)(R:Frag):aV (KP p++R) 610 wO (an 104) []:=⟨by kernel_rfl,by kernel_rfl,by intro a b c d e S;kernel_rfl⟩
theorem SB (p:Params)(R:Frag):aV (KP p++R) 617 wP (an 105) []:=⟨by kernel_rfl,by kernel_rfl,by intro a S;kernel_rfl⟩
theorem SC (p:Params)(R:Frag):aV (KP p++R) 106 wQ (cm 43 0) []:=⟨by kernel_rfl,by kernel_rfl,by intro a S;kernel_rfl⟩
theorem SD (p:Params)(R:Frag):aV (KP p++R) 120 wR (cm 43 2) []:=⟨by kernel_rfl,by kernel_rfl,by intro a b S;kernel_rfl⟩
theorem SE (p:Params)(R:Frag):aV (KP p++R) 376 wS (cm 86 0) []:=⟨by kernel_rfl,by kernel_rfl,by intro a b S;kernel_rfl⟩
theorem SF (p:Params)(R:Frag):aV (KP p++R) 383 wT (cm 86 1) []:=⟨by kernel_rfl,by kernel_rfl,by intro a b S;kernel_rfl⟩
noncomputable def SH:List (Str×Addr):=[(ac "str_type",135),(ac "num_type",143),(ac "array_type",151),(ac "last_mark",158),(ac "needed_to_last",165),(ac "one_rest",172),(ac "tuple_type",178),(ac "new_param",186),(ac "parts_of",193),(ac "whole_of_row",200),(ac "regular_twin",207),(ac "join_bools",214),(ac "stays_beside",221),(ac "top_of",228),(ac "union",233),(ac "add_undef",240),(ac "index_kids",247),(ac "sig_kids",252),(ac "object_kids",257),(ac "row_kids",262),(ac "row_binds",269),(ac "inner_kids",276),(ac "reached",283),(ac "free_params",300),(ac "has_params",307),(ac "is_open",315),(ac "has_spread",322),(ac "kindsplice_spread_kind",329),(ac "union_places",336),(ac "kindsplice_list_part",343),(ac "cut_open",348),(ac "splice_union",355),(ac "splice",362),(ac "_law_join",516),(ac "_law_settled",521),(ac "_law_choices",526),(ac "_law_forms",531),(ac "_law_atoms",538),(ac "_law_elems",543),(ac "_law_seen",550),(ac "_law_kinds",557),(ac "_law_list",564),(ac "_law_joined",569),(ac "_law_met",574),(ac "_law_single",581),(ac "_law_element",588),(ac "_law_lost",595),(ac "_law_whole",600),(ac "_law_parted",605),(ac "_law_pieces",610),(ac "law",617)]
noncomputable def SI:List ((Nat×Str)×Addr):=[((0,ac "__init__"),106),((0,ac "put"),120),((1,ac "__init__"),376),((1,ac "force"),383)]
noncomputable def wW:Value→Option Int
 | .int i _=>some i
 | _=>none
noncomputable def CX:Value→Option Str
 | .str i _=>some i
 | _=>none
noncomputable def ky:Value→Option Addr
 | .ref a=>some a
 | _=>none
theorem CY {v:Value}{i:Int}(e:wW v=some i):∃t,v= .int i t:=by cases v<;>cases e;exact⟨_,rfl⟩
theorem SJ {v:Value}{i:Str}(e:CX v=some i):∃t,v= .str i t:=by cases v<;>cases e;exact⟨_,rfl⟩
theorem wX {v:Value}{i:Addr}(e:ky v=some i):v= .ref i:=by cases v<;>cases e;rfl
noncomputable def wY:Obj→Option (List Value)
 |⟨.type t,_,.seq vs _,_⟩=>if (t=="tuple")=true then some vs.toList else none
 | _=>none
theorem CZ {o:Obj}{vs:List Value}(e:wY o=some vs):o.cls= .type "tuple"∧∃n,o.data= .seq vs.toArray n:=by
 unfold wY at e
 split at e
 ·rename_i t _ ws n _
  have q:=cG.mp e
  cases aN q.1
  exact⟨rfl,n,by rw[←a8 q.2]⟩
 ·cases e
noncomputable def qV (K:Frag)(v:Value):Option (List Value):=(ky v).bind fun a=>(K.lookup a).bind wY
mutual
noncomputable def m6 (K:Frag):aa→Value→Bool
 | .int j=>fun v=>wW v==some j
 | .str x=>fun v=>CX v==some x
 | .tuple xs=>fun v=>match qV K v with
  |some vs=>gE vs.length 100&&rdBL K xs vs
  |none=>false
 | _=>fun _=>false
noncomputable def rdBL (K:Frag):List aa→List Value→Bool
 |[]=>fun vs=>vs.isEmpty
 |x::xs=>fun vs=>match vs with
  |v::ws=>m6 K x v&&rdBL K xs ws
  |[]=>false
end
section
variable {K:Frag}{hT:Heap}
theorem C7 {a:Addr}{o:Obj}(e:hT.get? a=some o):fT hT a= .frz o:=by unfold fT;rw[e]
mutual
theorem wZ (X:K.In hT):∀(d:aa) (v:Value),m6 K d v=true→Rd (fT hT) d v
 | .int j,v=>fun h=>CY (aN h)
 | .str x,v=>fun h=>SJ (aN h)
 | .tuple xs,v=>fun h=>by
  cases e:qV K v with
  |none=>exact(cT ((show m6 K (.tuple xs) v=false by show (match qV K v with|some vs=> _|none=>false)= _;rw[e]).symm.trans h)).elim
  |some vs=>
   have h:(gE vs.length 100&&rdBL K xs vs)=true:=(show m6 K (.tuple xs) v=(gE vs.length 100&&rdBL K xs vs) by show (match qV K v with|some vs=> _|none=>false)= _;rw[e]).symm.trans h
   exact(bG.mp e).elim fun a q=>(bG.mp q.2).elim fun o z=>(CZ z.2).2.elim fun n w=>
    ⟨a,o,wX q.1,C7 (X _ _ z.1),vs,n,(CZ z.2).1,w,ai (jc (bl h)) (by rw[ff];decide),rdBL_ok X xs vs (br h)⟩
 | .none,_=>fun h=>nomatch h
 | .bool _,_=>fun h=>nomatch h
 | .list _,_=>fun h=>nomatch h
 | .dict _,_=>fun h=>nomatch h
theorem rdBL_ok (X:K.In hT):∀(ds:List aa) (vs:List Value),rdBL K ds vs=true→RdL (fT hT) ds vs
 |[],vs=>fun h=>List.isEmpty_iff.mp h
 |x::xs,[]=>fun h=>nomatch h
 |x::xs,v::ws=>fun h=>⟨v,ws,rfl,wZ X x v (bl h),rdBL_ok X xs ws (br h)⟩
end
end
noncomputable def SK (K:Frag)(e:DictEntry)(q:Int×aa):Bool:=wW e.key==some q.1&&(e.hash==hashInt q.1&&m6 K q.2 e.val)
noncomputable def w0 (K:Frag):List DictEntry→List (Int×aa)→Bool
 |[],[]=>true
 |e::es,q::qs=>SK K e q&&w0 K es qs
 | _,_=>false
noncomputable def w7:Obj→Option (List DictEntry)
 |⟨.type t,none,.dict es _,⟨[]⟩⟩=>if (t=="dict")=true then some es.toList else none
 | _=>none
noncomputable def C8 (K:Frag):PV→Value→Bool
 | .d d=>m6 K d
 | .kd kvs=>fun v=>(((ky v).bind fun a=>if (a !=jV)=true then (K.lookup a).bind w7 else none).map fun es=>w0 K es kvs)==some true&&decide (kvs.map (·.1)).Nodup
 | _=>fun _=>false
theorem SL {o:Obj}{l:List DictEntry}(e:w7 o=some l):o.ExactDict∧∃es ep,o.data= .dict es ep∧es.toList=l:=by
 unfold w7 at e
 split at e
 ·rename_i t es n
  have q:=cG.mp e
  cases aN q.1
  exact⟨⟨rfl,rfl,rfl⟩,es,n,rfl,a8 q.2⟩
 ·cases e
section
variable {K:Frag}{Z:Bs}
theorem C9 (X:K.In Z.hT):∀(l:List DictEntry) (kvs:List (Int×aa)),w0 K l kvs=true→
 ∃us:List (Int×Value),(∀e∈l,∃k,(bR Z.prog Z.w).is k e.key=true∧e.hash=(bR Z.prog Z.w).hash k)∧Pairs (bR Z.prog Z.w) l us∧dA (fT Z.hT) kvs us
 |[],[],_=>⟨[],fun _ h=>(aJ h).elim,.nil,rfl,rfl⟩
 |[],_:: _,h=>nomatch h
 | _:: _,[],h=>nomatch h
 |e::l,(k,d)::kvs,h=>by
  obtain⟨us,h1,h2,h3⟩:=C9 X l kvs (br h)
  have h5:=bl h
  obtain⟨t,hk⟩:=CY (aN (bl h5))
  have is:(bR Z.prog Z.w).is k e.key=true:=by rw[hk];simp [bR,Value.isInt]
  refine⟨(k,e.val)::us,fun e' he=>(bC.mp he).elim (fun z=>⟨k,z▸is,z▸aN (bl (br h5))⟩) (h1 e'),.cons is rfl h2,congrArg (k::·) h3.1,e.val,_,rfl,wZ X d e.val (br (br h5)),h3.2⟩
theorem SM (X:K.In Z.hT):∀(p:PV) (v:Value),C8 K p v=true→bL Z (fT Z.hT) p v
 | .d d,v=>fun h=>wZ X d v h
 | .kd kvs,v=>fun h=>by
  obtain⟨l,e,h1⟩:=cC.mp (aN (bl h))
  obtain⟨a,ea,e⟩:=bG.mp e
  have q:=cG.mp e
  obtain⟨o,eo,e⟩:=bG.mp q.2
  obtain⟨hx,es,ep,hd,rfl⟩:=SL e
  obtain⟨us,h2,h3,h4⟩:=C9 X es.toList kvs h1
  exact⟨a,o,wX ea,C7 (X _ _ eo),us,bne_iff_ne.mp q.1,⟨es,ep,hx,hd,fun e he=>h2 e (Array.mem_toList_iff.mpr he),h3,h4.1▸of_decide_eq_true (br h)⟩,h4⟩
 | .o _,_=>fun h=>nomatch h
 | .rg _,_=>fun h=>nomatch h
end
theorem Da {K:Frag}{a:Addr}{o:Obj}(h:K.lookup a=some o)(x:Str):nsIn K a x=lookIn x o:=by
 unfold nsIn lookIn
 rw[h]
 obtain⟨c,d,dt,sl⟩:=o
 cases dt<;>rfl
noncomputable def lK {α:Type}(P:α→Prop):List α→Prop
 |[]=>True
 |a::l=>P a∧lK P l
theorem lK.mem {α:Type}{P:α→Prop}{a:α}:∀{l:List α},lK P l→a∈l→P a
 |[],_,h=>(aJ h).elim
 |b::l,h,m=>(bC.mp m).elim (fun e=>e▸h.1) h.2.mem
noncomputable def w8:Option (Option Value)→Bool
 |some none=>true
 | _=>false
theorem Db {x:Option (Option Value)}(h:w8 x=true):x=some none:=by
 rcases x with _| _|v
 ·cases h
 ·rfl
 ·cases h
theorem w9 {x:Option (Option Value)}{a:Addr}(h:(x.join.bind ky==some a)=true):x=some (some (.ref a)):=by
 rcases x with _| _|v
 ·cases aN h
 ·cases aN h
 ·rw[wX (aN h:ky v=some a)]
noncomputable def qW (x:Str):Bool:= !(x==("__debug__":Str))
noncomputable def kz (x:Str):Addr:=(SH.lookup x).getD 0
noncomputable def lL (k:Nat)(m:Str):Addr:=(SI.lookup (k,m)).getD 0
noncomputable def lM:CI:=⟨fun k=>if k=0 then 123 else 505,fun _ x=>mG.contains x=true⟩
theorem lN {Q:Addr→Prop}(h0:Q 123)(h1:Q 505)(k:Nat):Q (lM.ad k):=by
 show Q (if k=0 then 123 else 505)
 split
 ·exact h0
 ·exact h1
section
variable (p:Params)(R:Frag)
theorem SN:(qc.all fun q=>qW q.1&&((nsIn (KP p++R) dU q.1).join.map (C8 (KP p++R) q.2)==some true))=true:=by kernel_rfl
theorem SQ:(ot.all fun x=>qW x&&(((nsIn (KP p++R) dU x).join.bind ky==some (kz x))&&keepIn (KP p++R) (.ref (kz x))))=true:=by kernel_rfl
theorem SS:(qa.all fun q=>qW q.1&&(((nsIn (KP p++R) dU q.1).join.bind ky==some (lM.ad q.2))&&keepIn (KP p++R) (.ref (lM.ad q.2))))=true:=by kernel_rfl
theorem ST:(mG.all fun x=>w8 (findIn (KP p++R) (.ref 123) x)&&w8 (findIn (KP p++R) (.ref 505) x))=true:=by kernel_rfl
theorem SU:lK (fun q:Nat×Str=>findIn (KP p++R) (.ref (lM.ad q.1)) q.2=some (some (.ref (lL q.1 q.2)))∧typeIn (KP p++R) (.ref (lL q.1 q.2))=some (.type "function")∧keepIn (KP p++R) (.ref (lL q.1 q.2))=true) mC:=
 ⟨⟨by kernel_rfl,by kernel_rfl,by kernel_rfl⟩,⟨by kernel_rfl,by kernel_rfl,by kernel_rfl⟩,⟨by kernel_rfl,by kernel_rfl,by kernel_rfl⟩,⟨by kernel_rfl,by kernel_rfl,by kernel_rfl⟩,trivial⟩
theorem SV:lK (fun q:Bool×String=>nsIn (KP p++R) dU (ac q.2)=some none∧bootBuiltins (ac q.2)=some (bV q.1 q.2)∧qW (ac q.2)=true∧(ac q.2==("__name__":Str))=false) tI:=
 ⟨⟨by kernel_rfl,by kernel_rfl,by kernel_rfl,by kernel_rfl⟩,⟨by kernel_rfl,by kernel_rfl,by kernel_rfl,by kernel_rfl⟩,⟨by kernel_rfl,by kernel_rfl,by kernel_rfl,by kernel_rfl⟩,⟨by kernel_rfl,by kernel_rfl,by kernel_rfl,by kernel_rfl⟩,⟨by kernel_rfl,by kernel_rfl,by kernel_rfl,by kernel_rfl⟩,⟨by kernel_rfl,by kernel_rfl,by kernel_rfl,by kernel_rfl⟩,⟨by kernel_rfl,by kernel_rfl,by kernel_rfl,by kernel_rfl⟩,⟨by kernel_rfl,by kernel_rfl,by kernel_rfl,by kernel_rfl⟩,trivial⟩
variable {p}{R}{hT:Heap}
theorem SW (X:(KP p++R).In hT):WF (KP p++R) lM hT where
 inT:=X
 fld:=fun k x h=>have q:=dn.mp (ST p R) x (kU.mp h);lN (Q:=fun a=>findIn (KP p++R) (.ref a) x=some none) (Db (bl q)) (Db (br q)) k
 hd:=lN (Q:=fun a=>(clsIn (KP p++R) a).any (·.hasDict)=true) (by kernel_rfl) (by kernel_rfl)
 ga:=lN (Q:=fun a=>findIn (KP p++R) (.ref a) "__getattribute__"=some (some (.builtin "object.__getattribute__"))) (by kernel_rfl) (by kernel_rfl)
 gt:=lN (Q:=fun a=>findIn (KP p++R) (.ref a) "__getattr__"=some none) (by kernel_rfl) (by kernel_rfl)
 sa:=lN (Q:=fun a=>findIn (KP p++R) (.ref a) "__setattr__"=some (some (.builtin "object.__setattr__"))) (by kernel_rfl) (by kernel_rfl)
 po:=lN (Q:=fun a=>plainOver (KP p++R) a=true) (by kernel_rfl) (by kernel_rfl)
 mkd:=lN (Q:=fun a=>makesIn (KP p++R) a=true) (by kernel_rfl) (by kernel_rfl)
 big:=⟨505,vH p,by decide,by kernel_rfl⟩
noncomputable def i3 (prog:Program)(w:World)(hT:Heap)(o:Obj)(ho:∀x:Str,x≠"__name__"→lookIn x o=some (bootBuiltins x))(X:(KP p++[(du,o)]).In hT):Wd where
 Z:=⟨prog,w,lM,hT⟩
 K:=KP p++[(du,o)]
 fa:=kz
 ma:=lL
 wf:=SW X
 ats:=fun k x h=>h
 gl:=fun x q h=>have z:=dn.mp (SN p [(du,o)]) _ (gp h);⟨(ia _).mp (bl z),(cC.mp (aN (br z))).elim fun v y=>⟨v,Option.join_eq_some_iff.mp y.1,SM (Z:=⟨prog,w,lM,hT⟩) X q v y.2⟩⟩
 bi:=fun ty b h=>have z:=(SV p [(du,o)]).mem (kU.mp h);⟨z.1,(Da (by kernel_rfl) _).trans ((ho _ (beq_eq_false_iff_ne.mp z.2.2.2)).trans (congrArg some z.2.1)),(ia _).mp z.2.2.1⟩
 cl:=fun x k h=>have z:=dn.mp (SS p [(du,o)]) _ (gp h);⟨(ia _).mp (bl z),w9 (bl (br z)),br (br z)⟩
 fn:=fun x h=>have z:=dn.mp (SQ p [(du,o)]) _ (kU.mp h);⟨(ia _).mp (bl z),w9 (bl (br z)),br (br z)⟩
 mt:=fun k m h=>(SU p [(du,o)]).mem (kU.mp h)
end
section
variable {prog:Program}{w:World}{hT:Heap}{p:Params}{ob:Obj}{ho:∀x:Str,x≠"__name__"→lookIn x ob=some (bootBuiltins x)}{X:(KP p++[(du,ob)]).In hT}{a:Addr}{c:Cd}{q:Arguments×Scope×List Stmt}{x:XB}{D:List Value}
abbrev qX (W:Wd)(a:Addr)(c:Cd):Prop:=∃x q fd D,m4 W a c x q fd D
theorem row {y:Str}(e:kz y=a)(A:aV (KP p++[(du,ob)]) a c q D)(l:Lk x q)(h:c.c=x.w)(d:RdL (fT hT) c.ds D):qX (i3 prog w hT ob ho X) (kz y) c:=by
 subst e;exact aV.to (W:=i3 prog w hT ob ho X) A l h d
theorem qY {k:Nat}{m:Str}(e:lL k m=a)(A:aV (KP p++[(du,ob)]) a c q D)(l:Lk x q)(h:c.c=x.w)(d:RdL (fT hT) c.ds D):qX (i3 prog w hT ob ho X) (lL k m) c:=by
 subst e;exact aV.to (W:=i3 prog w hT ob ho X) A l h d
theorem SX:lK (fun q:Str×Cd=>qX (i3 prog w hT ob ho X) (kz q.1) q.2) tab:=
 ⟨row (by kernel_rfl) (RJ p _) Pv rfl ⟨_,_,rfl,⟨_,rfl⟩,rfl⟩,
  row (by kernel_rfl) (RK p _) Pw rfl ⟨_,_,rfl,⟨_,rfl⟩,rfl⟩,
  row (by kernel_rfl) (RL p _) Px rfl rfl,
  row (by kernel_rfl) (RN p _) Py rfl rfl,
  row (by kernel_rfl) (RO p _) Pz rfl rfl,
  row (by kernel_rfl) (RP p _) PA rfl rfl,
  row (by kernel_rfl) (RQ p _) PB rfl rfl,
  row (by kernel_rfl) (RR p _) PC rfl rfl,
  row (by kernel_rfl) (RS p _) PD rfl rfl,
  row (by kernel_rfl) (RT p _) PE rfl rfl,
  row (by kernel_rfl) (RU p _) PF rfl rfl,
  row (by kernel_rfl) (RV p _) PG rfl rfl,
  row (by kernel_rfl) (RW p _) PH rfl rfl,
  row (by kernel_rfl) (RX p _) PJ rfl rfl,
  row (by kernel_rfl) (RY p _) PK rfl rfl,
  row (by kernel_rfl) (RZ p _) PL rfl rfl,
  row (by kernel_rfl) (R0 p _) PM rfl rfl,
  row (by kernel_rfl) (R3 p _) PN rfl rfl,
  row (by kernel_rfl) (R4 p _) PO rfl rfl,
  row (by kernel_rfl) (R5 p _) PP rfl rfl,
  row (by kernel_rfl) (R6 p _) PQ rfl rfl,
  row (by kernel_rfl) (R7 p _) PR rfl rfl,
  row (by kernel_rfl) (R8 p _) PS rfl rfl,
  row (by kernel_rfl) (R9 p _) PT rfl rfl,
  row (by kernel_rfl) (Sa p _) PU rfl rfl,
  row (by kernel_rfl) (Sb p _) PW rfl rfl,
  row (by kernel_rfl) (Sc p _) PX rfl rfl,
  row (by kernel_rfl) (Sd p _) PY rfl rfl,
  row (by kernel_rfl) (Se p _) PZ rfl rfl,
  row (by kernel_rfl) (Sf p _) P0 rfl rfl,
  row (by kernel_rfl) (Sg p _) P1 rfl rfl,
  row (by kernel_rfl) (Sh p _) P2 rfl rfl,
  row (by kernel_rfl) (Si p _) P3 rfl rfl,
  row (by kernel_rfl) (Sj p _) P4 rfl rfl,
  row (by kernel_rfl) (Sk p _) P5 rfl rfl,
  row (by kernel_rfl) (Sl p _) P6 rfl rfl,
  row (by kernel_rfl) (Sm p _) P7 rfl rfl,
  row (by kernel_rfl) (Sn p _) P8 rfl rfl,
  row (by kernel_rfl) (So p _) P9 rfl rfl,
  row (by kernel_rfl) (Sp p _) Qa rfl rfl,
  row (by kernel_rfl) (Sq p _) Qc rfl rfl,
  row (by kernel_rfl) (Sr p _) Qe rfl rfl,
  row (by kernel_rfl) (Ss p _) Qf rfl rfl,
  row (by kernel_rfl) (Su p _) Qg rfl rfl,
  row (by kernel_rfl) (Sv p _) Qh rfl rfl,
  row (by kernel_rfl) (Sw p _) Qi rfl rfl,
  row (by kernel_rfl) (Sx p _) Qj rfl rfl,
  row (by kernel_rfl) (Sy p _) Qk rfl rfl,
  row (by kernel_rfl) (Sz p _) Ql rfl rfl,
  row (by kernel_rfl) (SA p _) Qm rfl rfl,
  row (by kernel_rfl) (SB p _) Qo rfl rfl,trivial⟩
theorem SY:lK (fun q:(Nat×Str)×Cd=>qX (i3 prog w hT ob ho X) (lL q.1.1 q.1.2) q.2) gM:=
 ⟨qY (by kernel_rfl) (SC p _) Qp rfl rfl,
  qY (by kernel_rfl) (SD p _) Qq rfl rfl,
  qY (by kernel_rfl) (SE p _) Qr rfl rfl,
  qY (by kernel_rfl) (SF p _) Qs rfl rfl,trivial⟩
theorem Dc {α β:Type}[BEq α][LawfulBEq α]{l:List (α×β)}{x:α}{a:β}(h:l.lookup x=some a):(x,a)∈l:=by
 obtain⟨l₁,l₂,e,_⟩:=List.lookup_eq_some_iff.mp h
 exact e▸cH _ (.head _)
theorem SZ [cE (i3 prog w hT ob ho X)](hlim:hT.NoLimit)(n:Nat):mK (i3 prog w hT ob ho X) (2*n) (CS n):=
 wU hlim (fun f c e=>SX.mem (Dc e)) (fun k m c e=>SY.mem (Dc e)) n
end
end Mine
end
noncomputable section
open PySem
namespace Mine
def xa:SP:=(sE (dY (eV 0) "put" [(eV 1)]))
def xb:SP:=(sF (ay 1) (eP mH) xa)
def S3:SP:=(sS (eY 0 "putting" (sV (eC (.int 0)))) xb)
def S4:SP:=(sS (eY 0 "shaping" (sV (eC (.int 0)))) S3)
def S5:SP:=(sS (eY 0 "renamed" ki) S4)
def S6:SP:=(sS (eY 0 "origins" ki) S5)
def S7:SP:=(sS (eY 0 "names" (fL [])) S6)
def S8:SP:=(sS (eY 0 "defaults" (fL [])) S7)
def S9:SP:=(sS (eY 0 "bounds" (fL [])) S8)
def Ta:SP:=(sS (eY 0 "decls" (fL [(eC .none)])) S9)
def Tb:SP:=(sS (eY 0 "index" ki) Ta)
def Dd:SP:=(sS (eY 0 "rows" (fL [])) Tb)
def Tc:SP:=(sS (ik (.a 0 "index") (eV 1) (eV 2)) (sR (eV 2)))
def Td:SP:=(sS (sE (cB (.a 0 "rows") (eV 1))) Tc)
def Te:SP:=(sS (sA 2 (sV (bT (Pl.g (.a 0 "rows"))))) Td)
def Tf:SP:=(sR (ao (.a 0 "index") (eV 1)))
def Tg:SP:=(sS (sI (dK (eV 1) (Pl.g (.a 0 "index"))) Tf sN) Te)
def Th:SP:=(sR (dY (eV 0) "put" [(ap [(eC (.int 3)),(eV 1),(eV 2)])]))
def Ti:SP:=(sR (dY (eV 0) "put" [(ap [(eC (.int 4)),(eV 1),(eV 2)])]))
def Tj:SP:=(sR (dY (eV 0) "put" [(ap [(eC (.int 11)),(eV 1),(eV 2)])]))
def xc:SP:=(sI (dK (bq (ao (.n 0) (eV 3)) (eC (.int 1))) (Pl.g (.n 1))) (sA 2 (sV (eV 3))) sN)
def Tk:SP:=(sS (sF (ay 3) (ij (bT (Pl.g (.n 0)))) xc) (sR (eV 2)))
def Tl:SP:=(sS (sA 2 (sV (dX (eC (.int 1))))) Tk)
def Tm:SP:=(sE (cB (.n 3) (ap [(aC "add_undef" [(eV 0),(eV 5)]),(eC (.int 0))])))
def Tn:SP:=(sE (cB (.n 3) (ap [(eV 5),(eV 6)])))
def To:SP:=(sI (dz (av .Eq (eV 6) (eC (.int 1))) (av .Lt (eV 4) (eV 2))) Tm Tn)
def qZ:SP:=(sS (gH (cJ [5,6]) (ao (.n 1) (eV 4))) To)
def Tp:SP:=(sS (sF (ay 4) (ij (bT (Pl.g (.n 1)))) qZ) (sR (eV 3)))
def Tq:SP:=(sS (sA 2 (sV (aC "last_mark" [(eV 1),(ap [(eC (.int 0))])]))) (sS (sA 3 (fL [])) Tp))
def Tr:SP:=(sR (aI .Add (aI .Add (gk (eV 1) oN (oS (eV 3))) (bK [(ap [(aC "union" [(eV 0),(eV 5)]),(eC (.int 2))])])) (gk (eV 1) (oS (aI .Add (eV 2) (eC (.int 1)))) oN)))
def xd:SP:=(sE (cB (.n 5) (ii (av .Eq (eV 7) (eC (.int 1))) (aC "add_undef" [(eV 0),(eV 6)]) (eV 6))))
def Ts:SP:=(sS (sF (cJ [6,7]) (gk (eV 1) (oS (eV 3)) (oS (aI .Add (eV 2) (eC (.int 1))))) xd) Tr)
def Tt:SP:=(sS (sI (fk (av .Lt (eV 3) (eC (.int 0))) (av .LtE (eV 2) (eV 3))) (sR (eV 1)) sN) (sS (sA 5 (fL [])) Ts))
def q0:SP:=(sI (dz (av .Lt (eV 3) (eC (.int 0))) (av .Eq (bq (ao (.n 1) (eV 4)) (eC (.int 1))) (eC (.int 2)))) (sA 3 (sV (eV 4))) sN)
def Tu:SP:=(sS (sF (ay 4) (ij (bT (Pl.g (.n 1)))) q0) Tt)
def Tv:SP:=(sS (sA 3 (sV (dX (eC (.int 1))))) Tu)
def xe:SP:=(sR (dY (eV 0) "put" [(ap [(eC (.int 12)),(fQ (eV 3)),(eV 2)])]))
def Tw:SP:=(sR (aC "array_type" [(eV 0),(bq (ao (.n 3) (eC (.int 0))) (eC (.int 0))),(eV 2)]))
def De:SP:=(sI (dz (av .Eq (bT (Pl.g (.n 3))) (eC (.int 1))) (av .Eq (bq (ao (.n 3) (eC (.int 0))) (eC (.int 1))) (eC (.int 2)))) Tw sN)
def Tx:SP:=(sS (sA 3 (sV (aC "one_rest" [(eV 0),(aC "needed_to_last" [(eV 0),(eV 3)]),(eV 4)]))) De)
def Ty:SP:=(sS (sA 4 (sV (aC "last_mark" [(eV 3),(ap [(eC (.int 2)),(eC (.int 1))])]))) Tx)
def Tz:SP:=(sS (sI (av .Lt (aC "last_mark" [(eV 3),(ap [(eC (.int 3))])]) (eC (.int 0))) Ty sN) xe)
def TA:SP:=(sS (sA 3 (fR (bA 5 2 (eV 1) (bf (cJ [5,6]) tT (ap [(eV 5),(eV 6)]))))) Tz)
def TB:SP:=(sR (dY (eV 0) "put" [(ap [(eC (.int 10)),(eV 4)])]))
def TC:SP:=(sS (sE (cB (.a 0 "names") (eV 1))) TB)
def TD:SP:=(sS (sE (cB (.a 0 "defaults") (eV 3))) TC)
def TE:SP:=(sS (sE (cB (.a 0 "bounds") (eV 2))) TD)
def TF:SP:=(sS (sA 4 (sV (bT (Pl.g (.a 0 "bounds"))))) TE)
def TG:SP:=(sS (sI (av .Eq (ao (.n 2) (eC (.int 0))) (eC (.int 6))) (sR (ao (.n 2) (eC (.int 1)))) sN) (sR (ap [(eV 1)])))
def TH:SP:=(sS (sA 2 (sV (ao (.a 0 "rows") (eV 1)))) TG)
def TI:SP:=(sS (sI (av .Eq (eV 1) (eC (.int 2))) (sR (ap [])) sN) TH)
def TJ:SP:=(sS (sI (av .Eq (eV 1) (eC (.int 5))) sX sN) (sR (dX (eC (.int 1)))))
def TK:SP:=(sS (sI (av .Eq (eV 1) (eC (.int 4))) (sR (eC (.int 7))) sN) TJ)
def TL:SP:=(sS (sI (fk (av .Eq (eV 1) (eC (.int 3))) (av .Eq (eV 1) (eC (.int 18)))) (sR (eC (.int 6))) sN) TK)
def TM:SP:=(sS (sA 1 (sV (ao (.n 0) (eC (.int 0))))) TL)
def TN:SP:=(sS (sI (dz (dK (ao (.n 2) (eC (.int 0))) (sV (eP tD))) (av .Eq (ao (.n 2) (dX (eC (.int 1)))) (eC (.int 1)))) sX sN) (sR (dX (eC (.int 1)))))
def TO:SP:=(sS (sA 2 (sV (ao (.a 0 "rows") (eV 1)))) TN)
def TQ:SP:=(ik (.n 0) (eC (.int 9)) (eC (.int 1)))
def TR:SP:=(sS (ik (.n 0) (eC (.int 8)) (eC (.int 1))) TQ)
def TS:SP:=(sI (dz (fk (dK (eC (.int 8)) (Pl.g (.n 0))) (dK (eC (.int 14)) (Pl.g (.n 0)))) (fk (dK (eC (.int 9)) (Pl.g (.n 0))) (dK (eC (.int 15)) (Pl.g (.n 0))))) TR sN)
def TT:SP:=(sR (eB (mD (aC "whole_of_row" [(ao (.a 0 "rows") (eV 2))]) (Pl.g (.n 1)))))
def TU:SP:=(sS (sI (dK (aC "regular_twin" [(eV 0),(eV 2)]) (Pl.g (.n 1))) (sR (eC (.bool false))) sN) TT)
def TV:SP:=(sI (dK (eV 1) (Pl.g (.n 0))) (sR (eV 1)) sN)
def TW:SP:=(sS (sF (ay 1) (ap [(eC (.int 0)),(eC (.int 13)),(eC (.int 1))]) TV) (sR (dX (eC (.int 1)))))
def TX:SP:=(sR (dY (eV 0) "put" [(ap [(eC (.int 6)),(fQ (eV 6))])]))
def TY:SP:=(sS (sI (av .Gt (bT (Pl.g (.n 6))) (eC (.int 400))) sX sN) TX)
def TZ:SP:=(sS (sI (av .Eq (bT (Pl.g (.n 6))) (eC (.int 1))) (sR (ao (.n 6) (eC (.int 0)))) sN) TY)
def T3:SP:=(sS (sI (mE (gG (Pl.g (.n 6)))) (sR (eC (.int 2))) sN) TZ)
def T4:SP:=(sS (sA 6 (fR (bA 7 1 (kb (eV 2)) (bf (ay 7) (gG (sV (aC "stays_beside" [(eV 0),(eV 2),(eV 7)]))) (eV 7))))) T3)
def T5:SP:=(sS (sE (aC "join_bools" [(eV 2)])) T4)
def T6:SP:=(sS (sI (av .GtE (eV 5) (eC (.int 0))) (sR (eV 5)) sN) T5)
def T7:SP:=(sS (sA 5 (sV (aC "top_of" [(eV 2)]))) T6)
def Df:SP:=(sF (ay 4) (aC "parts_of" [(eV 0),(eV 3)]) (ik (.n 2) (eV 4) (eC (.int 1))))
def T8:SP:=(sS (sF (ay 3) (eV 1) Df) T7)
def T9:SP:=(sS (sA 2 ki) T8)
def Ua:SP:=(sR (aC "union" [(eV 0),(ap [(eV 1),(eC (.int 4))])]))
def Ub:SP:=(sR (ii (av .Eq (eV 0) (ap [])) (bK []) (bK [(ao (.n 0) (eC (.int 0)))])))
def Uc:SP:=(sE (cB (.n 1) (bq (ao (.n 0) (eC (.int 4))) (eC (.int 1)))))
def Ud:SP:=(sS (sI (av .NotEq (ao (.n 0) (eC (.int 4))) (ap [])) Uc sN) (sR (eV 1)))
def Ue:SP:=(sS (sE (cB (.n 1) (ao (.n 0) (eC (.int 3))))) Ud)
def Uf:SP:=(sS (sA 1 (fR (bA 2 1 (ao (.n 0) (eC (.int 2))) (bf (ay 2) tT (ao (.n 2) (eC (.int 1))))))) Ue)
def Ug:SP:=(sR (aI .Add (aI .Add (eV 1) (aC "index_kids" [(ao (.n 0) (eC (.int 4)))])) (aC "index_kids" [(ao (.n 0) (eC (.int 5)))])))
def Uh:SP:=(sS (sF (ay 2) (aI .Add (ao (.n 0) (eC (.int 2))) (ao (.n 0) (eC (.int 3)))) (sE (cB (.n 1) (eV 2)))) Ug)
def Ui:SP:=(sS (sA 1 (fR (bA 3 1 (ao (.n 0) (eC (.int 1))) (bf (ay 3) tT (ao (.n 3) (eC (.int 1))))))) Uh)
def Uj:SP:=(sR (aC "sig_kids" [(eV 0)]))
def Uk:SP:=(sS (sI (av .Eq (eV 1) (eC (.int 13))) Uj sN) (sR (bK [])))
def Ul:SP:=(sR (c5 (bA 4 1 (ao (.n 0) (eC (.int 1))) (bf (ay 4) tT (ao (.n 4) (eC (.int 0)))))))
def Um:SP:=(sS (sI (av .Eq (eV 1) (eC (.int 12))) Ul sN) Uk)
def Uo:SP:=(sR (c5 (bA 4 1 (ao (.n 0) (eC (.int 2))) (bf (ay 4) tT (eV 4)))))
def Uq:SP:=(sS (sI (fk (av .Eq (eV 1) (eC (.int 9))) (fk (av .Eq (eV 1) (eC (.int 19))) (av .Eq (eV 1) (eC (.int 18))))) Uo sN) Um)
def Ur:SP:=(sR (aC "object_kids" [(eV 0)]))
def Us:SP:=(sS (sI (av .Eq (eV 1) (eC (.int 8))) Ur sN) Uq)
def Ut:SP:=(sR (c5 (bA 4 1 (ao (.n 0) (eC (.int 1))) (bf (ay 4) tT (eV 4)))))
def Uu:SP:=(sS (sI (fk (av .Eq (eV 1) (eC (.int 6))) (av .Eq (eV 1) (eC (.int 7)))) Ut sN) Us)
def Uv:SP:=(sR (c5 (bA 4 1 (gk (eV 0) (oS (eV 2)) (oS (eV 3))) (bf (ay 4) tT (eV 4)))))
def Uw:SP:=(sS (gH (cJ [2,3]) (bq (eP qb) (eV 1))) Uv)
def Ux:SP:=(sS (sI (dK (eV 1) (sV (eP qb))) Uw sN) Uu)
def Uy:SP:=(sS (sA 1 (sV (ao (.n 0) (eC (.int 0))))) Ux)
def Uz:SP:=(sR (ap [(ao (.n 0) (eC (.int 1)))]))
def UA:SP:=(sS (sI (av .Eq (ao (.n 0) (eC (.int 0))) (eC (.int 17))) Uz sN) (sR (ap [])))
def UB:SP:=(sS (sI (av .Eq (ao (.n 0) (eC (.int 0))) (eC (.int 16))) (sR (ao (.n 0) (eC (.int 5)))) sN) UA)
def UC:SP:=(sS (sI (av .Eq (ao (.n 0) (eC (.int 0))) (eC (.int 13))) (sR (ao (.n 0) (eC (.int 1)))) sN) UB)
def UD:SP:=(sE (cB (.n 2) (ao (.a 0 "defaults") (eV 3))))
def UE:SP:=(sS (sE (cB (.n 2) (ao (.a 0 "bounds") (eV 3)))) UD)
def UF:SP:=(sS (sF (ay 3) (aC "row_binds" [(eV 1)]) UE) (sR (eV 2)))
def UG:SP:=(sS (sA 2 (sV (aC "row_kids" [(eV 1)]))) UF)
def UH:SP:=(sE (p6 (.n 3) (aC "inner_kids" [(eV 0),(ao (.a 0 "rows") (eV 4))])))
def UI:SP:=(sS (ik (.n 2) (eV 4) (eC (.int 1))) UH)
def UJ:SP:=(sI (dz (av .GtE (eV 4) (eC (.int 0))) (mD (eV 4) (Pl.g (.n 2)))) UI sN)
def Dg:SP:=(sS (sA 4 (sV (p7 (.n 3)))) UJ)
def UK:SP:=(sS (sW (gG (Pl.g (.n 3))) Dg) (sR (kb (eV 2))))
def UL:SP:=(sS (sA 2 ki) (sS (sA 3 (fL [(eV 1)])) UK))
def UM:SP:=(sR (fQ (kb (c5 (bA 7 1 (eV 2) (bf (ay 7) (av .Eq (bq (ao (.a 0 "rows") (eV 7)) (eC (.int 0))) (eC (.int 10))) (bq (ao (.a 0 "rows") (eV 7)) (eC (.int 1)))))))))
def UN:SP:=(sS (sI (mE (gG (sV (p3 (c5 (bA 7 1 (eV 2) (bf (ay 7) tT (aC "row_binds" [(ao (.a 0 "rows") (eV 7))])))))))) UM sN) sX)
def UO:SP:=(sS (sA 2 (sV (aC "reached" [(eV 0),(eV 1)]))) UN)
def UP:SP:=(sS (sI (av .Lt (eV 1) (eC (.int 0))) (sR (ap [])) sN) UO)
def UQ:SP:=(sR (eB (av .Gt (bT (sV (aC "free_params" [(eV 0),(eV 1)]))) (eC (.int 0)))))
def UR:SP:=(sI (gG (sV (aC "is_open" [(eV 0),(eV 5)]))) (sR (eC (.bool true))) sN)
def US:SP:=(sF (ay 5) (ao (.n 2) (eC (.int 2))) UR)
def UT:SP:=(sS (sI (av .Eq (ao (.n 2) (eC (.int 0))) (eC (.int 18))) US sN) (sR (eC (.bool false))))
def Dh:SP:=(sI (av .Eq (ao (.n 4) (eC (.int 1))) (eC (.int 3))) (sR (eC (.bool true))) sN)
def UU:SP:=(sF (ay 4) (ao (.n 2) (eC (.int 1))) Dh)
def UV:SP:=(sS (sI (av .Eq (ao (.n 2) (eC (.int 0))) (eC (.int 12))) UU sN) UT)
def UW:SP:=(sI (gG (sV (aC "is_open" [(eV 0),(eV 3)]))) (sR (eC (.bool true))) sN)
def UX:SP:=(sF (ay 3) (ao (.n 2) (eC (.int 1))) UW)
def UY:SP:=(sS (sI (fk (av .Eq (ao (.n 2) (eC (.int 0))) (eC (.int 6))) (av .Eq (ao (.n 2) (eC (.int 0))) (eC (.int 7)))) UX sN) UV)
def UZ:SP:=(sS (sI (dK (ao (.n 2) (eC (.int 0))) (sV (eP tF))) (sR (eC (.bool true))) sN) UY)
def U0:SP:=(sS (sA 2 (sV (ao (.a 0 "rows") (eV 1)))) UZ)
def Di:SP:=(sI (av .Eq (ao (.n 1) (eC (.int 1))) (eC (.int 3))) (sR (eC (.bool true))) sN)
def U1:SP:=(sS (sF (ay 1) (eV 0) Di) (sR (eC (.bool false))))
def U2:SP:=(sS (sI (dz (gG (sV (aC "has_params" [(oq (.a 0 "tab")),(eV 1)]))) (mD (bq (ao (.b 0 "tab" "rows") (eV 2)) (eC (.int 0))) (sV (ap [(eC (.int 11)),(eC (.int 12))])))) (sR (eV 1)) sN) (sR (eV 2)))
def U3:SP:=(sS (sA 2 (sV (dY (eV 0) "force" [(eV 1)]))) U2)
def q7:SP:=(sI (dz (av .Eq (bq (ao (.n 1) (eV 2)) (eC (.int 1))) (eC (.int 3))) (av .Eq (bq (ao (.a 0 "rows") (bq (ao (.n 1) (eV 2)) (eC (.int 0)))) (eC (.int 0))) (eC (.int 6)))) (sR (eV 2)) sN)
def U4:SP:=(sS (sF (ay 2) (ij (bT (Pl.g (.n 1)))) q7) (sR (dX (eC (.int 1)))))
def U5:SP:=(sI (dK (bq (ao (.a 0 "rows") (eV 3)) (eC (.int 0))) (sV (ap [(eC (.int 11)),(eC (.int 12))]))) (sR (eV 3)) sN)
def U6:SP:=(sF (ay 3) (ao (.n 2) (eC (.int 1))) U5)
def U7:SP:=(sS (sI (dz (av .Eq (ao (.n 2) (eC (.int 0))) (eC (.int 7))) (mE (gG (sV (aC "is_open" [(eV 0),(eV 1)]))))) U6 sN) (sR (eV 1)))
def U8:SP:=(sS (sA 2 (sV (ao (.a 0 "rows") (eV 1)))) U7)
def U9:SP:=(sR (bK [(ap [(eC (.int 1)),(eC (.int 2))])]))
def Va:SP:=(sS (sI (gG (sV (aC "is_open" [(eV 0),(ao (.n 1) (eC (.int 0)))]))) (sR (bK [(eV 1)])) sN) U9)
def Vb:SP:=(sR (bK [(ap [(eC (.int 0)),(eC (.int 2))])]))
def Vc:SP:=(sS (sI (av .Eq (ao (.n 1) (eC (.int 0))) (eC (.int 0))) Vb sN) Va)
def Vd:SP:=(sR (c5 (bA 3 1 (ao (.n 2) (eC (.int 1))) (bf (ay 3) tT (eV 3)))))
def Ve:SP:=(sS (sI (av .Eq (ao (.n 2) (eC (.int 0))) (eC (.int 12))) Vd sN) Vc)
def Vf:SP:=(sR (bK [(ap [(ao (.n 2) (eC (.int 1))),(eC (.int 2))])]))
def Dj:SP:=(sS (sI (av .Eq (ao (.n 2) (eC (.int 0))) (eC (.int 11))) Vf sN) Ve)
def Vg:SP:=(sS (sA 2 (sV (ao (.a 0 "rows") (aC "kindsplice_list_part" [(eV 0),(ao (.n 1) (eC (.int 0)))])))) Dj)
def Vh:SP:=(sR (aC "union" [(eV 4),(eV 5)]))
def Vi:SP:=(sE (cB (.n 5) (aC "splice" [(eV 0),(eV 7),(eV 3)])))
def Dk:SP:=(sS (sA 7 (sV (aI .Add (aI .Add (gk (eV 1) oN (oS (eV 2))) (bK [(ap [(eV 6),(eC (.int 3))])])) (gk (eV 1) (oS (aI .Add (eV 2) (eC (.int 1)))) oN)))) Vi)
def Vj:SP:=(sS (sF (ay 6) (bq (ao (.a 4 "rows") (bq (ao (.n 1) (eV 2)) (eC (.int 0)))) (eC (.int 1))) Dk) Vh)
def Vk:SP:=(sS (sA 4 (sV (oq (.a 0 "tab")))) (sS (sA 5 (fL [])) Vj))
def Vl:SP:=(sR (aC "tuple_type" [(eV 3),(fQ (eV 7)),(eV 2)]))
def Vm:SP:=(sI (av .Gt (bT (Pl.g (.n 7))) (eC (.int 10000))) sX sN)
def Vn:SP:=(sE (p6 (.n 7) (aC "cut_open" [(eV 3),(eV 5)])))
def xf:SP:=(sS (sI (av .Eq (ao (.n 5) (eC (.int 1))) (eC (.int 3))) Vn (sE (cB (.n 7) (eV 5)))) Vm)
def Vo:SP:=(sS (sF (ay 5) (eV 4) xf) Vl)
def Vp:SP:=(sR (aC "splice_union" [(eV 0),(eV 4),(eV 6),(eV 2)]))
def Vq:SP:=(sS (sI (av .GtE (eV 6) (eC (.int 0))) Vp sN) (sS (sA 7 (fL [])) Vo))
def Vr:SP:=(sS (sA 6 (sV (aC "union_places" [(eV 3),(eV 4)]))) Vq)
def Vs:SP:=(sI (fk (av .Eq (ao (.n 5) (eC (.int 0))) (eC (.int 2))) (av .Eq (ao (.n 5) (eC (.int 0))) (eC (.int 13)))) (sR (ao (.n 5) (eC (.int 0)))) sN)
def Vt:SP:=(sS (sA 5 (sV (ap [(aC "kindsplice_spread_kind" [(eV 0),(ao (.n 5) (eC (.int 0)))]),(eC (.int 3))]))) Vs)
def xg:SP:=(sS (sI (av .Eq (ao (.n 5) (eC (.int 1))) (eC (.int 3))) Vt sN) (sE (cB (.n 4) (eV 5))))
def Vu:SP:=(sS (sF (ay 5) (eV 1) xg) Vr)
def Vv:SP:=(sS (sA 3 (sV (oq (.a 0 "tab")))) (sS (sA 4 (fL [])) Vu))
def Vw:SP:=(eY 0 "lib" (sV (eC .none)))
def Vx:SP:=(sS (eY 0 "most_deep" (sV (eC (.int 40)))) Vw)
def Vy:SP:=(sS (eY 0 "most_rounds" (sV (eC (.int 200)))) Vx)
def Vz:SP:=(sS (eY 0 "deep" (sV (eC (.int 0)))) Vy)
def xh:SP:=(sS (eY 0 "tab" (sV (eV 1))) Vz)
def VA:SP:=(sR (eV 1))
def VB:SP:=(sS (sI (dK (eC (.int 1)) (Pl.g (.n 1))) (sR (ap [(eC (.int 1))])) sN) (sR (fQ (pZ (eV 1)))))
def VC:SP:=(sS (sI (dK (eC (.int 0)) (Pl.g (.n 1))) (sR (ap [(eC (.int 0))])) sN) VB)
def Dl:SP:=(sA 1 (sV (aI .Add (eV 1) (oo (eV 2)))))
def VD:SP:=(sS (sF (ay 2) (eV 0) Dl) VC)
def VE:SP:=(sS (sA 1 (fL [])) VD)
def Dm:SP:=(sR (fQ (aI .Add (eV 6) (eV 4))))
def VF:SP:=(sE (cB (.n 6) (ap [(aC "_law_join" [(eV 8)]),(eC (.int 2))])))
def VG:SP:=(sS (sI (dK (eC (.int 1)) (sV (c5 (bA 9 2 (eV 3) (bf (cJ [9,10]) tT (eV 10)))))) (sE (cB (.n 8) (ap [(eC (.int 4))]))) sN) VF)
def VH:SP:=(sS (sA 8 (fR (bA 9 2 (eV 3) (bf (cJ [9,10]) tT (eV 9))))) VG)
def Dn:SP:=(sS (sI (av .Gt (bT (Pl.g (.n 3))) (eC (.int 0))) VH sN) Dm)
def VI:SP:=(sE (cB (.n 6) (ap [(aC "_law_join" [(bK [(eV 1),(ap [(eC (.int 4))])])]),(eC (.int 0))])))
def VJ:SP:=(sE (cB (.n 6) (ap [(eV 1),(eV 2)])))
def VK:SP:=(sI (dz (av .Eq (eV 2) (eC (.int 1))) (dK (eC (.int 0)) (sV (c5 (bA 9 1 (aI .Add (aI .Add (gk (eV 5) (oS (aI .Add (eV 7) (eC (.int 1)))) oN) (eV 3)) (eV 4)) (bf (ay 9) tT (ao (.n 9) (eC (.int 1))))))))) VI VJ)
def q8:SP:=(sS (gH (cJ [1,2]) (ao (.n 5) (eV 7))) VK)
def VL:SP:=(sS (sF (ay 7) (ij (bT (Pl.g (.n 5)))) q8) Dn)
def VM:SP:=(sS (sW (dz (av .Gt (bT (Pl.g (.n 3))) (eC (.int 0))) (av .NotEq (bq (ao (.n 3) (eC (.int 0))) (eC (.int 1))) (eC (.int 2)))) (sE (cB (.n 5) (p8 (.n 3))))) (sS (sA 6 (fL [])) VL))
def Do:SP:=(sA 4 (sV (aI .Add (bK [(p7 (.n 3))]) (eV 4))))
def VN:SP:=(sS (sW (dz (av .Gt (bT (Pl.g (.n 3))) (eC (.int 0))) (av .Eq (bq (ao (.n 3) (dX (eC (.int 1)))) (eC (.int 1))) (eC (.int 0)))) Do) (sS (sA 5 (fL [])) VM))
def VO:SP:=(sS (sA 3 (tx (eV 0))) (sS (sA 4 (fL [])) VN))
def VP:SP:=(sS (sI (dK (eC (.int 3)) (sV (c5 (bA 9 2 (eV 0) (bf (cJ [9,10]) tT (eV 10)))))) (sR (fQ (eV 0))) sN) VO)
def Dp:SP:=(sA 1 (fR (bA 3 2 (eV 1) (tB (ay 3) tT (eV 2) (bf (ay 4) tT (aI .Add (eV 3) (eV 4)))))))
def VQ:SP:=(sS (sF (ay 2) (eV 0) Dp) (sR (eV 1)))
def VR:SP:=(sS (sA 1 (fL [(bK [])])) VQ)
def VS:SP:=(sR (pZ (c5 (bA 1 1 (aC "_law_choices" [(eV 0)]) (bf (ay 1) tT (aC "_law_settled" [(eV 1)]))))))
def VT:SP:=(sR (ii (av .Eq (bq (ao (.a 0 "rows") (eV 1)) (eC (.int 0))) (eC (.int 6))) (fQ (bq (ao (.a 0 "rows") (eV 1)) (eC (.int 1)))) (ap [(eV 1)])))
def VU:SP:=(sR (c5 (bA 2 1 (eV 1) (bf (ay 2) tT (ap [(aC "_law_atoms" [(eV 0),(ao (.n 2) (eC (.int 0)))]),(ao (.n 2) (eC (.int 1)))])))))
def VV:SP:=(sI (fk (mD (ao (.n 5) (eC (.int 0))) (sV (ap [(eC (.int 11)),(eC (.int 12))]))) (av .NotEq (ao (.n 5) (eC (.int 2))) (eV 2))) (sR (bK [])) sN)
def VW:SP:=(sE (cB (.n 3) (ap [(ap [(aC "_law_atoms" [(eV 0),(ao (.n 5) (eC (.int 1)))]),(eC (.int 2))])])))
def VX:SP:=(sE (cB (.n 3) (fQ (aC "_law_elems" [(eV 0),(ao (.n 5) (eC (.int 1)))]))))
def VY:SP:=(sI (av .Eq (ao (.n 5) (eC (.int 0))) (eC (.int 12))) VX sN)
def VZ:SP:=(sS (sI (av .Eq (ao (.n 5) (eC (.int 0))) (eC (.int 11))) VW VY) VV)
def xi:SP:=(sS (sA 5 (sV (ao (.a 0 "rows") (eV 4)))) VZ)
def V0:SP:=(sS (sF (ay 4) (aC "_law_atoms" [(eV 0),(eV 1)]) xi) (sR (kb (eV 3))))
def V1:SP:=(sS (sA 3 (fL [])) V0)
def q9:SP:=(sE (cB (.n 5) (ap [(ii (av .Eq (bT (Pl.g (.n 6))) (eC (.int 1))) (ao (.n 6) (eC (.int 0))) (dY (eV 0) "put" [(ap [(eC (.int 6)),(eV 6)])])),(eV 6)])))
def xj:SP:=(sS (sA 6 (sV (fQ (kb (eV 6))))) q9)
def xl:SP:=(sS (sF (ay 6) (ap [(ap [(eV 1)]),(ap [(eV 2)]),(ap [(eV 3)]),(ap [(eV 1),(eV 3)]),(ap [(eC (.int 4)),(eV 2)]),(ap [(eV 4)])]) xj) (sR (eV 5)))
def V2:SP:=(sS (sA 4 (sV (aC "new_param" [(eV 0),(eC (.str "T")),(dX (eC (.int 1))),(dX (eC (.int 1)))]))) (sS (sA 5 (fL [])) xl))
def V3:SP:=(sS (sA 3 (sV (aC "num_type" [(eV 0),(eC (.int 1))]))) V2)
def V4:SP:=(sS (sA 2 (sV (aC "str_type" [(eV 0),(eC (.str "b"))]))) V3)
def V5:SP:=(sS (sA 1 (sV (aC "str_type" [(eV 0),(eC (.str "a"))]))) V4)
def V6:SP:=(sR (ap [(dY (eV 1) "put" [(ap [(eC (.int 12)),(fQ (eV 5)),(eV 10)])]),(bK [(eV 6)])]))
def V7:SP:=(sR (ap [(dY (eV 1) "put" [(ap [(eC (.int 11)),(bq (ao (.n 5) (eC (.int 0))) (eC (.int 0))),(eV 10)])]),(bK [(eV 6)])]))
def V8:SP:=(sS (sI (av .Eq (eV 4) (ap [(eC (.int 2))])) V7 sN) V6)
def Dq:SP:=(sS (sA 10 (sV (aI .Mod (aI .FloorDiv (eV 0) (eC (.int 30))) (eC (.int 2))))) V8)
def V9:SP:=(sE (cB (.n 6) (ap [(eV 9),(ao (.n 4) (eV 7))])))
def Dr:SP:=(sS (sE (cB (.n 5) (ap [(eV 8),(ao (.n 4) (eV 7))]))) V9)
def Wa:SP:=(gH (cJ [8,9]) (ao (.n 2) (eC (.int 5))))
def Wb:SP:=(sS (sI (av .Eq (ao (.n 4) (eV 7)) (eC (.int 3))) Wa sN) Dr)
def re:SP:=(sS (gH (cJ [8,9]) (ao (.n 2) (aI .Mod (aI .Add (eV 0) (aI .Mult (eV 7) (aI .Add (eC (.int 1)) (aI .Mod (aI .FloorDiv (eV 0) (eC (.int 6))) (eC (.int 5)))))) (eC (.int 6))))) Wb)
def Wc:SP:=(sS (sF (ay 7) (ij (bT (Pl.g (.n 4)))) re) Dq)
def We:SP:=(sS (sA 5 (fL [])) (sS (sA 6 (fL [])) Wc))
def Wf:SP:=(sS (sA 0 (sV (aI .FloorDiv (eV 0) (eC (.int 11))))) We)
def Wg:SP:=(sS (sA 4 (sV (ao (.n 3) (aI .Mod (eV 0) (eC (.int 11)))))) Wf)
def Wh:SP:=(sS (sA 3 (sV (ap [(ap []),(ap [(eC (.int 0))]),(ap [(eC (.int 1))]),(ap [(eC (.int 0)),(eC (.int 1))]),(ap [(eC (.int 0)),(eC (.int 2))]),(ap [(eC (.int 2)),(eC (.int 0))]),(ap [(eC (.int 1)),(eC (.int 2))]),(ap [(eC (.int 0)),(eC (.int 2)),(eC (.int 0))]),(ap [(eC (.int 0)),(eC (.int 0))]),(ap [(eC (.int 3)),(eC (.int 0))]),(ap [(eC (.int 2))])]))) Wg)
def Ds:SP:=(sR (ap [(dY (eV 1) "put" [(ap [(eC (.int 6)),(fQ (kb (c5 (bA 10 1 (eV 4) (bf (ay 10) tT (eV 10))))))])]),(eV 9)]))
def xm:SP:=(sA 9 (sV (aI .Add (eV 9) (ao (.n 4) (eV 7)))))
def Wi:SP:=(sS (sF (ay 7) (eV 4) xm) Ds)
def Wj:SP:=(sR (aC "_law_list" [(aI .FloorDiv (eV 0) (eC (.int 2))),(eV 1),(eV 2)]))
def Dt:SP:=(sS (sI (av .Eq (bT (Pl.g (.n 4))) (eC (.int 1))) Wj sN) (sS (sA 9 (fL [])) Wi))
def Wk:SP:=(p9 7 8 (ap [(bq (ao (.n 2) (eC (.int 5))) (eC (.int 0))),(bK [(bK [(ap [(bq (ao (.n 2) (eC (.int 5))) (eC (.int 1))),(eC (.int 3))])])])]))
def Wl:SP:=(p9 7 8 (ap [(eV 3),(bK [(bK [(ap [(ap [(eC (.int 1))]),(eC (.int 2))])])])]))
def Du:SP:=(gH (cJ [7,8]) (aC "_law_list" [(aI .Add (eV 6) (eV 5)),(eV 1),(eV 2)]))
def Wm:SP:=(sI (dz (av .Gt (eV 5) (eC (.int 0))) (av .Eq (aI .Mod (eV 6) (eC (.int 5))) (eC (.int 4)))) Wl Du)
def Dv:SP:=(sS (sI (dz (av .Gt (eV 5) (eC (.int 0))) (av .Eq (aI .Mod (eV 6) (eC (.int 5))) (eC (.int 3)))) Wk Wm) (ik (.n 4) (eV 7) (eV 8)))
def rf:SP:=(sS (sA 6 (sV (aI .FloorDiv (aI .FloorDiv (eV 0) (eC (.int 2))) (bq (ap [(eC (.int 1)),(eC (.int 7)),(eC (.int 5))]) (eV 5))))) Dv)
def Wn:SP:=(sS (sF (ay 5) (ij (aI .Add (eC (.int 2)) (aI .Mod (eV 0) (eC (.int 2))))) rf) Dt)
def Wo:SP:=(sS (sA 4 ki) Wn)
def Wp:SP:=(sR (ap [(eV 7),(eV 5),(eV 4)]))
def Wq:SP:=(sR (ap [(eV 7),(bK [(bK [(ap [(ap [(eV 7)]),(eC (.int 3))])])]),(eV 7)]))
def Wr:SP:=(sS (sI (fk (av .Eq (aI .Mod (eV 0) (eC (.int 4))) (eC (.int 2))) (dK (eC (.int 3)) (sV (c5 (bA 9 2 (ao (.n 5) (eC (.int 0))) (bf (cJ [9,10]) tT (eV 10))))))) Wq sN) Wp)
def xn:SP:=(sS (sA 7 (sV (dY (eV 1) "put" [(ap [(eC (.int 7)),(eV 8)])]))) Wr)
def xo:SP:=(sS (sA 8 (sV (bq (ap [(ap [(eV 4),(eV 3)]),(ap [(eV 3),(eV 4)]),(ap [(eV 4),(bq (ao (.n 2) (eC (.int 5))) (eC (.int 0)))])]) (aI .Mod (eV 0) (eC (.int 4)))))) xn)
def Ws:SP:=(sR (ap [(eV 7),(bK [(bK [(ap [(ap [(eC (.int 1))]),(eC (.int 2))])])]),(eV 7)]))
def Wt:SP:=(sS (sA 7 (sV (dY (eV 1) "put" [(ap [(eC (.int 7)),(ap [(eV 3),(eV 6)])])]))) Ws)
def Dw:SP:=(sS (sA 6 (sV (dY (eV 1) "put" [(ap [(eC (.int 8)),(ap [(ap [(eC (.str "other")),(eC (.int 6)),(eC (.int 0)),(eC (.int 0))])]),(ap []),(ap []),(ap []),(ap []),(eC (.int 0))])]))) Wt)
def Dx:SP:=(sS (sI (av .Eq (aI .Mod (eV 0) (eC (.int 4))) (eC (.int 3))) Dw sN) xo)
def Wu:SP:=(sS (gH (cJ [4,5]) (aC "_law_list" [(aI .FloorDiv (eV 0) (eC (.int 4))),(eV 1),(eV 2)])) Dx)
def Wv:SP:=(sR (ap [(bq (ap [(eC (.int 2)),(eC (.int 13))]) (aI .Sub (aI .Mod (eV 0) (eC (.int 9))) (eC (.int 7)))),(bK [])]))
def Ww:SP:=(sR (ap [(eV 5),(bK [(bK [(ap [(ap [(eV 5)]),(eC (.int 3))])])])]))
def Wx:SP:=(sS (sA 5 (sV (bq (ap [(bq (ao (.n 2) (eC (.int 5))) (eC (.int 0))),(eV 4),(dY (eV 1) "put" [(ap [(eC (.int 14)),(bq (ao (.n 2) (eC (.int 5))) (eC (.int 0)))])])]) (aI .Sub (aI .Mod (eV 0) (eC (.int 9))) (eC (.int 4)))))) Ww)
def Wy:SP:=(sS (sI (av .Lt (aI .Mod (eV 0) (eC (.int 9))) (eC (.int 7))) Wx sN) Wv)
def Wz:SP:=(sR (ap [(bq (ap [(eC (.int 1)),(eC (.int 6)),(eV 3)]) (aI .Sub (aI .Mod (eV 0) (eC (.int 9))) (eC (.int 1)))),(bK [(bK [(ap [(ap [(eC (.int 1))]),(eC (.int 2))])])])]))
def WA:SP:=(sS (sI (av .Lt (aI .Mod (eV 0) (eC (.int 9))) (eC (.int 4))) Wz sN) Wy)
def WB:SP:=(sR (ap [(eC (.int 0)),(bK [(bK [(ap [(ap [(eC (.int 0))]),(eC (.int 2))])])])]))
def WC:SP:=(sS (sI (av .Eq (aI .Mod (eV 0) (eC (.int 9))) (eC (.int 0))) WB sN) WA)
def Dy:SP:=(sR (ap [(eV 7),(eC (.int 3)),(eV 8),(eV 7)]))
def WD:SP:=(gH (cJ [7,8]) (aC "_law_list" [(eV 0),(eV 1),(eV 2)]))
def WE:SP:=(sR (ap [(eV 7),(eC (.int 3)),(eV 8),(eV 9)]))
def WG:SP:=(sS (gH (cJ [7,8,9]) (aC "_law_met" [(eV 0),(eV 1),(eV 2),(eV 3)])) WE)
def WH:SP:=(gH (cJ [7,8]) (aC "_law_joined" [(eV 0),(eV 1),(eV 2),(eV 3)]))
def WJ:SP:=(gH (cJ [7,8]) (aC "_law_single" [(eV 0),(eV 1),(eV 2),(eV 3),(eV 4)]))
def Dz:SP:=(sI (av .Lt (eV 5) (eC (.int 8))) WH WJ)
def WK:SP:=(sI (av .Eq (eV 5) (eC (.int 5))) WG Dz)
def DA:SP:=(sS (sI (av .Lt (eV 5) (eC (.int 5))) WD WK) Dy)
def DB:SP:=(sR (ap [(bq (ao (.n 2) (aI .Mod (eV 0) (eC (.int 6)))) (eC (.int 0))),(eV 6),(bK [(bK [(ap [(bq (ao (.n 2) (aI .Mod (eV 0) (eC (.int 6)))) (eC (.int 1))),(eV 6)])])]),(bq (ao (.n 2) (aI .Mod (eV 0) (eC (.int 6)))) (eC (.int 0)))]))
def WL:SP:=(sS (sA 6 (sV (bq (ap [(eC (.int 0)),(eC (.int 1)),(eC (.int 2))]) (eV 5)))) DB)
def WM:SP:=(sS (sI (av .Lt (eV 5) (eC (.int 3))) WL sN) DA)
def WN:SP:=(sS (sA 0 (sV (aI .FloorDiv (eV 0) (eC (.int 9))))) WM)
def WO:SP:=(sS (sA 5 (sV (aI .Mod (eV 0) (eC (.int 9))))) WN)
def DC:SP:=(sI (av .Eq (bT (Pl.g (.n 3))) (eC (.int 0))) (sR (eV 1)) sN)
def WP:SP:=(sS (sF (cJ [1,2,3,4]) (eV 0) DC) (sR (dX (eC (.int 1)))))
def WQ:SP:=(sR (ii (av .Eq (aC "_law_seen" [(eV 0),(eV 4),(eV 3)]) (aC "_law_forms" [(c5 (bA 6 1 (eV 2) (bf (ay 6) tT (ao (.n 6) (eC (.int 2))))))])) (eV 4) (dX (eC (.int 1)))))
def WR:SP:=(sR (ii (av .Eq (eV 4) (eV 5)) (eV 4) (dX (eC (.int 1)))))
def WS:SP:=(sS (sI (av .GtE (eV 5) (eC (.int 0))) WR sN) WQ)
def WT:SP:=(sS (sA 5 (sV (aC "_law_lost" [(eV 2)]))) WS)
def WU:SP:=(sS (sA 4 (sV (aC "splice" [(eV 1),(c5 (bA 6 1 (eV 2) (bf (ay 6) tT (ap [(ao (.n 6) (eC (.int 0))),(ao (.n 6) (eC (.int 1)))])))),(eV 3)]))) WT)
def DD:SP:=(sR (pY (eB (av .Eq (aC "_law_seen" [(eV 0),(eV 8),(eV 3)]) (aC "_law_forms" [(eV 10)]))) (tv (eB (av .Eq (eV 8) (eV 5))) (tu (eV 9)))))
def DE:SP:=(sE (cB (.n 10) (c5 (bA 13 1 (aC "_law_forms" [(c5 (bA 13 1 (eV 11) (bf (ay 13) tT (ao (.n 13) (eC (.int 2))))))]) (bf (ay 13) tT (oo (eV 13)))))))
def WV:SP:=(sS (sA 9 (sV (pY (eV 9) (tw (c5 (bA 13 1 (eV 12) (bf (ay 13) tT (eB (av .Eq (aC "_law_settled" [(eV 13)]) (fQ (eV 13))))))))))) DE)
def DF:SP:=(sS (sA 12 (sV (aC "_law_choices" [(c5 (bA 13 1 (eV 11) (bf (ay 13) tT (ao (.n 13) (eC (.int 2))))))]))) WV)
def WW:SP:=(sS (sF (ay 11) (ap [(gk (eV 2) oN (oS (eV 4))),(gk (eV 2) (oS (eV 4)) oN)]) DF) DD)
def WX:SP:=(sS (sA 9 (sV (eC (.bool true)))) (sS (sA 10 (fL [])) WW))
def WY:SP:=(sS (sI (av .GtE (aC "_law_lost" [(eV 2)]) (eC (.int 0))) (sR (eB (av .Eq (eV 8) (eV 5)))) sN) WX)
def xq:SP:=(sS (sA 8 (sV (aC "splice" [(eV 1),(bK [(ap [(eV 6),(eC (.int 3))]),(ap [(eV 7),(eC (.int 3))])]),(eV 3)]))) WY)
def DG:SP:=(sS (sI (fk (av .Lt (eV 6) (eC (.int 0))) (av .Lt (eV 7) (eC (.int 0)))) (sR (eC (.bool false))) sN) xq)
def WZ:SP:=(sS (sA 7 (sV (aC "_law_whole" [(eV 0),(eV 1),(gk (eV 2) (oS (eV 4)) oN),(eV 3)]))) DG)
def W0:SP:=(sS (sA 6 (sV (aC "_law_whole" [(eV 0),(eV 1),(gk (eV 2) oN (oS (eV 4))),(aI .Sub (eC (.int 1)) (eV 3))]))) WZ)
def W1:SP:=(sI (av .NotEq (aC "splice" [(eV 1),(eV 13),(eV 3)]) (eV 11)) (sR (eC (.bool false))) sN)
def W2:SP:=(sS (sA 13 (sV (ii (av .Eq (ao (.n 12) (eC (.int 0))) (eC (.int 11))) (bK [(ap [(ao (.n 12) (eC (.int 1))),(eC (.int 2))])]) (oo (ao (.n 12) (eC (.int 1))))))) W1)
def xr:SP:=(sS (sA 12 (sV (ao (.a 0 "rows") (eV 11)))) W2)
def DH:SP:=(sS (sF (ay 11) (aC "_law_atoms" [(eV 0),(eV 4)]) xr) (sR (eC (.bool true))))
def DI:SP:=(sS (sI (dz (av .Eq (bT (Pl.g (.n 6))) (eC (.int 1))) (av .NotEq (aC "splice_union" [(eV 1),(eV 5),(ao (.n 6) (eC (.int 0))),(eV 3)]) (eV 4))) (sR (eC (.bool false))) sN) DH)
def W3:SP:=(sS (sI (av .GtE (aC "_law_lost" [(eV 2)]) (eC (.int 0))) (sR (eC (.bool true))) sN) DI)
def DJ:SP:=(sI (dz (av .Eq (eV 8) (eC (.int 3))) (dz (av .Eq (bT (Pl.g (.n 9))) (eC (.int 1))) (av .NotEq (aC "_law_elems" [(eV 0),(aC "cut_open" [(eV 0),(ap [(eV 7),(eV 8)])])]) (ao (.n 9) (eC (.int 0)))))) (sR (eC (.bool false))) sN)
def DK:SP:=(sS (sI (fk (av .NotEq (aC "kindsplice_list_part" [(eV 0),(eV 7)]) (eV 10)) (av .NotEq (aC "kindsplice_spread_kind" [(eV 1),(eV 7)]) (eV 7))) (sR (eC (.bool false))) sN) DJ)
def DL:SP:=(sS (sF (cJ [7,8,9,10]) (eV 2) DK) W3)
def W4:SP:=(sS (sI (av .NotEq (aC "union_places" [(eV 0),(eV 5)]) (ii (av .Gt (bT (Pl.g (.n 6))) (eC (.int 0))) (ao (.n 6) (eC (.int 0))) (dX (eC (.int 1))))) (sR (eC (.bool false))) sN) DL)
def DM:SP:=(sS (sI (av .NotEq (aC "has_spread" [(eV 5)]) (p3 (c5 (bA 14 1 (eV 2) (bf (ay 14) tT (eB (av .Eq (ao (.n 14) (eC (.int 1))) (eC (.int 3))))))))) (sR (eC (.bool false))) sN) W4)
def W5:SP:=(sS (sA 6 (fR (bA 14 1 (ij (bT (Pl.g (.n 2)))) (bf (ay 14) (av .Gt (bT (sV (bq (ao (.n 2) (eV 14)) (eC (.int 2))))) (eC (.int 1))) (eV 14))))) DM)
def W6:SP:=(sS (sA 5 (fR (bA 14 1 (eV 2) (bf (ay 14) tT (ap [(ao (.n 14) (eC (.int 0))),(ao (.n 14) (eC (.int 1)))]))))) W5)
def xt:SP:=(sR (aC "_law_parted" [(eV 1),(eV 2),(eV 7),(eV 12),(aI .Mod (aI .FloorDiv (eV 6) (eC (.int 12))) (aI .Add (bT (Pl.g (.n 7))) (eC (.int 1)))),(eV 13)]))
def DO:SP:=(sS (sI (fk (av .Lt (eV 13) (eC (.int 0))) (mE (gG (sV (aC "_law_pieces" [(eV 1),(eV 2),(eV 7),(eV 12),(eV 13)]))))) (sR (eC (.bool false))) sN) xt)
def W7:SP:=(sS (sA 13 (sV (aC "_law_whole" [(eV 1),(eV 2),(eV 7),(eV 12)]))) DO)
def DP:SP:=(sS (sA 12 (sV (aI .Mod (aI .FloorDiv (eV 6) (eC (.int 6))) (eC (.int 2))))) W7)
def W8:SP:=(sI (av .Gt (bT (sV (bq (ao (.n 7) (dX (eC (.int 1)))) (eC (.int 2))))) (eC (.int 1))) (tz 8 (eC (.int 1))) sN)
def DQ:SP:=(sS (sE (cB (.n 7) (aC "_law_element" [(eV 11),(eV 1),(eV 3),(eV 4),(eV 5)]))) W8)
def DR:SP:=(sA 11 (sV (ii (av .Eq (eV 8) (eC (.int 1))) (aI .Sub (eV 11) (aI .Mult (aI .Mod (aI .FloorDiv (eV 11) (eC (.int 9))) (eC (.int 2))) (eC (.int 9)))) (aI .Add (aI .Sub (eV 11) (aI .Mod (eV 11) (eC (.int 9)))) (eC (.int 3))))))
def DS:SP:=(sS (sI (dz (av .Gt (eV 8) (eC (.int 0))) (dK (aI .Mod (eV 11) (eC (.int 9))) (sV (ap [(eC (.int 6)),(eC (.int 7))])))) DR sN) DQ)
def DT:SP:=(sS (sA 11 (sV (aI .Mod (aI .Add (ao (.n 0) (aI .Mod (eV 10) (bT (Pl.g (.n 0))))) (aI .Mult (aI .FloorDiv (eV 10) (bT (Pl.g (.n 0)))) (eC (.int 131)))) (eC (.int 10000000))))) DS)
def xu:SP:=(sS (sA 10 (sV (aI .Add (eV 9) (eC (.int 1))))) DT)
def DU:SP:=(sS (sF (ay 9) (ij (aI .Mod (eV 6) (eC (.int 6)))) xu) DP)
def W9:SP:=(sS (sA 7 (fL [])) (sS (sA 8 (sV (eC (.int 0)))) DU))
def DV:SP:=(sS (sA 6 (sV (aI .Mod (ao (.n 0) (eC (.int 0))) (eC (.int 1000000))))) W9)
def Xa:SP:=(sS (sA 5 (sV (aC "new_param" [(eV 1),(eC (.str "U")),(dY (eV 1) "put" [(ap [(eC (.int 11)),(eC (.int 6)),(eC (.int 0))])]),(dX (eC (.int 1)))]))) DV)
def Xb:SP:=(sS (sA 4 (sV (dY (eV 1) "put" [(ap [(eC (.int 8)),(ap [(ap [(eC (.str "brand")),(eC (.int 6)),(eC (.int 0)),(eC (.int 0))])]),(ap []),(ap []),(ap []),(ap []),(eC (.int 0))])]))) Xa)
def DW:SP:=(sS (sA 3 (sV (aC "_law_kinds" [(eV 1)]))) Xb)
def Xc:SP:=(sS (sA 2 (sV (p4 1 [(eV 1)]))) DW)
def rh:SP:=(sS (sA 1 (sV (p4 0 []))) Xc)
def Xd:SP:=(sA 0 (fL [(eC (.int 21)),(eC (.int 1896)),(eC (.int 18)),(eC (.int 3036))]))
def ri:SP:=(sS (sI (av .Eq (bT (Pl.g (.n 0))) (eC (.int 0))) Xd sN) rh)
def Xe:SP:=(sS (sA 0 (sV (gk (eV 0) oN (oS (eC (.int 24)))))) ri)
theorem Xf:tab.lookup (ac "str_type")=some ⟨2,[.int 0],0,Th⟩:=by kernel_rfl
theorem Xg:tab.lookup (ac "num_type")=some ⟨2,[.int 0],0,Ti⟩:=by kernel_rfl
theorem Xh:tab.lookup (ac "array_type")=some ⟨3,[],0,Tj⟩:=by kernel_rfl
theorem Xi:tab.lookup (ac "last_mark")=some ⟨2,[],2,Tl⟩:=by kernel_rfl
theorem Xj:tab.lookup (ac "needed_to_last")=some ⟨2,[],5,Tq⟩:=by kernel_rfl
theorem DX:tab.lookup (ac "one_rest")=some ⟨3,[],5,Tv⟩:=by kernel_rfl
theorem Xk:tab.lookup (ac "tuple_type")=some ⟨3,[],2,TA⟩:=by kernel_rfl
theorem Xl:tab.lookup (ac "new_param")=some ⟨4,[],1,TF⟩:=by kernel_rfl
theorem Xm:tab.lookup (ac "parts_of")=some ⟨2,[],1,TI⟩:=by kernel_rfl
theorem Xn:tab.lookup (ac "whole_of_row")=some ⟨1,[],1,TM⟩:=by kernel_rfl
theorem Xo:tab.lookup (ac "regular_twin")=some ⟨2,[],1,TO⟩:=by kernel_rfl
theorem Xp:tab.lookup (ac "join_bools")=some ⟨1,[],0,TS⟩:=by kernel_rfl
theorem Xq:tab.lookup (ac "stays_beside")=some ⟨3,[],0,TU⟩:=by kernel_rfl
theorem Xr:tab.lookup (ac "top_of")=some ⟨1,[],1,TW⟩:=by kernel_rfl
theorem Xs:tab.lookup (ac "union")=some ⟨2,[],5,T9⟩:=by kernel_rfl
theorem Xu:tab.lookup (ac "add_undef")=some ⟨2,[],0,Ua⟩:=by kernel_rfl
theorem Xv:tab.lookup (ac "index_kids")=some ⟨1,[],0,Ub⟩:=by kernel_rfl
theorem aFT:tab.lookup (ac "sig_kids")=some ⟨1,[],1,Uf⟩:=by kernel_rfl
theorem Xw:tab.lookup (ac "object_kids")=some ⟨1,[],2,Ui⟩:=by kernel_rfl
theorem Xx:tab.lookup (ac "row_kids")=some ⟨1,[],3,Uy⟩:=by kernel_rfl
theorem Xy:tab.lookup (ac "row_binds")=some ⟨1,[],0,UC⟩:=by kernel_rfl
theorem Xz:tab.lookup (ac "inner_kids")=some ⟨2,[],2,UG⟩:=by kernel_rfl
theorem XA:tab.lookup (ac "reached")=some ⟨2,[],3,UL⟩:=by kernel_rfl
theorem XD:tab.lookup (ac "free_params")=some ⟨2,[],5,UP⟩:=by kernel_rfl
theorem XG:tab.lookup (ac "has_params")=some ⟨2,[],0,UQ⟩:=by kernel_rfl
theorem DY:tab.lookup (ac "is_open")=some ⟨2,[],4,U0⟩:=by kernel_rfl
theorem XH:tab.lookup (ac "has_spread")=some ⟨1,[],1,U1⟩:=by kernel_rfl
theorem XJ:tab.lookup (ac "kindsplice_spread_kind")=some ⟨2,[],1,U3⟩:=by kernel_rfl
theorem XL:tab.lookup (ac "union_places")=some ⟨2,[],1,U4⟩:=by kernel_rfl
theorem XN:tab.lookup (ac "kindsplice_list_part")=some ⟨2,[],2,U8⟩:=by kernel_rfl
theorem XO:tab.lookup (ac "cut_open")=some ⟨2,[],1,Vg⟩:=by kernel_rfl
theorem XQ:tab.lookup (ac "splice_union")=some ⟨4,[],4,Vk⟩:=by kernel_rfl
theorem xv:tab.lookup (ac "splice")=some ⟨3,[],5,Vv⟩:=by kernel_rfl
theorem XU:tab.lookup (ac "_law_join")=some ⟨1,[],2,VE⟩:=by kernel_rfl
theorem XV:tab.lookup (ac "_law_settled")=some ⟨1,[],8,VP⟩:=by kernel_rfl
theorem XW:tab.lookup (ac "_law_choices")=some ⟨1,[],2,VR⟩:=by kernel_rfl
theorem XY:tab.lookup (ac "_law_forms")=some ⟨1,[],0,VS⟩:=by kernel_rfl
theorem XZ:tab.lookup (ac "_law_atoms")=some ⟨2,[],0,VT⟩:=by kernel_rfl
theorem X0:tab.lookup (ac "_law_elems")=some ⟨2,[],0,VU⟩:=by kernel_rfl
theorem X1:tab.lookup (ac "_law_seen")=some ⟨3,[],3,V1⟩:=by kernel_rfl
theorem X2:tab.lookup (ac "_law_kinds")=some ⟨1,[],6,V5⟩:=by kernel_rfl
theorem X3:tab.lookup (ac "_law_list")=some ⟨3,[],8,Wh⟩:=by kernel_rfl
theorem X4:tab.lookup (ac "_law_joined")=some ⟨4,[],6,Wo⟩:=by kernel_rfl
theorem X5:tab.lookup (ac "_law_met")=some ⟨4,[],5,Wu⟩:=by kernel_rfl
theorem X6:tab.lookup (ac "_law_single")=some ⟨5,[],1,WC⟩:=by kernel_rfl
theorem X7:tab.lookup (ac "_law_element")=some ⟨5,[],5,WO⟩:=by kernel_rfl
theorem X8:tab.lookup (ac "_law_lost")=some ⟨1,[],4,WP⟩:=by kernel_rfl
theorem DZ:tab.lookup (ac "_law_whole")=some ⟨4,[],2,WU⟩:=by kernel_rfl
theorem X9:tab.lookup (ac "_law_parted")=some ⟨6,[],7,W0⟩:=by kernel_rfl
theorem Yb:tab.lookup (ac "_law_pieces")=some ⟨5,[],9,W6⟩:=by kernel_rfl
theorem Yc:tab.lookup (ac "law")=some ⟨1,[],13,Xe⟩:=by kernel_rfl
theorem Yd:gM.lookup (0,ac "__init__")=some ⟨1,[],1,Dd⟩:=by kernel_rfl
theorem D0:gM.lookup (0,ac "put")=some ⟨2,[],1,Tg⟩:=by kernel_rfl
theorem Ye:gM.lookup (1,ac "__init__")=some ⟨2,[],0,xh⟩:=by kernel_rfl
theorem Yg:gM.lookup (1,ac "force")=some ⟨2,[],0,VA⟩:=by kernel_rfl
end Mine
end
section
set_option autoImplicit false
set_option genInjectivity false
set_option genSizeOf false
open PySem
namespace Mine.V
inductive al where
 |key (s:Str)
 |bool (v f:Int)
 |str (s:Str)
 |num (n:Int)
 |union (ids:List Int)
 |inter (ids:List Int)
 |obj (ps:List (Str×Int))
 |param (p:Int)
 |arr (e ro:Int)
 |tup (es:List (Int×Int)) (ro:Int)
 |keyof (t:Int)
noncomputable def d4 (e:Int×Int):aa:=.tuple [.int e.1,.int e.2]
noncomputable def D1 (p:Str×Int):aa:=.tuple [.str p.1,.int p.2,.int 0,.int 0]
noncomputable def bh:al→aa
 | .key s=>.tuple [.int 1,.str s]
 | .bool v f=>.tuple [.int 2,.int v,.int f]
 | .str s=>.tuple [.int 3,.str s,.int 0]
 | .num n=>.tuple [.int 4,.int n,.int 0]
 | .union ids=>.tuple [.int 6,.tuple (aA ids)]
 | .inter ids=>.tuple [.int 7,.tuple (aA ids)]
 | .obj ps=>.tuple [.int 8,.tuple (ps.map D1),.tuple [],.tuple [],.tuple [],.tuple [],.int 0]
 | .param p=>.tuple [.int 10,.int p]
 | .arr e ro=>.tuple [.int 11,.int e,.int ro]
 | .tup es ro=>.tuple [.int 12,.tuple (es.map d4),.int ro]
 | .keyof t=>.tuple [.int 14,.int t]
noncomputable def sq (d:aa):List aa:=(jZ d).getD []
noncomputable def at' (k:Nat)(d:aa):aa:=(sq d)[k]?.getD .none
noncomputable def nI (k:Nat)(d:aa):Int:=(cg (at' k d)).getD 0
noncomputable def Yh:aa→Str
 | .str s=>s
 | _=>ac "a"
noncomputable def nS (k:Nat)(d:aa):Str:=Yh (at' k d)
noncomputable def rj (d:aa):List Int:=(sq d).map fun x=>(cg x).getD 0
noncomputable def D2 (d:aa):al:=
 if nI 0 d=1 then .key (nS 1 d) else if nI 0 d=2 then .bool (nI 1 d) (nI 2 d) else if nI 0 d=3 then .str (nS 1 d) else if nI 0 d=4 then .num (nI 1 d)
 else if nI 0 d=6 then .union (rj (at' 1 d)) else if nI 0 d=7 then .inter (rj (at' 1 d)) else if nI 0 d=8 then .obj ((sq (at' 1 d)).map fun x=>(nS 0 x,nI 1 x))
 else if nI 0 d=10 then .param (nI 1 d) else if nI 0 d=11 then .arr (nI 1 d) (nI 2 d) else if nI 0 d=12 then .tup ((sq (at' 1 d)).map fun x=>(nI 0 x,nI 1 x)) (nI 2 d) else .keyof (nI 1 d)
theorem map_id' {α β:Type}{f:α→β}{g:β→α}(h:∀x,g (f x)=x)(l:List α):(l.map f).map g=l:=by
 rw[cD];exact(me fun x _=>h x).trans (List.map_id' l)
theorem rn (l:List Int):rj (.tuple (aA l))=l:=map_id' (f:=bv) (fun _=>rfl) l
theorem D3:∀x,D2 (bh x)=x
 | .key _=>rfl
 | .bool _ _=>rfl
 | .str _=>rfl
 | .num _=>rfl
 | .union l=>congrArg al.union (rn l)
 | .inter l=>congrArg al.inter (rn l)
 | .obj l=>congrArg al.obj (map_id' (f:=D1) (fun _=>rfl) l)
 | .param _=>rfl
 | .arr _ _=>rfl
 | .tup l ro=>congrArg (fun l=>al.tup l ro) (map_id' (f:=d4) (fun _=>rfl) l)
 | .keyof _=>rfl
theorem D4 {a b:al}(h:bh a=bh b):a=b:=(D3 a).symm.trans ((congrArg D2 h).trans (D3 b))
noncomputable def xw (T:List al):List aa:=T.map bh
noncomputable def jE:Nat→List al→List (aa×Int)
 | _,[]=>[]
 |k,x::T=>(bh x,(k:Int))::jE (k+1) T
noncomputable def lO:List al→Slot
 |[]=>.dct []
 |x::T=>.tdct (jE 0 (x::T))
noncomputable def D5 (R:List aa)(I:Slot)(b d n:List aa):Ob:=
 {cls:=0,at':=[("rows",.lst R),("index",I),("decls",.lst [.none]),("bounds",.lst b),("defaults",.lst d),("names",.lst n),
   ("origins",.dct []),("renamed",.dct []),("shaping",.pv (.d (.int 0))),("putting",.pv (.d (.int 0)))]}
noncomputable def ct (T:List al):List aa→List aa→List aa→Ob:=D5 (xw T) (lO T)
noncomputable def az (T:List al)(t:Int)(x:al):Prop:=0≤t∧T[t.toNat]? =some x
variable {T:List al}{x:al}{t:Int}
theorem az.fn {y:al}(h:az T t x)(h':az T t y):x=y:=a8 (h.2.symm.trans h'.2)
theorem az.get (h:az T t x):cU (xw T) t=some (bh x):=by
 unfold cU xw;rw[if_pos h.1,f9,h.2];rfl
theorem az.mem (h:az T t x):x∈T:=pC h.2
open Classical in
theorem xx {k y:aa}{v:Int}{l:List (aa×Int)}:eJ ((y,v)::l) k=if y=k then some v else eJ l k:=by
 unfold eJ;rw[List.find?_cons];by_cases h:y=k
 ·rw[if_pos h,decide_eq_true h];rfl
 ·rw[if_neg h,decide_eq_false h]
theorem Yi (T:List al):∀k n:Nat,T.Nodup→T[n]? =some x→eJ (jE k T) (bh x)=some ((k+n:Nat):Int):=by
 induction T with
 |nil=>intro k n _ e;cases e
 |cons y T ih=>
  intro k n h e
  cases n with
  |zero=>exact xx.trans (if_pos (congrArg bh (a8 e)))
  |succ n=>
   refine(xx.trans (if_neg fun z=>(eU.mp h).1 ((D4 z:y=x)▸pC e))).trans ((ih (k+1) n (eU.mp h).2 e).trans ?_)
   rw[c9];rfl
theorem D6 (T:List al):∀k:Nat,x∉T→eJ (jE k T) (bh x)=none:=by
 induction T with
 |nil=>exact fun _ _=>rfl
 |cons y T ih=>exact fun k h=>(xx.trans (if_neg fun z=>h ((D4 z:y=x)▸ .head _))).trans (ih (k+1) fun z=>h (.tail _ z))
theorem Yj (T:List al):∀k:Nat,jE k (T++[x])=jE k T++[(bh x,((k+T.length:Nat):Int))]:=by
 induction T with
 |nil=>exact fun _=>rfl
 |cons y T ih=>exact fun k=>congrArg ((bh y,(k:Int))::·) ((ih (k+1)).trans (by rw[c9];rfl))
theorem Yk (T:List al):∀k:Nat,(jE k T).length=T.length:=by
 induction T with
 |nil=>exact fun _=>rfl
 |cons y T ih=>exact fun k=>congrArg (·+1) (ih (k+1))
theorem xy (x:al):bh x= .tuple (sq (bh x)):=by cases x<;>rfl
theorem D7 (hx:cq (bh x)=true):dv (lO T) (bh x)=some (eJ (jE 0 T) (bh x)).isSome:=by
 cases T with
 |nil=>show y7 [] (bh x)= _;rw[xy] at hx ⊢;show (if cq _=true then _ else _)= _;rw[if_pos hx];rfl
 |cons y T=>exact if_pos hx
theorem Yl {kvs:List (aa×Int)}{k:aa}{v:Int}(h:eJ kvs k=none):n7 kvs k v=kvs++[(k,v)]:=if_neg fun z=>by rw[h] at z;cases z
theorem Ym (hx:cq (bh x)=true)(h:x∉T)(hl:T.length<aH):iJ (lO T) (bh x) (.int T.length)=some (lO (T++[x])):=by
 cases T with
 |nil=>show iJ (.dct []) (bh x) _= _;rw[xy] at hx;show _=some (Slot.tdct [(bh x,_)]);rw[xy];show (if cq _=true then _ else _)= _;rw[if_pos hx];rfl
 |cons y T=>
  exact(if_pos (aP.mpr ⟨hx,decide_eq_true ((Yk (y::T) 0).symm▸hl)⟩)).trans (congrArg (fun l=>some (Slot.tdct l)) ((Yl (D6 _ 0 h)).trans ((Yj (y::T) 0).trans (by rw[bQ])).symm))
theorem fy {c:Bool}{a b:Prop}(h:c=true)(x:a):Br c a b:=by unfold Br;rw[if_pos h];exact x
theorem fX {c:Bool}{a b:Prop}(h:c=false)(x:b):Br c a b:=by unfold Br;rw[h];exact x
theorem ah {α:Type}{o:Option α}{a:α}{K:α→Prop}(h:o=some a)(x:K a):am o K:=by rw[h];exact x
variable {r:R}{l:L}{o:O}{b d n':List aa}{os:O}{K:PV→O→Prop}
theorem Yn {m:Nat}(hr:Lv (m+1) r)(hn:T.Nodup)(hx:cq (bh x)=true)(h:az T t x)(k:K (.d (.int t)) (ct T b d n'::os)):
 r.meth 0 "put" [.o 0,.d (bh x)] (ct T b d n'::os) K:=by
 have e:eJ (jE 0 T) (bh x)=some t:=(Yi T 0 _ hn h.2).trans (congrArg some ((congrArg fK (bQ _)).trans (mf h.1)))
 refine hr.meth D0 fun r _=>⟨rfl,?_⟩
 refine ah (D7 hx) (fy (congrArg Option.isSome e) ?_)
 refine ah (a:=bv t) ?_ k
 cases T with
 |nil=>cases e
 |cons y T=>exact(if_pos hx).trans (congrArg (gD bv) e)
theorem D8 {m:Nat}(hr:Lv (m+1) r)(hx:cq (bh x)=true)(hl:T.length<aH)(h:x∉T)(k:K (.d (.int T.length)) (ct (T++[x]) b d n'::os)):
 r.meth 0 "put" [.o 0,.d (bh x)] (ct T b d n'::os) K:=by
 refine hr.meth D0 fun r _=>⟨rfl,?_⟩
 refine ah (D7 hx) (fX (congrArg Option.isSome (D6 _ 0 h)) ?_)
 refine⟨(aB ..).symm▸hl,?_⟩
 refine ah rfl (ah rfl ?_)
 refine ah (a:=lO (T++[x])) ((congrArg (fun n=>iJ (lO T) (bh x) (.int n)) (congrArg Nat.cast (aB ..))).trans (Ym hx h hl)) ?_
 refine ah rfl (ah rfl ?_)
 exact(congr (congrArg (fun n R=>K (.d (.int n)) (D5 R (lO (T++[x])) b d n'::os)) (congrArg Nat.cast (aB ..))) (bJ (f:=bh) (l₁:=T) (l₂:=[x])).symm).mpr k
end Mine.V
namespace Mine.V
noncomputable def aZ:List al:=
 [.key "any",.key "unknown",.key "never",.key "void",.key "undefined",.key "null",.key "string",.key "number",
  .bool 0 0,.bool 1 0,.key "object",.obj [],.union [8,9],.key "error",.bool 0 1,.bool 1 1,
  .str "a",.str "b",.num 1,.param 0,.union [16,18],.union [4,17],.obj [("brand",6)],.arr 6 0,.param 1]
noncomputable def oR:Ob:={cls:=1,at':=[("tab",.pv (.o 0)),("deep",.pv (.d (.int 0))),("most_rounds",.pv (.d (.int 200))),("most_deep",.pv (.d (.int 40))),("lib",.pv (.d .none))]}
noncomputable def ob (T:List al):O:=[ct T [.int (-1),.int 23] [.int (-1),.int (-1)] [.str "T",.str "U"],oR]
structure aj (b:Nat)(T:List al):Prop where
 base:∃m,T=aZ++m
 nodup:T.Nodup
 len:T.length+b≤60000
noncomputable def Le (T T':List al):Prop:=∃m,T'=T++m
variable {r:R}{T T' T'':List al}{x:al}{t:Int}{b m:Nat}{K:PV→O→Prop}
theorem Le.refl (T:List al):Le T T:=⟨[],(ck _).symm⟩
theorem Le.trans (h:Le T T')(h':Le T' T''):Le T T'':=h.elim fun a e=>h'.elim fun c e'=>⟨a++c,by rw[e',e,cz]⟩
theorem az.le (h:az T t x)(l:Le T T'):az T' t x:=⟨h.1,l.elim fun a e=>e▸(List.getElem?_append_left (fG.mp h.2).1).trans h.2⟩
theorem aj.mono {c:Nat}(G:aj b T)(h:c≤b):aj c T:=⟨G.base,G.nodup,ai (cy h _) G.len⟩
theorem aj.le (G:aj b T)(h:az aZ t x):az T t x:=h.le G.base
theorem aj.inj {t':Int}(G:aj b T)(h:az T t x)(h':az T t' x):t=t':=by
 have e:=(List.getElem?_inj (fG.mp h.2).1 G.nodup).mp (h.2.trans h'.2.symm)
 exact(mf h.1).symm.trans ((congrArg fK e).trans (mf h'.1))
theorem jF:aH=65536:=rfl
theorem i4 (hr:Lv (m+1) r)(G:aj (b+1) T)(hx:cq (bh x)=true)(k:∀t T',Le T T'→aj b T'→az T' t x→K (.d (.int t)) (ob T')):
 r.meth 0 "put" [.o 0,.d (bh x)] (ob T) K:=by
 by_cases h:x∈T
 ·refine(pD h).elim fun i e=>?_
  have h:az T i x:=⟨gy _,e⟩
  exact Yn hr G.nodup hx h (k _ T (.refl T) (G.mono (dI b)) h)
 ·have hl:T.length+b<60000:=G.len
  refine D8 hr hx (li (aX (aR _ b) hl) (by rw[jF];decide)) h (k _ (T++[x]) ⟨[x],rfl⟩ ⟨?_,?_,?_⟩ ⟨gy _,?_⟩)
  ·exact G.base.elim fun a e=>⟨a++[x],by rw[e,cz]⟩
  ·exact pE.mpr ⟨G.nodup,eU.mpr ⟨aJ,.nil⟩,fun a ha c hc e=>h (aM.mp hc▸e▸ha)⟩
  ·rw[aG];exact ai (bg (by rw[c9];rfl)) hl
  ·exact(List.getElem?_append_right (aT _)).trans ((congrArg (fun n:Nat=>[x][n]?) (Nat.sub_self T.length)))
noncomputable def al.kind:al→Int
 | .key _=>1
 | .bool .. =>2
 | .str _=>3
 | .num _=>4
 | .union _=>6
 | .inter _=>7
 | .obj _=>8
 | .param _=>10
 | .arr .. =>11
 | .tup .. =>12
 | .keyof _=>14
theorem Yo (x:al):y8 (.d (bh x)) (.int 0)=some (.int x.kind):=by cases x<;>rfl
theorem ip {x:al}{K:aa→Prop}(h:K (.int x.kind)):am (j3 (.pv (.d (bh x))) (.int 0)) K:=ah (Yo x) h
theorem cu {a c:Int}{A B:Prop}(h:a=c)(x:A):am (dg .Eq (.int a) (.int c)) fun b=>Br b A B:=fy (decide_eq_true h) x
theorem bW {a c:Int}{A B:Prop}(h:a≠c)(x:B):am (dg .Eq (.int a) (.int c)) fun b=>Br b A B:=fX (decide_eq_false h) x
theorem eqI (a c:Int):dg .Eq (.int a) (.int c)=some (decide (a=c)):=rfl
noncomputable def Pt (T:List al)(t:Int)(ps:List Int):Prop:=t≠2∧(az T t (.union ps)∨ps=[t]∧∃x,az T t x∧x.kind≠6)
theorem Yp {ps:List Int}(hr:Lv (m+1) r)(h:Pt T t ps)(k:K (.d (.tuple (aA ps))) (ob T)):r.call "parts_of" [.o 0,.d (.int t)] (ob T) K:=by
 refine hr.call Xm fun r _=>⟨rfl,?_⟩
 refine bW h.1 ?_
 rcases h.2 with h|⟨rfl,x,h,hk⟩
 ·exact ah h.get k
 ·exact ah h.get (ip (bW hk k))
end Mine.V
namespace Mine.V
variable {r:R}{T T' T'':List al}{x:al}{t:Int}{b m:Nat}{K:PV→O→Prop}{o:O}
theorem D9 {α:Type}{enc:α→aa}{v:α→Option aa}{as:TP}{c:EP Bool}{e:EP PV}{I:L→Prop}{k:List aa→L→O→Prop}(xs:List α):∀(acc:List aa) (l:L),
 (∀x,x∈xs→∀l,I l→∀kk:Option aa→L→O→Prop,(∀l,I l→kk (v x) l o)→as (enc x) r l o fun _ l o=>c r l o fun c l o=>Br c (eD e r l o fun y l o=>kk (some y) l o) (kk none l o))→
 acc.length+xs.length<aH→I l→(∀l,I l→k (acc++xs.filterMap v) l o)→bf as c e (xs.map enc) acc r l o k:=by
 induction xs with
 |nil=>exact fun acc l _ _ hl hk=>(ck acc).subst (motive:=fun z=>k z l o) (hk l hl)
 |cons x xs ih=>
  intro acc l st hn hl hk
  refine st x (.head _) l hl (fun z l o=>z.elim (bf as c e (xs.map enc) acc r l o k) fun y=>acc.length<aH∧bf as c e (xs.map enc) (acc++[y]) r l o k) fun l hl=>?_
  rw[List.filterMap_cons] at hk
  generalize v x=z at hk
  have hn:acc.length+xs.length+1<aH:=hn
  cases z with
  |none=>exact ih acc l (fun x hx=>st x (.tail _ hx)) (mi hn) hl hk
  |some y=>exact⟨aX (aR _ _) (mi hn),ih (acc++[y]) l (fun x hx=>st x (.tail _ hx)) (by rw[aG,c9];exact hn) hl fun l hl=>by rw[cz];exact hk l hl⟩
theorem Ea {α:Type}{enc v:α→aa}{as:TP}{c:EP Bool}{e:EP PV}{I:L→Prop}{k:List aa→L→O→Prop}(xs:List α)(acc:List aa)(l:L)
 (st:∀x,x∈xs→∀l,I l→∀(A:L→O→Prop) (kk:aa→L→O→Prop),(∀l,I l→kk (v x) l o)→as (enc x) r l o fun _ l o=>c r l o fun c l o=>Br c (eD e r l o kk) (A l o))
 (hn:acc.length+xs.length<aH) (hl:I l) (hk:∀l,I l→k (acc++xs.map v) l o):bf as c e (xs.map enc) acc r l o k:=
 D9 (v:=fun x=>some (v x)) (I:=I) xs acc l (fun x hx l hl kk h=>st x hx l hl (kk none) (fun y=>kk (some y)) h) hn hl fun l hl=>by rw[List.filterMap_eq_map'];exact hk l hl
theorem eR {α:Type}{enc v:α→aa}{as:TP}{c:EP Bool}{e:EP PV}{I:L→Prop}{k:List aa→L→O→Prop}(xs:List α)(l:L)
 (st:∀x,x∈xs→∀l,I l→∀(A:L→O→Prop) (kk:aa→L→O→Prop),(∀l,I l→kk (v x) l o)→as (enc x) r l o fun _ l o=>c r l o fun c l o=>Br c (eD e r l o kk) (A l o))
 (hn:xs.length<aH) (hl:I l) (hk:∀l,I l→k (xs.map v) l o):bf as c e (xs.map enc) [] r l o k:=
 Ea xs [] l st ((bQ _).symm▸hn) hl hk
theorem Yq {α:Type}{enc:α→aa}{v:α→List aa}{as as':TP}{it e:EP PV}{I:L→Prop}{k:List aa→L→O→Prop}{n:Nat}(xs:List α):∀(acc:List aa) (l:L),
 (∀x,x∈xs→∀l,I l→∀(acc:List aa) (k:List aa→L→O→Prop),acc.length+n<aH→(∀l,I l→k (acc++v x) l o)→as (enc x) r l o fun _ l o=>it r l o fun p l o=>am (gh p) fun zs=>bf as' tT e zs acc r l o k)→
 (∀x∈xs,(v x).length=n)→acc.length+xs.length*n<aH→I l→(∀l,I l→k (acc++xs.flatMap v) l o)→tB as tT it (bf as' tT e) (xs.map enc) acc r l o k:=by
 induction xs with
 |nil=>exact fun acc l _ _ _ hl hk=>(ck acc).subst (motive:=fun z=>k z l o) (hk l hl)
 |cons x xs ih=>
  intro acc l st hv hn hl hk
  rw[k5,mn,gB _ n,←dS] at hn
  refine st x (.head _) l hl acc _ (aX (aR _ _) hn) fun l hl=>?_
  exact ih (acc++v x) l (fun x hx=>st x (.tail _ hx)) (fun x hx=>hv x (.tail _ hx)) (by rw[aG,hv x (.head _)];exact hn) hl fun l hl=>by rw[cz];exact hk l hl
noncomputable def kA:al→Int
 | .str _=>6
 | .num _=>7
 | _=> -1
noncomputable def al.plain:al→Bool
 | .bool .. =>false
 | _=>true
theorem Yr (hr:Lv (m+1) r)(k:K (.d (.int (kA x))) o):r.call "whole_of_row" [.d (bh x)] o K:=
 hr.call Xn fun r _=>⟨rfl,by cases x<;>exact k⟩
theorem Ys (hr:Lv (m+1) r)(h:az T t x)(hp:x.plain=true)(k:K (.d (.int (-1))) (ob T)):r.call "regular_twin" [.o 0,.d (.int t)] (ob T) K:=by
 refine hr.call Xo fun r _=>⟨rfl,?_⟩
 refine ah h.get ?_
 cases x<;>first|exact k|cases hp
noncomputable def cP (g:List Int):List (Int×aa):=g.map fun k=>(k,.int 1)
theorem Eb (k:Int)(g:List Int):(fj (cP g) k).isSome=decide (k∈g):=by
 rw[fj,Option.isSome_map]
 refine jU.mpr (List.find?_isSome.trans (gU ⟨fun h=>h.elim fun x h=>(aS.mp h.1).elim fun i hi=>?_,fun h=>⟨(k,.int 1),aS.mpr ⟨k,h,rfl⟩,beq_iff_eq.mpr rfl⟩⟩ decide_eq_true_iff.symm))
 have e:=(congrArg gV hi.2).trans (aN h.2)
 exact e▸hi.1
theorem xz (g:List Int)(k:Int):dv (.pv (.kd (cP g))) (.int k)=some (decide (k∈g)):=congrArg some (Eb k g)
theorem Ec {g:List Int}{k:Int}{A B:Prop}(h:k∈g)(x:A):am (dv (.pv (.kd (cP g))) (.int k)) fun b=>Br b A B:=ah (xz g k) (fy (decide_eq_true h) x)
theorem m7 {g:List Int}{k:Int}{A B:Prop}(h:k∉g)(x:B):am (dv (.pv (.kd (cP g))) (.int k)) fun b=>Br b A B:=ah (xz g k) (fX (decide_eq_false h) x)
theorem Yt {g:List Int}{k:Int}{K:Bool→Prop}(h:k∉g)(x:K false):am (dv (.pv (.kd (cP g))) (.int k)) K:=ah (xz g k) (by rw[decide_eq_false h];exact x)
theorem Yu {g:List Int}(hr:Lv (m+2) r)(h:az T t x)(hp:x.plain=true)(h1:(-1:Int)∉g)(hw:kA x∉g)(k:K (.d (.bool true)) (ob T)):
 r.call "stays_beside" [.o 0,.kd (cP g),.d (.int t)] (ob T) K:=by
 refine hr.call Xq fun r hr=>⟨rfl,?_⟩
 refine Ys hr h hp (m7 h1 ?_)
 refine ah h.get (Yr hr ?_)
 refine ah rfl (ah rfl (ah rfl (Yt hw ?_)))
 exact k
theorem Yv {g:List Int}(hr:Lv (m+1) r)(h1:(8:Int)∉g)(h2:(14:Int)∉g)(k:K (.d .none) o):r.call "join_bools" [.kd (cP g)] o K:=
 hr.call Xp fun r _=>⟨rfl,m7 h1 (m7 h2 k)⟩
theorem Yw {g:List Int}(hr:Lv (m+1) r)(h:(13:Int)∉g)(k0:0∈g→K (.d (.int 0)) o)(k1:0∉g→1∈g→K (.d (.int 1)) o)(k:0∉g→1∉g→K (.d (.int (-1))) o):r.call "top_of" [.kd (cP g)] o K:=by
 refine hr.call Xr fun r _=>⟨rfl,?_⟩
 by_cases h0:0∈g
 ·exact Ec h0 (k0 h0)
 ·refine m7 h0 (m7 h ?_)
  by_cases h1:1∈g
  ·exact Ec h1 (k1 h0 h1)
  ·exact m7 h1 (k h0 h1)
end Mine.V
namespace Mine.V
noncomputable def g8 (g:List Int)(p:Int):List Int:=if p∈g then g else g++[p]
noncomputable def i5 (g ps:List Int):List Int:=ps.foldl g8 g
theorem Yx {g:List Int}{p k:Int}:k∈g8 g p↔k∈g∨k=p:=by
 unfold g8
 by_cases h:p∈g
 ·rw[if_pos h];exact⟨.inl,fun z=>z.elim id fun e=>e▸h⟩
 ·rw[if_neg h,cY,aM]
theorem Yy (ps:List Int):∀(g:List Int) (k:Int),k∈i5 g ps↔k∈g∨k∈ps:=by
 induction ps with
 |nil=>exact fun g k=>⟨.inl,fun z=>z.elim id fun h=>(aJ h).elim⟩
 |cons p ps ih=>exact fun g k=>(ih (g8 g p) k).trans ((or_congr_left Yx).trans (or_assoc.trans (or_congr_right bC.symm)))
noncomputable def In (B g:List Int):Prop:=g.Nodup∧∀k∈g,k∈B
theorem In.add {B g:List Int}{p:Int}(h:In B g)(hp:p∈B):In B (g8 g p):=by
 unfold g8
 by_cases q:p∈g
 ·rw[if_pos q];exact h
 ·rw[if_neg q];exact⟨pE.mpr ⟨h.1,eU.mpr ⟨aJ,.nil⟩,fun a ha c hc e=>q (aM.mp hc▸e▸ha)⟩,fun k hk=>(cY.mp hk).elim (h.2 k) fun z=>aM.mp z▸hp⟩
theorem In.adds {B:List Int}(ps:List Int):∀{g:List Int},In B g→(∀p∈ps,p∈B)→In B (i5 g ps):=by
 induction ps with
 |nil=>exact fun h _=>h
 |cons p ps ih=>exact fun h hp=>ih (h.add (hp p (.head _))) fun q hq=>hp q (.tail _ hq)
theorem rp (a:List Int):∀{B:List Int},a.Nodup→(∀x∈a,x∈B)→a.length≤B.length:=by
 induction a with
 |nil=>exact fun _ _=>bz _
 |cons x a ih=>
  intro B h hB
  have h:=eU.mp h
  have hx:=hB x (.head _)
  have:=ih (B:=B.erase x) h.2 fun y hy=>(List.mem_erase_of_ne fun z:y=x=>h.1 (z▸hy)).mpr (hB y (.tail _ hy))
  rw[List.length_erase_of_mem hx] at this
  exact ai (gS this) (bg (Nat.sub_add_cancel (List.length_pos_of_mem hx)))
theorem In.len {B g:List Int}(h:In B g):g.length≤B.length:=rp g h.1 h.2
section
variable {α:Type}[BEq α][LawfulBEq α]
theorem xA (y:α)(l:List α):b0 (y::l)=if l.contains y=true then b0 l else y::b0 l:=rfl
theorem g9 {x:α}{l:List α}:x∈b0 l↔x∈l:=by
 induction l with
 |nil=>exact iI
 |cons y l ih=>
  rw[xA]
  by_cases h:y∈l
  ·rw[if_pos (kU.mpr h)];exact ih.trans ⟨.tail _,fun z=>(bC.mp z).elim (fun e=>e▸h) id⟩
  ·rw[if_neg fun z=>h (kU.mp z)];exact bC.trans ((or_congr_right ih).trans bC.symm)
theorem i6 (l:List α):(b0 l).Nodup:=by
 induction l with
 |nil=>exact .nil
 |cons y l ih=>
  rw[xA]
  by_cases h:y∈l
  ·rw[if_pos (kU.mpr h)];exact ih
  ·rw[if_neg fun z=>h (kU.mp z)];exact eU.mpr ⟨fun z=>h (g9.mp z),ih⟩
theorem Ed (l:List α):(b0 l).length≤l.length:=by
 induction l with
 |nil=>exact aT _
 |cons y l ih=>
  rw[xA]
  by_cases h:l.contains y=true
  ·rw[if_pos h];exact nY ih
  ·rw[if_neg h];exact gS ih
end
theorem xD {a c:List Int}(ha:a.Nodup)(hc:c.Nodup)(h:∀x,x∈a↔x∈c):a9 bn a=a9 bn c:=
 ti tj tm zh ((dy bn a).trans ((List.perm_ext_iff_of_nodup ha hc).mpr h)) (oh tj tm a)
noncomputable def norm (l:List Int):List Int:=if 0∈l then [0] else if 1∈l then [1] else a9 bn (b0 l)
theorem xE {l:List Int}{x:Int}(h:x∈norm l):x∈l:=by
 unfold norm at h
 by_cases h0:0∈l
 ·rw[if_pos h0] at h;exact aM.mp h▸h0
 ·rw[if_neg h0] at h
  by_cases h1:1∈l
  ·rw[if_pos h1] at h;exact aM.mp h▸h1
  ·rw[if_neg h1] at h;exact g9.mp ((dy bn _).mem_iff.mp h)
theorem m8 {a c:List Int}(h:∀x,x∈a↔x∈c):norm a=norm c:=by
 unfold norm
 rw[xD (i6 a) (i6 c) fun x=>g9.trans ((h x).trans g9.symm)]
 simp only[h]
variable {r:R}{T T' T'':List al}{x:al}{t:Int}{b m:Nat}{K:PV→O→Prop}{o:O}
theorem Ee {g:List Int}{p:Int}(h:g.length<aH):iJ (.dct (cP g)) (.int p) (.int 1)=some (.dct (cP (g8 g p))):=by
 refine(if_pos ((aB ..).symm▸h)).trans (congrArg (fun l=>some (Slot.dct l)) ?_)
 have ha:(cP g).any (fun q=>q.1==p)=decide (p∈g):=by
  rw[cP,List.any_map];exact(jU.mpr (mj.trans ⟨fun h=>h.elim fun x h=>decide_eq_true (aN h.2▸h.1),fun z=>⟨p,of_decide_eq_true z,beq_iff_eq.mpr rfl⟩⟩))
 unfold j0 g8
 rw[ha]
 by_cases q:p∈g
 ·rw[if_pos (decide_eq_true q),if_pos q,cP,cD]
  refine me fun x _=>?_
  by_cases z:x=p
  ·exact if_pos (beq_iff_eq.mpr z)
  ·exact if_neg fun w=>z (aN w)
 ·rw[if_neg fun z=>q (of_decide_eq_true z),if_neg q,cP,cP,bJ];rfl
theorem Yz {B:List Int}(hB:B.length<64){n:L→O→Prop}{t:PV→O→Prop}{a c d e f:Option Slot}(ps:List Int):∀(g:List Int) (j:Option Slot),In B g→(∀p∈ps,p∈B)→
 (∀j,n [a,c,some (.dct (cP (i5 g ps))),d,j,e,f] o)→
 ba (ay 4) (ik (.n 2) (eV 4) (eC (.int 1))) r n t (aA ps) [a,c,some (.dct (cP g)),d,j,e,f] o:=by
 induction ps with
 |nil=>exact fun g j _ _ h=>h j
 |cons p ps ih=>
  intro g j hg hp h
  refine ah (Ee (aX hg.len (li hB (by rw[jF];decide)))) ?_
  exact ih (g8 g p) _ (hg.add (hp p (.head _))) (fun q hq=>hp q (.tail _ hq)) h
noncomputable def Un (T:List al)(a:List Int)(t:Int):Prop:=a=[t]∨2≤a.length∧az T t (.union a)
abbrev Q2:=List (Int×List Int)
noncomputable def ids (q:Q2):List Int:=q.map (·.1)
noncomputable def bx (q:Q2):List Int:=q.flatMap (·.2)
theorem Ef {q:Q2}{x:Int×List Int}(hx:x∈q){p:Int}(hp:p∈x.2):p∈bx q:=jh.mpr ⟨x,hx,hp⟩
theorem YA (g a c:List Int):i5 g (a++c)=i5 (i5 g a) c:=List.foldl_append
theorem YB {B:List Int}(hB:B.length<64){n:L→O→Prop}{t:PV→O→Prop}{d e f:Option Slot}(hr:Lv (m+1) r)(q:Q2):∀(g:List Int) (i j:Option Slot),(∀x∈q,Pt T x.1 x.2)→In B g→(∀p∈bx q,p∈B)→
 (∀i j,n [some (.pv (.o 0)),d,some (.dct (cP (i5 g (bx q)))),i,j,e,f] (ob T))→
 ba (ay 3) Df r n t (aA (ids q)) [some (.pv (.o 0)),d,some (.dct (cP g)),i,j,e,f] (ob T):=by
 induction q with
 |nil=>exact fun g i j _ _ _ h=>h i j
 |cons x q ih=>
  intro g i j hq hg hp h
  have hx:=fun p hp'=>hp p (Ef (.head q) hp')
  refine Yp hr (hq x (.head _)) (Yz hB x.2 g j hg hx fun j=>?_)
  refine ih _ _ _ (fun y hy=>hq y (.tail _ hy)) (hg.adds _ hx) (fun p h=>hp p (cH _ h)) fun i j=>?_
  exact(YA g x.2 (bx q)).subst (motive:=fun z=>n [some (.pv (.o 0)),d,some (.dct (cP z)),i,j,e,f] (ob T)) (h i j)
theorem kB {α:Type}{f:aa→Option α}{en:α→aa}(h:∀x,f (en x)=some x)(l:List α):jp f (l.map en)=some l:=by
 induction l with
 |nil=>rfl
 |cons x l ih=>show (f (en x)).bind _= _;rw[h];exact congrArg (gD (x::·)) ih
theorem oU {l:List Int}(h:l.length<64):iM (aA l)=some (aA (a9 bn l)):=by
 unfold iM;rw[show iL (aA l)=some l from kB (en:=bv) (fun _=>rfl) l];exact if_pos h
theorem Eg (g:List Int):(cP g).map (fun p=>bv p.1)=aA g:=cD ..
theorem kC {a c:Int}{A B:Prop}(h:a≤c)(x:B):am (dg .Gt (.int a) (.int c)) fun b=>Br b A B:=fX (decide_eq_false (jW.mpr h)) x
noncomputable def Kq (n:Nat)(d:aa):Prop:=gF d=true∧d.depth≤n
theorem Kq.all {n:Nat}{xs:List aa}(h:∀x∈xs,Kq n x):keyAll xs=true∧ml xs≤n:=by
 induction xs with
 |nil=>exact⟨rfl,bz _⟩
 |cons x xs ih=>have a:=h x (.head _);have c:=ih fun y hy=>h y (.tail _ hy);exact⟨aP.mpr ⟨a.1,c.1⟩,Nat.max_le.mpr ⟨a.2,c.2⟩⟩
theorem Kq.tup {n:Nat}{xs:List aa}(h:∀x∈xs,Kq n x):Kq (n+1) (.tuple xs):=⟨(Kq.all h).1,gS (Kq.all h).2⟩
theorem Kq.int {n:Nat}{i:Int}:Kq n (.int i):=⟨rfl,bz _⟩
theorem xF {xs:List aa}(h:∀x∈xs,Kq 5 x):cq (.tuple xs)=true:=
 aP.mpr ⟨aP.mpr ⟨(Kq.tup h).1,decide_eq_true (Kq.tup h).2⟩,rfl⟩
theorem Kq.ints {n:Nat}(l:List Int):Kq (n+1) (.tuple (aA l)):=.tup fun x hx=>(aS.mp hx).elim fun i h=>h.2▸ .int
theorem dD {α:Type}{P:α→Prop}{a c:α}(h:P a)(h':P c):∀x∈[a,c],P x:=cx.mpr ⟨h,cx.mpr ⟨h',fun _ h=>(aJ h).elim⟩⟩
theorem Eh (l:List Int):cq (bh (.union l))=true:=xF (dD .int (.ints l))
theorem Ei {B:List Int}{q:Q2}{d:aa}(hr:Lv (m+3) r)(G:aj (b+1) T)(hd:gh (.d d)=some (aA (ids q)))(hq:∀x∈q,Pt T x.1 x.2)(hne:bx q≠[])(hB:B.length<64)
 (hp:∀p∈bx q,p∈B∧(p≠8∧p≠13∧p≠14)∧∃x,az T p x∧x.plain=true∧kA x∉bx q)
 (k:∀t T',Le T T'→aj b T'→Un T' (norm (bx q)) t→K (.d (.int t)) (ob T')):r.call "union" [.o 0,.d d] (ob T) K:=by
 refine hr.call Xs fun r hr=>⟨rfl,?_⟩
 refine ah hd ?_
 refine YB hB hr q [] none none hq ⟨.nil,fun _ h=>(aJ h).elim⟩ (fun p h=>(hp p h).1) fun i j=>?_
 have hm:∀x,x∈i5 [] (bx q)↔x∈bx q:=fun x=>(Yy _ [] x).trans (or_iff_right aJ)
 have hg:In B (i5 [] (bx q)):=In.adds _ ⟨.nil,fun _ h=>(aJ h).elim⟩ fun p h=>(hp p h).1
 generalize i5 [] (bx q)=g at hm hg
 have G':aj b T:=G.mono (dI b)
 have no:∀{p:Int},p∈g→(p≠8∧p≠13∧p≠14)∧∃x,az T p x∧x.plain=true∧kA x∉bx q:=fun h=>(hp _ ((hm _).mp h)).2
 refine Yw (m:=m+1) hr (fun h=>(no h).1.2.1 rfl) (fun h0=>?_) (fun h0 h1=>?_) fun h0 h1=>?_
 ·exact k 0 T (.refl T) G' (.inl (if_pos ((hm 0).mp h0)))
 ·exact k 1 T (.refl T) G' (.inl ((if_neg fun z=>h0 ((hm 0).mpr z)).trans (if_pos ((hm 1).mp h1))))
 have e:norm (bx q)=a9 bn g:=(if_neg fun z=>h0 ((hm 0).mpr z)).trans ((if_neg fun z=>h1 ((hm 1).mpr z)).trans (xD (i6 _) hg.1 fun x=>g9.trans (hm x).symm))
 rw[e] at k
 have hl:g.length<64:=aX hg.len hB
 have hs:=dy bn g
 refine Yv (m:=m+1) hr (fun h=>(no h).1.1 rfl) (fun h=>(no h).1.2.2 rfl) ?_
 refine ah ((congrArg iM (Eg g)).trans (oU hl)) ⟨rfl,?_⟩
 refine eR (a9 bn g) _ (v:=bv) (I:=fun l=>∃c,l=[some (.pv (.o 0)),some (.pv (.d d)),some (.pv (.kd (cP g))),i,j,some (.pv (.d (.int (-1)))),none,c]) (fun p hp l hl A kk h=>?_) ?_ ⟨_,rfl⟩ fun l hl=>?_
 ·obtain⟨c,rfl⟩:=hl
  obtain⟨_,x,hx,hpl,hw⟩:=no (hs.mem_iff.mp hp)
  refine Yu (m:=m) hr hx hpl (fun z=>(no z).2.elim fun y hy=>absurd hy.1.1 (by decide)) (fun z=>hw ((hm _).mp z)) ?_
  exact h _ ⟨_,rfl⟩
 ·exact li (hs.length_eq▸hl) (by rw[jF];decide)
 ·obtain⟨c,rfl⟩:=hl
  have hn:a9 bn g≠[]:=fun z=>hne (List.eq_nil_iff_forall_not_mem.mpr fun y hy=>aJ (z▸hs.mem_iff.mpr ((hm y).mpr hy)))
  have hl:(a9 bn g).length<64:=hs.length_eq▸hl
  generalize a9 bn g=s at hn hl k
  match s,hn with
  |[x],_=>exact k x T (.refl T) G' (.inl rfl)
  |x::y::s,_=>
   refine kC (eX.mpr (ai (eW ((aB ..).symm▸hl)) (show 64≤400 by decide))) ?_
   exact⟨rfl,i4 (m:=m+1) (x:=.union (x::y::s)) hr G (Eh _) fun t T' l G' h=>k t T' l G' (.inr ⟨gc 2 _,h⟩)⟩
end Mine.V
namespace Mine.V
variable {r:R}{T T' T'':List al}{x:al}{t t':Int}{b m:Nat}{K:PV→O→Prop}{o:O}{a a' l:List Int}
theorem kD (h:0∈l):norm l=[0]:=if_pos h
theorem m9 (h0:0∉l)(h:1∈l):norm l=[1]:=(if_neg h0).trans (if_pos h)
theorem xH (h0:0∉l)(h1:1∉l)(x:Int):x∈norm l↔x∈l:=by
 rw[show norm l=a9 bn (b0 l) from(if_neg h0).trans (if_neg h1)];exact(dy bn _).mem_iff.trans g9
theorem xI (a l:List Int):norm (norm a++l)=norm (a++l):=by
 by_cases h0:0∈a
 ·rw[kD h0,kD (cS l h0)];exact kD (.head _)
 ·by_cases h1:1∈a
  ·rw[m9 h0 h1]
   have e:0∈[1]++l↔0∈a++l:=cY.trans ((or_congr_left ⟨fun z=>absurd (aM.mp z) (by decide),fun z=>absurd z h0⟩).trans cY.symm)
   by_cases hl:0∈a++l
   ·exact(kD (e.mpr hl)).trans (kD hl).symm
   ·exact(m9 (mt e.mp hl) (.head _)).trans (m9 hl (cS l h1)).symm
  ·exact m8 fun x=>cY.trans ((or_congr_left (xH h0 h1 x)).trans cY.symm)
theorem Ej (a l:List Int)(x:Int):x∈a++l↔x∈l++a:=cY.trans (or_comm.trans cY.symm)
theorem Ek (a l:List Int):norm (l++norm a)=norm (l++a):=
 (m8 (Ej _ _)).trans ((xI a l).trans (m8 (Ej _ _)))
theorem rq (l:List Int):norm (norm l)=norm l:=by have:=xI l [];rwa [ck,ck] at this
theorem Em (h:l≠[]):norm l≠[]:=by
 by_cases h0:0∈l
 ·rw[kD h0];exact cX _ _
 ·by_cases h1:1∈l
  ·rw[m9 h0 h1];exact cX _ _
  ·exact(nO _ h).elim fun x hx z=>aJ (z▸(xH h0 h1 x).mpr hx)
noncomputable def dE:List Int:=[0,1,4,16,17,18,19]
noncomputable def dO (a:List Int):Prop:=a≠[]∧(∀x∈a,x∈dE)∧norm a=a
theorem dO.norm (h:l≠[])(h':∀x∈l,x∈dE):dO (norm l):=⟨Em h,fun x hx=>h' x (xE hx),rq l⟩
noncomputable def EK (T:List al)(t:Int)(a:List Int):Prop:=dO a∧Un T a t
theorem Un.le (h:Un T a t)(l:Le T T'):Un T' a t:=h.imp id fun h=>⟨h.1,h.2.le l⟩
theorem EK.le (h:EK T t a)(l:Le T T'):EK T' t a:=⟨h.1,h.2.le l⟩
noncomputable def oV:al→Bool
 | .key _=>true
 | .str _=>true
 | .num _=>true
 | .param _=>true
 | _=>false
theorem xJ {x:al}(h:oV x=true):x.kind≠6∧x.plain=true∧(kA x=6∨kA x=7∨kA x= -1):=by
 cases x<;>first|exact⟨(by decide:(1:Int)≠6),rfl,.inr (.inr rfl)⟩|exact⟨(by decide:(3:Int)≠6),rfl,.inl rfl⟩|exact⟨(by decide:(4:Int)≠6),rfl,.inr (.inl rfl)⟩|exact⟨(by decide:(10:Int)≠6),rfl,.inr (.inr rfl)⟩|cases h
theorem rr:∀p∈dE,∃x,az aZ p x∧oV x=true:=
 have one:∀{p:Int} {x:al},0≤p→aZ[p.toNat]? =some x→oV x=true→∃x,az aZ p x∧oV x=true:=fun h h' h2=>⟨_,⟨h,h'⟩,h2⟩
 cx.mpr ⟨one (by decide) rfl rfl,cx.mpr ⟨one (by decide) rfl rfl,cx.mpr ⟨one (by decide) rfl rfl,cx.mpr ⟨one (by decide) rfl rfl,cx.mpr ⟨one (by decide) rfl rfl,
  cx.mpr ⟨one (by decide) rfl rfl,cx.mpr ⟨one (by decide) rfl rfl,fun _ h=>(aJ h).elim⟩⟩⟩⟩⟩⟩⟩
theorem xK:∀p∈dE,(p≠2∧p≠6∧p≠7∧p≠ -1)∧(p≠8∧p≠13∧p≠14):=by decide
noncomputable def al.ids:al→List Int
 | .union l=>l
 | .inter l=>l
 | _=>[]
theorem Pt.fn (h:Pt T t a)(h':Pt T t a'):a=a':=by
 rcases h.2 with u|⟨e,x,u,hk⟩<;>rcases h'.2 with u'|⟨e',x',u',hk'⟩
 ·exact congrArg al.ids (u.fn u')
 ·exact absurd (u.fn u'▸rfl) hk'
 ·exact absurd (u'.fn u▸rfl) hk
 ·exact e.trans e'.symm
theorem EK.pt (G:aj b T)(h:EK T t a):Pt T t a:=by
 rcases h.2 with e|⟨hl,hu⟩
 ·have ht:=h.1.2.1 t (e▸ .head _)
  exact(rr t ht).elim fun x hx=>⟨(xK t ht).1.1,.inr ⟨e,x,G.le hx.1,(xJ hx.2).1⟩⟩
 ·exact⟨fun z=>by rw[z] at hu;exact al.noConfusion (hu.fn (G.le (x:=.key "never") ⟨by decide,rfl⟩)),.inl hu⟩
theorem EK.fn (G:aj b T)(h:EK T t a)(h':EK T t a'):a=a':=(h.pt G).fn (h'.pt G)
theorem Un.inj (G:aj b T)(h:Un T a t)(h':Un T a t'):t=t':=by
 rcases h with e|h<;>rcases h' with e'|h'
 ·exact(eH (e.symm.trans e')).1
 ·rw[e] at h';exact absurd h'.1 (by decide:¬2≤1)
 ·rw[e'] at h;exact absurd h.1 (by decide:¬2≤1)
 ·exact G.inj h.2 h'.2
theorem En {q:Q2}{d:aa}(hr:Lv (m+3) r)(G:aj (b+1) T)(hd:gh (.d d)=some (aA (ids q)))(hq:∀x∈q,EK T x.1 x.2)(hne:q≠[])
 (k:∀t T',Le T T'→aj b T'→EK T' t (norm (bx q))→K (.d (.int t)) (ob T')):r.call "union" [.o 0,.d d] (ob T) K:=by
 have hat:∀p∈bx q,p∈dE:=fun p hp=>(jh.mp hp).elim fun x hx=>(hq x hx.1).1.2.1 p hx.2
 have hfl:bx q≠[]:=by
  match q,hne with
  |x::q,_=>exact fun z=>(hq x (.head _)).1.1 (sM.mp z).1
 refine Ei hr G hd (fun x hx=>(hq x hx).pt G) hfl (B:=dE) (by decide) (fun p hp=>⟨hat p hp,(xK p (hat p hp)).2,?_⟩) fun t T' l G' h=>k t T' l G' ⟨.norm hfl hat,h⟩
 refine(rr p (hat p hp)).elim fun x hx=>⟨x,G.le hx.1,(xJ hx.2).2.1,fun z=>?_⟩
 have hz:=(xK _ (hat _ z)).1.2
 exact(xJ hx.2).2.2.elim hz.1 fun w=>w.elim hz.2.1 hz.2.2
abbrev El:=Int×List Int×Int
noncomputable def i7 (x:El):aa:=.tuple [.int x.1,.int x.2.2]
noncomputable def aW (q:List El):List aa:=q.map i7
noncomputable def fm (q:List El):ae:=q.map (·.2)
noncomputable def fY (l:List Nat):List aa:=l.map fun(i:Nat)=>bv (fK i)
theorem i8 {α:Type}{l c:List α}{i:Nat}{x:α}(h:l.drop i=x::c):l[i]? =some x:=List.head?_drop.symm.trans (congrArg List.head? h)
theorem fZ {α:Type}{l c:List α}{i:Nat}{x:α}(h:l.drop i=x::c):l.drop (i+1)=c:=List.tail_drop.symm.trans (congrArg List.tail h)
theorem jG {α:Type}{f:α→aa}{l:List α}{i:Nat}{x:α}(h:l[i]? =some x):cU (l.map f) (fK i)=some (f x):=
 (if_pos (gy i)).trans ((f9 ..).trans (congrArg (gD f) h))
theorem kE {α:Type}{f:α→aa}{l:List α}(h:l.length≤60000):pQ (.int ((l.map f).length:Nat))=some l.length:=by
 rw[aB];exact if_pos ⟨gy _,eX.mpr (ai h (by rw[jF];decide))⟩
theorem i9 (n:Nat):(c0 n).map (fun(i:Nat)=>bv (fK i))=fY (gT 0 n):=congrArg fY List.range_eq_range'
theorem YC (l:List Int):∀x∈aA l,eI x=true:=fun x h=>(aS.mp h).elim fun i e=>e.2▸rfl
theorem rs (l:List Int)(k:Int):tg (aA l) (.int k)=some (decide (k∈l)):=by
 refine(if_pos (aP.mpr ⟨dn.mpr (YC l),rfl⟩)).trans (congrArg some ?_)
 rw[aA,List.any_map]
 exact jU.mpr (mj.trans (gU ⟨fun h=>h.elim fun x h=>(of_decide_eq_true h.2:x=k)▸h.1,fun h=>⟨k,h,decide_eq_true rfl⟩⟩ decide_eq_true_iff.symm))
noncomputable def dP (ks:List Int):Nat→Int→ae→Int
 | _,acc,[]=>acc
 |i,acc,x::c=>dP ks (i+1) (if x.2∈ks then (i:Int) else acc) c
theorem YD {n:L→O→Prop}{t:PV→O→Prop}{q:List El}{ks:List Int}(c:List El):∀(i:Nat) (acc:Int) (j:Option Slot),q.drop i=c→(∀j,n [some (.pv (.d (.list (aW q)))),some (.pv (.d (.tuple (aA ks)))),some (.pv (.d (.int (dP ks i acc (fm c))))),j] o)→
 ba (ay 3) xc r n t (fY (gT i c.length)) [some (.pv (.d (.list (aW q)))),some (.pv (.d (.tuple (aA ks)))),some (.pv (.d (.int acc))),j] o:=by
 induction c with
 |nil=>exact fun i acc j _ k=>k j
 |cons x c ih=>
  intro i acc j h k
  refine ah (jG (i8 h)) (ah (rs ks _) ?_)
  have k:∀j,n [_,_,some (.pv (.d (.int (dP ks (i+1) (if x.2.2∈ks then (i:Int) else acc) (fm c))))),j] o:=k
  by_cases hk:x.2.2∈ks
  ·rw[if_pos hk] at k;exact fy (decide_eq_true hk) (ih (i+1) _ _ (fZ h) k)
  ·rw[if_neg hk] at k;exact fX (decide_eq_false hk) (ih (i+1) _ _ (fZ h) k)
theorem xL {q:List El}{ks:List Int}(hr:Lv (m+1) r)(hl:q.length≤60000)(k:K (.d (.int (dP ks 0 (-1) (fm q)))) o):r.call "last_mark" [.d (.list (aW q)),.d (.tuple (aA ks))] o K:=by
 refine hr.call Xi fun r _=>⟨rfl,?_⟩
 refine ah (kE (f:=i7) hl) ?_
 exact(i9 q.length).symm.subst (motive:=fun z=>ba (ay 3) xc r _ _ z _ o) (YD q 0 (-1) none rfl fun j=>k)
theorem Eo (hr:Lv (m+4) r)(G:aj (b+1) T)(h:EK T t a)(k:∀t T',Le T T'→aj b T'→EK T' t (norm (a++[4]))→K (.d (.int t)) (ob T')):r.call "add_undef" [.o 0,.d (.int t)] (ob T) K:=by
 refine hr.call Xu fun r hr=>⟨rfl,?_⟩
 exact En (q:=[(t,a),(4,[4])]) hr G rfl (dD h ⟨⟨cX _ _,fun x hx=>aM.mp hx▸(by decide:(4:Int)∈dE),rfl⟩,.inl rfl⟩) (cX _ _) k
noncomputable def gq:al→Bool
 | .param _=>true
 | .keyof _=>true
 | .tup es _=>es.any fun e=>e.2==3
 | _=>false
noncomputable def al.simple:al→Bool
 | .union _=>false
 | .inter _=>false
 | _=>true
inductive eS (T:List al)(t:Int):Bool→Prop
 |one {x:al}:az T t x→x.simple=true→eS T t (gq x)
 |two {a c:Int} {ra rc:al}:az T t (.inter [a,c])→az T a ra→az T c rc→ra.simple=true→rc.simple=true→eS T t (gq ra||gq rc)
theorem eS.le {c:Bool}(h:eS T t c)(l:Le T T'):eS T' t c:=by
 cases h with
 |one h1 h2=>exact .one (h1.le l) h2
 |two h1 h2 h3 h4 h5=>exact .two (h1.le l) (h2.le l) (h3.le l) h4 h5
noncomputable def bY:al→Bool
 | .arr .. =>true
 | .tup .. =>true
 | _=>false
noncomputable def gN (T:List al)(t:Int):Prop:=eS T t true∧∃x,az T t x∧bY x=false∧x.kind≠6
theorem gN.le (h:gN T t)(l:Le T T'):gN T' t:=⟨h.1.le l,h.2.imp fun x h=>⟨h.1.le l,h.2⟩⟩
variable {X:List Int}
noncomputable def ER (T:List al)(X:List Int)(x:El):Prop:=
 (x.2.2=0∨x.2.2=1∨x.2.2=2)∧EK T x.1 x.2.1∨x.2.2=3∧x.2.1=[x.1]∧gN T x.1∧(x.1=19∨x.1=24∨x.1∈X)
theorem ER.le {x:El}(h:ER T X x)(l:Le T T'):ER T' X x:=h.imp (fun h=>⟨h.1,h.2.le l⟩) fun h=>⟨h.1,h.2.1,h.2.2.1.le l,h.2.2.2⟩
theorem ER.ek {x:El}(h:ER T X x)(h3:x.2.2≠3):EK T x.1 x.2.1:=h.elim (·.2) fun h=>absurd h.1 h3
abbrev bm (T:List al)(X:List Int)(q:List El):Prop:=∀x∈q,ER T X x
theorem bm.le {q:List El}(h:bm T X q)(l:Le T T'):bm T' X q:=fun x hx=>(h x hx).le l
theorem ja {α:Type}{P:α→Prop}{l:List α}{x:α}(h:∀y∈l,P y)(hx:P x):∀y∈l++[x],P y:=eG.mpr ⟨h,fun y hy=>aM.mp hy▸hx⟩
abbrev cj (f:ae)(m:Int):Prop:=∃x∈f,x.2=m
open Classical in
noncomputable def iq (x:List Int×Int)(r:ae):List Int×Int:=if x.2=1∧cj r 0 then (norm (x.1++[4]),0) else x
noncomputable def jH:ae→ae
 |[]=>[]
 |x::r=>iq x r::jH r
theorem rt {ks:List Int}(c:ae):∀(i:Nat) (acc:Int),(∀x∈c,x.2∉ks)→dP ks i acc c=acc:=by
 induction c with
 |nil=>exact fun _ _ _=>rfl
 |cons x c ih=>exact fun i acc h=>(ih (i+1) _ fun y hy=>h y (.tail _ hy)).trans (if_neg (h x (.head _)))
theorem xM {ks:List Int}{c:ae}(a:ae):∀(i:Nat) (acc:Int),dP ks i acc (a++c)=dP ks (i+a.length) (dP ks i acc a) c:=by
 induction a with
 |nil=>exact fun _ _=>rfl
 |cons x a ih=>exact fun i acc=>(ih (i+1) _).trans (by rw[c9];rfl)
theorem YE {ks:List Int}(c:ae):∀(i:Nat) (acc:Int),acc<i→dP ks i acc c<(i+c.length:Nat):=by
 induction c with
 |nil=>exact fun _ _ h=>h
 |cons x c ih=>
  intro i acc h
  have:(if x.2∈ks then (i:Int) else acc)<(i+1:Nat):=by
   by_cases q:x.2∈ks
   ·rw[if_pos q];exact ib.mpr (dm i)
   ·rw[if_neg q];exact Int.lt_trans h (ib.mpr (dm i))
  have:=ih (i+1) _ this
  rwa [c9] at this
theorem Ep {ks:List Int}(c:ae):∀(i:Nat) (acc:Int),(∃x∈c,x.2∈ks)→(i:Int)≤dP ks i acc c:=by
 induction c with
 |nil=>exact fun i acc h=>h.elim fun x h=>(aJ h.1).elim
 |cons x c ih=>
  intro i acc h
  by_cases hc:∃x∈c,x.2∈ks
  ·exact Int.le_trans (eX.mpr (dI i)) (ih (i+1) _ hc)
  ·have hx:x.2∈ks:=h.elim fun y hy=>(bC.mp hy.1).elim (fun e=>e▸hy.2) fun z=>(hc ⟨y,z,hy.2⟩).elim
   exact Int.le_of_eq ((rt c (i+1) _ fun y hy z=>hc ⟨y,hy,z⟩).trans (if_pos hx)).symm
theorem YF {ks:List Int}{f c:ae}{i:Nat}{x:List Int×Int}(h:f.drop i=x::c):(i:Int)<dP ks 0 (-1) f↔∃x∈c,x.2∈ks:=by
 have hf:f=f.take (i+1)++c:=(pz (i+1) f).symm.trans (congrArg (f.take (i+1)++·) (fZ h))
 have hl:(f.take (i+1)).length=i+1:=(List.length_take ..).trans (Nat.min_eq_left (fG.mp (i8 h)).1)
 have e:dP ks 0 (-1) f=dP ks (i+1) (dP ks 0 (-1) (f.take (i+1))) c:=(congrArg (dP ks 0 (-1)) hf).trans ((xM ..).trans (by rw[hl,bQ]))
 rw[e]
 refine⟨fun z=>Classical.byContradiction fun w=>?_,fun z=>Int.lt_of_lt_of_le (ib.mpr (dm i)) (Ep c (i+1) _ z)⟩
 rw[rt c _ _ fun y hy z=>w ⟨y,hy,z⟩] at z
 have:=YE (ks:=ks) (f.take (i+1)) 0 (-1) (by decide)
 rw[hl,bQ] at this
 exact absurd (Int.lt_of_lt_of_le z (Int.lt_add_one_iff.mp this)) (Int.lt_irrefl _)
theorem f0 {a c:Int}{A B:Prop}(h:¬a<c)(x:B):am (dg .Lt (.int a) (.int c)) fun b=>Br b A B:=fX (decide_eq_false h) x
theorem jI {a c:Int}{A B:Prop}(h:a<c)(x:A):am (dg .Lt (.int a) (.int c)) fun b=>Br b A B:=fy (decide_eq_true h) x
theorem YG {q:List El}(h:q.length<aH):(aW q).length<aH:=(aB ..).symm▸h
theorem Es {q:List El}{x:El}:aW q++[i7 x]=aW (q++[x]):=(bJ (l₂:=[x])).symm
theorem YH {q:List El}{x:El}{c:ae}:fm (q++[x])++c=fm q++x.2::c:=(congrArg (·++c) (bJ (l₂:=[x]))).trans (cz ..)
theorem YI {q:List El}{n:L→O→Prop}{t:PV→O→Prop}(hr:Lv (m+4) r)(c:List El):∀(i b:Nat) (T:List al) (o:List El) (xs:List aa) (j4 j5 j6:Option Slot),xs=aW o→q.drop i=c→aj (b+c.length) T→bm T X c→bm T X o→(∀x∈c,x.2.2≠3)→o.length+c.length<aH→
 (∀T' o' j4 j5 j6,Le T T'→aj b T'→bm T' X o'→fm o'=fm o++jH (fm c)→n [some (.pv (.o 0)),some (.pv (.d (.list (aW q)))),some (.pv (.d (.int (dP [0] 0 (-1) (fm q))))),some (.lst (aW o')),j4,j5,j6] (ob T'))→
 ba (ay 4) qZ r n t (fY (gT i c.length)) [some (.pv (.o 0)),some (.pv (.d (.list (aW q)))),some (.pv (.d (.int (dP [0] 0 (-1) (fm q))))),some (.lst xs),j4,j5,j6] (ob T):=by
 induction c with
 |nil=>exact fun i b T o xs j4 j5 j6 e _ G _ ho _ _ k=>e▸k T o j4 j5 j6 (.refl T) G ho (ck _).symm
 |cons x c ih=>
  intro i b T o xs j4 j5 j6 he h G hc ho h3 hn k
  have hn:o.length+c.length+1<aH:=hn
  have hx:xs.length<aH:=he▸YG (aX (aR _ _) (mi hn))
  have hd:(fm q).drop i=x.2::fm c:=(List.map_drop ..).symm.trans (congrArg fm h)
  have hlt:=YF (ks:=[0]) hd
  have next:∀T' y,Le T T'→aj (b+c.length) T'→ER T' X y→y.2=iq x.2 (fm c)→∀j4 j5 j6,ba (ay 4) qZ r n t (fY (gT (i+1) c.length)) [some (.pv (.o 0)),some (.pv (.d (.list (aW q)))),some (.pv (.d (.int (dP [0] 0 (-1) (fm q))))),some (.lst (xs++[i7 y])),j4,j5,j6] (ob T'):=fun T' y l G' hy e j4 j5 j6=>
   ih (i+1) b T' (o++[y]) _ j4 j5 j6 (he▸Es) (fZ h) G' (bm.le (fun z hz=>hc z (.tail _ hz)) l) (ja (bm.le ho l) hy) (fun z hz=>h3 z (.tail _ hz)) (by rw[aG,c9];exact hn)
    fun T2 o' j4 j5 j6 l2 G2 h2 e2=>k T2 o' j4 j5 j6 (l.trans l2) G2 h2 (e2.trans (YH.trans (by rw[e];rfl)))
  refine ah (jG (i8 h)) ?_
  by_cases h1:x.2.2=1
  ·refine cu h1 ?_
   by_cases hm:cj (fm c) 0
   ·refine jI (hlt.mpr (hm.imp fun y h=>⟨h.1,aM.mpr h.2⟩)) ?_
    refine Eo hr G ((hc x (.head _)).ek (h3 x (.head _))) fun t T' l G' hk=>?_
    exact⟨hx,next T' (t,norm (x.2.1++[4]),0) l G' (.inl ⟨.inl rfl,hk⟩) (if_pos ⟨h1,hm⟩).symm _ _ _⟩
   ·refine f0 (fun z=>hm ((hlt.mp z).imp fun y h=>⟨h.1,aM.mp h.2⟩)) ?_
    exact⟨hx,next T x (.refl T) (G.mono (dI _)) (hc x (.head _)) (if_neg fun z=>hm z.2).symm _ _ _⟩
  ·refine bW h1 ?_
   exact⟨hx,next T x (.refl T) (G.mono (dI _)) (hc x (.head _)) (if_neg fun z=>h1 z.1).symm _ _ _⟩
theorem YJ {q:List El}(hr:Lv (m+5) r)(G:aj (b+q.length) T)(hq:bm T X q)(h3:∀x∈q,x.2.2≠3)(hl:q.length≤60000)
 (k:∀T' q',Le T T'→aj b T'→bm T' X q'→fm q'=jH (fm q)→K (.d (.list (aW q'))) (ob T')):r.call "needed_to_last" [.o 0,.d (.list (aW q))] (ob T) K:=by
 refine hr.call Xj fun r hr=>⟨rfl,?_⟩
 refine xL (m:=m+3) (ks:=[0]) hr hl ?_
 refine ah (kE (f:=i7) hl) ?_
 exact(i9 q.length).symm.subst (motive:=fun z=>ba (ay 4) qZ r _ _ z _ (ob T)) (YI hr q 0 b T [] [] none none none rfl rfl G hq (fun _ h=>(aJ h).elim) h3 ((bQ _).symm▸aX hl (by rw[jF];decide)) fun T' o' _ _ _=>k T' o')
end Mine.V
namespace Mine.V
variable {r:R}{T T' T'':List al}{x:al}{t t':Int}{b m:Nat}{K:PV→O→Prop}{o:O}{a a' l X:List Int}
noncomputable def hA (x:List Int×Int):List Int:=if x.2=1 then norm (x.1++[4]) else x.1
theorem rz {x:List Int×Int}(h:x.2=1):hA x=norm (x.1++[4]):=if_pos h
theorem oW {x:List Int×Int}(h:x.2≠1):hA x=x.1:=if_neg h
noncomputable def hE:ae→ae
 |[]=>[]
 |x::r=>[(norm ((x::r).flatMap hA),2)]
noncomputable def fA:Nat→Int→ae→Int
 | _,acc,[]=>acc
 |i,acc,x::c=>fA (i+1) (if acc<0∧x.2=2 then (i:Int) else acc) c
theorem xN (c:ae):∀(i:Nat) (acc:Int),(∀x∈c,x.2≠2)∨0≤acc→fA i acc c=acc:=by
 induction c with
 |nil=>exact fun _ _ _=>rfl
 |cons x c ih=>
  intro i acc h
  have e:(if acc<0∧x.2=2 then (i:Int) else acc)=acc:=if_neg fun z=>h.elim (fun h=>h x (.head _) z.2) (Int.not_le.mpr z.1)
  exact(congrArg (fun z=>fA (i+1) z c) e).trans (ih (i+1) acc (h.imp_left fun h y hy=>h y (.tail _ hy)))
theorem YK (a c:ae):∀(i:Nat) (acc:Int),fA i acc (a++c)=fA (i+a.length) (fA i acc a) c:=by
 induction a with
 |nil=>exact fun _ _=>rfl
 |cons x a ih=>exact fun i acc=>(ih (i+1) _).trans (by rw[c9];rfl)
theorem Et {q:List El}{n:L→O→Prop}{t:PV→O→Prop}{s0 s2:Option Slot}(c:List El):∀(i:Nat) (acc:Int) (j:Option Slot),q.drop i=c→(∀j,n [s0,some (.pv (.d (.list (aW q)))),s2,some (.pv (.d (.int (fA i acc (fm c))))),j,none,none,none] o)→
 ba (ay 4) q0 r n t (fY (gT i c.length)) [s0,some (.pv (.d (.list (aW q)))),s2,some (.pv (.d (.int acc))),j,none,none,none] o:=by
 induction c with
 |nil=>exact fun i acc j _ k=>k j
 |cons x c ih=>
  intro i acc j h k
  have k:∀j,n [_,_,_,some (.pv (.d (.int (fA (i+1) (if acc<0∧x.2.2=2 then (i:Int) else acc) (fm c))))),j,none,none,none] o:=k
  by_cases h1:acc<0
  ·refine jI h1 (ah (jG (i8 h)) ?_)
   by_cases h2:x.2.2=2
   ·rw[if_pos ⟨h1,h2⟩] at k;exact cu h2 (ih (i+1) _ _ (fZ h) k)
   ·rw[if_neg fun z=>h2 z.2] at k;exact bW h2 (ih (i+1) _ _ (fZ h) k)
  ·rw[if_neg fun z=>h1 z.1] at k;exact f0 h1 (ih (i+1) _ _ (fZ h) k)
theorem YL {n:L→O→Prop}{t:PV→O→Prop}{s1 s2 s3 s4:Option Slot}(hr:Lv (m+4) r)(c:List El):∀(b:Nat) (T:List al) (h:Q2) (xs:List aa) (j6 j7:Option Slot),xs=aA (ids h)→aj (b+c.length) T→bm T X c→(∀x∈h,EK T x.1 x.2)→(∀x∈c,x.2.2≠3)→xs.length+c.length<aH→
 (∀T' h' j6 j7,Le T T'→aj b T'→(∀x∈h',EK T' x.1 x.2)→bx h'=bx h++(fm c).flatMap hA→h'.length=h.length+c.length→n [some (.pv (.o 0)),s1,s2,s3,s4,some (.lst (aA (ids h'))),j6,j7] (ob T'))→
 ba (cJ [6,7]) xd r n t (aW c) [some (.pv (.o 0)),s1,s2,s3,s4,some (.lst xs),j6,j7] (ob T):=by
 induction c with
 |nil=>exact fun b T h xs j6 j7 e G _ hh _ _ k=>e▸k T h j6 j7 (.refl T) G hh (ck _).symm rfl
 |cons x c ih=>
  intro b T h xs j6 j7 e G hc hh h3 hn k
  have hn:xs.length+c.length+1<aH:=hn
  have hx:xs.length<aH:=aX (aR _ _) (mi hn)
  have next:∀T' y,Le T T'→aj (b+c.length) T'→EK T' y (hA x.2)→∀j6 j7,ba (cJ [6,7]) xd r n t (aW c) [some (.pv (.o 0)),s1,s2,s3,s4,some (.lst (xs++[.int y])),j6,j7] (ob T'):=fun T' y l G' hy j6 j7=>
   ih b T' (h++[(y,hA x.2)]) _ j6 j7 (by rw[e];unfold aA ids;rw[bJ,bJ];rfl) G' (bm.le (fun z hz=>hc z (.tail _ hz)) l) (ja (fun z hz=>(hh z hz).le l) hy) (fun z hz=>h3 z (.tail _ hz)) (by rw[aG,c9];exact hn)
    fun T2 h' j6 j7 l2 G2 h2 e2 e3=>k T2 h' j6 j7 (l.trans l2) G2 h2 (e2.trans (by unfold bx;rw[List.flatMap_append,cz,List.flatMap_singleton];rfl)) (e3.trans (by rw[aG,c9];rfl))
  have hek:=(hc x (.head _)).ek (h3 x (.head _))
  by_cases h1:x.2.2=1
  ·refine cu h1 (Eo hr G hek fun t T' l G' hk=>⟨hx,next T' t l G' ?_ _ _⟩)
   exact rz h1▸hk
  ·exact bW h1 ⟨hx,next T x.1 (.refl T) (G.mono (dI _)) (oW h1▸hek) _ _⟩
section
variable {α:Type}{f:α→aa}{a c d:List α}{y z:Int}
theorem rB (h:y=a.length):ll (.list ((a++c).map f)) none (some y)=some (.list (a.map f)):=by
 refine(congrArg (gD jm) (if_pos (h▸gy _))).trans (congrArg (fun l=>some (jm l)) ?_)
 rw[h,iD,bJ];exact List.take_left' (aB ..)
theorem rC (h:y=a.length):ll (.list ((a++c).map f)) (some y) none=some (.list (c.map f)):=by
 refine(congrArg (gD jm) (if_pos (h▸gy _))).trans (congrArg (fun l=>some (jm l)) ?_)
 rw[h,iD,bJ];exact List.drop_left' (aB ..)
theorem YM (h:y=a.length)(h':z=(a.length+c.length:Nat)):ll (.list ((a++(c++d)).map f)) (some y) (some z)=some (.list (c.map f)):=by
 have e:((a++(c++d)).map f).length=a.length+(c.length+d.length):=by rw[aB,aG,aG]
 refine(congrArg (gD jm) (if_pos ⟨h▸gy _,h▸h'▸eX.mpr (aR _ _),?_⟩)).trans (congrArg (fun l=>some (jm l)) ?_)
 case refine_2=>rw[h'];exact eX.mpr (e▸cy (aR _ _) _)
 ·rw[h,h',iD,iD,Nat.add_sub_cancel_left,bJ,List.drop_left' (aB ..),bJ];exact List.take_left' (aB ..)
end
theorem lP {xs ys:List aa}(h:xs.length+ys.length≤aH):ie .Add (.list xs) (.list ys)=some (.list (xs++ys)):=if_pos h
theorem YN {a c:Int}{A B:Prop}(h:¬a≤c)(x:B):am (dg .LtE (.int a) (.int c)) fun b=>Br b A B:=fX (decide_eq_false h) x
theorem YO {a c:Int}{A B:Prop}(h:a≤c)(x:A):am (dg .LtE (.int a) (.int c)) fun b=>Br b A B:=fy (decide_eq_true h) x
theorem lQ {a c:List El}:fm (a++c)=fm a++fm c:=bJ
theorem aFV {q:List El}{m:Int}(h:∀x∈q,x.2.2≠m):∀x∈fm q,x.2≠m:=fun x hx=>(aS.mp hx).elim fun y hy=>hy.2▸h y hy.1
theorem Eu {q:List El}{last:Int}(hr:Lv (m+1) r)(hl:q.length≤60000)(h:fA 0 (-1) (fm q)<0∨last≤fA 0 (-1) (fm q))(k:K (.d (.list (aW q))) o):r.call "one_rest" [.o 0,.d (.list (aW q)),.d (.int last)] o K:=by
 refine hr.call DX fun r hr=>⟨rfl,?_⟩
 refine ah (kE (f:=i7) hl) ?_
 refine(i9 q.length).symm.subst (motive:=fun z=>ba (ay 4) q0 r _ _ z _ o) (Et _ 0 (-1) none rfl fun j=>?_)
 by_cases h0:fA 0 (-1) (fm q)<0
 ·exact jI h0 k
 ·exact f0 h0 (YO (h.resolve_left h0) k)
theorem YQ {q1 qm q3:List El}{last:Int}(hr:Lv (m+5) r)(G:aj (b+1+qm.length) T)(hq:bm T X qm)(h3:∀x∈qm,x.2.2≠3)(hne:qm≠[])(e:fA 0 (-1) (fm (q1++(qm++q3)))=q1.length)(hlt:(q1.length:Int)<last)
 (hl:q1.length+(qm.length+q3.length)≤60000) (hz:last+1=(q1.length+qm.length:Nat)) (k:∀T' u a,Le T T'→aj b T'→EK T' u a→a=norm ((fm qm).flatMap hA)→K (.d (.list (aW (q1++([(u,a,2)]++q3))))) (ob T')):
 r.call "one_rest" [.o 0,.d (.list (aW (q1++(qm++q3)))),.d (.int last)] (ob T) K:=by
 refine hr.call DX fun r hr=>⟨rfl,?_⟩
 refine ah (kE (f:=i7) (by rw[aG,aG];exact hl)) ?_
 refine(i9 (q1++(qm++q3)).length).symm.subst (motive:=fun z=>ba (ay 4) q0 r _ _ z _ (ob T)) (Et _ 0 (-1) none rfl fun j=>?_)
 generalize fA 0 (-1) (fm (q1++(qm++q3)))=first at e
 refine f0 (e▸jW.mpr (gy _)) (YN (e▸Int.not_le.mpr hlt) (ah (YM e hz) ?_))
 refine YL hr _ (b+1) T [] [] none none rfl G hq (fun _ h=>(aJ h).elim) h3 ((bQ _).symm▸aX (ai (aR _ _) (ai (gc _ _) hl)) (by rw[jF];decide)) fun T1 h j6 j7 l1 G1 hh eh elen=>?_
 refine ah (rB e) ?_
 refine En (m:=m+1) hr G1 rfl hh (fun z=>hne (kR.mp (by rw[z] at elen;exact(elen.trans (bQ _)).symm))) fun u T2 l2 G2 hu=>?_
 have hp:1≤qm.length:=gx.mpr hne
 have h2:(aW q1).length+1+(aW q3).length≤aH:=by
  rw[aW,aW,aB,aB,dS]
  exact ai (ai (cy (je hp _) _) hl) (by rw[jF];decide)
 refine ah rfl (ah (lP (ai (aR _ _) h2)) (ah rfl (ah ((congrArg (fun l=>ll (.list (aW l)) (some (last+1)) none) (cz ..).symm).trans (rC (hz.trans (congrArg Nat.cast (aG ..).symm)))) (ah rfl (ah (lP ?_) ?_)))))
 ·rw[aG];exact h2
 have e2:aW q1++[i7 (u,norm (bx h),2)]++aW q3=aW (q1++([(u,norm (bx h),2)]++q3)):=by
  rw[aW,aW,aW,bJ,bJ,cz];rfl
 exact(congrArg (fun l=>K (.d (.list l)) (ob T2)) e2).mpr (k T2 u _ (l1.trans l2) G2 hu (congrArg norm eh))
end Mine.V
namespace Mine.V
variable {r:R}{T T' T'':List al}{x:al}{t t' ro:Int}{b m:Nat}{K:PV→O→Prop}{o:O}{a a' l X:List Int}
theorem kF {α β γ:Type}(f:α→β→γ){x x':α}{y y':β}(h:x=x')(h':y=y'):f x y=f x' y':=congr (congrArg f h) h'
noncomputable def ir (x:List Int×Int):Bool:=x.2==0
noncomputable def n2 (x:List Int×Int):Bool:=x.2 !=2
noncomputable def ft (f:ae):ae:=(f.reverse.dropWhile ir).reverse
noncomputable def bk (f:ae):ae:=(f.reverse.takeWhile ir).reverse
noncomputable def fr (f:ae):ae:=(ft f).takeWhile n2
noncomputable def md (f:ae):ae:=(ft f).dropWhile n2
noncomputable def dF:ae→ae→ae
 |[],_=>[]
 |x::r,rest=>iq x (r++rest)::dF r rest
open Classical in
noncomputable def cv (f:ae):ae:=if cj f 3 then f else dF (fr f) (md f++bk f)++(hE (md f)++bk f)
noncomputable def rE (F M B:ae):Prop:=(∀x∈B,x.2=0)∧(∀x∈F,x.2≠2)∧(M=[]∨∃a r,M=(a,2)::r)∧(F++M=[]∨∃p y,F++M=p++[y]∧y.2≠0)
theorem Ev {α:Type}{p:α→Bool}(l:List α):l.dropWhile p=[]∨∃x r,l.dropWhile p=x::r∧p x=false:=by
 induction l with
 |nil=>exact .inl rfl
 |cons x l ih=>
  rw[sQ]
  by_cases h:p x=true
  ·rw[if_pos h];exact ih
  ·rw[if_neg h];exact .inr ⟨x,l,rfl,gz.mpr h⟩
theorem Ew {α:Type}{p:α→Bool}{l:List α}{x:α}(h:x∈l.takeWhile p):p x=true:=(dn.mp List.all_takeWhile) x h
theorem rF (f:ae):ft f++bk f=f:=List.reverse_append.symm.trans ((congrArg List.reverse List.takeWhile_append_dropWhile).trans (y2 f))
theorem xO (f:ae):fr f++md f=ft f:=List.takeWhile_append_dropWhile
theorem jJ (f:ae):fr f++(md f++bk f)=f:=(cz ..).symm.trans ((congrArg (·++bk f) (xO f)).trans (rF f))
theorem Ex (f:ae):ft f=[]∨∃p y,ft f=p++[y]∧y.2≠0:=
 (Ev (p:=ir) f.reverse).imp (fun h=>List.reverse_eq_nil_iff.mpr h) fun h=>h.elim fun y h=>h.elim fun r h=>⟨r.reverse,y,(congrArg List.reverse h.1).trans List.reverse_cons,of_decide_eq_false h.2⟩
theorem oX (f:ae):rE (fr f) (md f) (bk f):=
 ⟨fun x hx=>aN (Ew (p:=ir) (List.mem_reverse.mp hx)),fun x hx=>bne_iff_ne.mp (Ew (p:=n2) hx),
  (Ev (p:=n2) (ft f)).imp id fun h=>h.elim fun x h=>h.elim fun r h=>⟨x.1,r,h.1.trans (congrArg (fun z=>(x.1,z)::r) (Decidable.byContradiction fun z=>k7 (h.2.symm.trans (bne_iff_ne.mpr z))))⟩,
  (xO f).symm▸Ex f⟩
theorem YR {F M B:ae}(h:rE F M B):fr (F++(M++B))=F∧md (F++(M++B))=M∧bk (F++(M++B))=B:=by
 have hB:∀x∈B.reverse,ir x=true:=fun x hx=>beq_iff_eq.mpr (h.1 x (List.mem_reverse.mp hx))
 have e:(F++(M++B)).reverse=B.reverse++(F++M).reverse:=by rw[←cz,List.reverse_append]
 have stop:(F++M).reverse.takeWhile ir=[]∧(F++M).reverse.dropWhile ir=(F++M).reverse:=h.2.2.2.elim (fun h=>by rw[h];exact⟨rfl,rfl⟩) fun h=>h.elim fun p h=>h.elim fun y h=>by
  rw[h.1,List.reverse_append]
  have:¬ir y=true:=fun z=>h.2 (aN z)
  exact⟨(y4 ..).trans (if_neg this),(sQ ..).trans (if_neg this)⟩
 have hb:bk (F++(M++B))=B:=by rw[bk,e,Hc hB,stop.1,ck,y2]
 have hf:ft (F++(M++B))=F++M:=by rw[ft,e,He hB,stop.2,y2]
 have hF:∀x∈F,n2 x=true:=fun x hx=>bne_iff_ne.mpr (h.2.1 x hx)
 have stop:M.takeWhile n2=[]∧M.dropWhile n2=M:=h.2.2.1.elim (fun h=>by rw[h];exact⟨rfl,rfl⟩) fun h=>h.elim fun p h=>h.elim fun y h=>by rw[h];exact⟨rfl,rfl⟩
 exact⟨by rw[fr,hf,Hc hF,stop.1,ck],by rw[md,hf,He hF,stop.2],hb⟩
theorem na {f:ae}(h:cj f 3):cv f=f:=if_pos h
theorem lR {f:ae}(h:¬cj f 3):cv f=dF (fr f) (md f++bk f)++(hE (md f)++bk f):=if_neg h
theorem aFW {F M B:ae}(h3:¬cj (F++(M++B)) 3)(h:rE F M B):cv (F++(M++B))=dF F (M++B)++(hE M++B):=by
 have e:=YR h
 rw[lR h3,e.1,e.2.1,e.2.2]
theorem xP (a c:ae):jH (a++c)=dF a c++jH c:=by
 induction a with
 |nil=>rfl
 |cons x a ih=>exact congrArg (iq x (a++c)::·) ih
theorem oY {x:List Int×Int}{r:ae}(h:x.2≠1):iq x r=x:=if_neg fun z=>h z.1
theorem YS {f:ae}(h:∀x∈f,x.2=0):jH f=f:=by
 induction f with
 |nil=>rfl
 |cons x f ih=>exact kF List.cons (oY fun z=>absurd ((h x (.head _)).symm.trans z) (by decide)) (ih fun y hy=>h y (.tail _ hy))
theorem Ey {f:ae}:jH f=dF (fr f) (md f++bk f)++(dF (md f) (bk f)++bk f):=by
 conv=>lhs;rw[←jJ f,xP,xP,YS (oX f).1]
theorem YT (x:List Int×Int)(r:ae):hA (iq x r)=hA x:=by
 unfold iq
 by_cases h:x.2=1∧cj r 0
 ·rw[if_pos h,rz h.1];exact oW (by decide:(0:Int)≠1)
 ·rw[if_neg h]
theorem YU (a c:ae):(dF a c).flatMap hA=a.flatMap hA:=by
 induction a with
 |nil=>rfl
 |cons x a ih=>exact kF (·++·) (YT x (a++c)) ih
theorem nc (a c:ae):(dF a c).length=a.length:=by
 induction a with
 |nil=>rfl
 |cons x a ih=>exact congrArg (·+1) ih
theorem Ez {c:ae}{x:List Int×Int}{a:ae}(h:x∈dF a c):∃y∈a,x=y∨x=(norm (y.1++[4]),0)∧y.2=1:=by
 induction a with
 |nil=>exact(aJ h).elim
 |cons y a ih=>
  refine(bC.mp h).elim (fun e=>⟨y,.head _,?_⟩) fun h=>(ih h).imp fun z h=>⟨.tail _ h.1,h.2⟩
  unfold iq at e
  by_cases q:y.2=1∧cj (a++c) 0
  ·exact .inr ⟨e.trans (if_pos q),q.1⟩
  ·exact .inl (e.trans (if_neg q))
theorem YV {f:ae}(h:∀x∈f,x.2=0∨x.2=1∨x.2=2):dP [2,1] 0 (-1) f+1=((fr f).length+(md f).length:Nat):=by
 have e:dP [2,1] 0 (-1) f=dP [2,1] 0 (-1) (ft f):=by
  conv=>lhs;rw[←rF f,xM]
  exact rt _ _ _ fun x hx=>(oX f).1 x hx▸(by decide)
 rw[e,←aG,xO]
 refine(Ex f).elim (fun h=>by rw[h];rfl) fun h'=>h'.elim fun p h'=>h'.elim fun y hy=>?_
 have hm:y∈f:=rF f▸cS _ (hy.1▸cH _ (.head _))
 rw[hy.1,xM,aG,bQ]
 refine congrArg (·+1) (if_pos ?_)
 exact(h y hm).elim (fun z=>absurd z hy.2) fun z=>z.elim (fun z=>z▸ .tail _ (.head _)) fun z=>z▸ .head _
end Mine.V
namespace Mine.V
variable {r:R}{T T' T'':List al}{x:al}{t t' ro:Int}{b m:Nat}{K:PV→O→Prop}{o:O}{a a' l X:List Int}
noncomputable def es (q:List El):List (Int×Int):=q.map fun x=>(x.1,x.2.2)
theorem oZ (q:List El):(es q).map d4=aW q:=cD ..
noncomputable def one (q:List El):Prop:=∃x,q=[x]∧x.2.2=2
noncomputable def al.els:al→List (Int×Int)
 | .tup es _=>es
 | .arr e _=>[(e,2)]
 | _=>[]
noncomputable def al.rd:al→Int
 | .tup _ ro=>ro
 | .arr _ ro=>ro
 | _=>0
open Classical in
noncomputable def d9 (q:List El)(ro:Int):al:=if one q then .arr (q.headD (0,[],0)).1 ro else .tup (es q) ro
theorem kG {x:El}(h:x.2.2=2):d9 [x] ro= .arr x.1 ro:=if_pos ⟨x,rfl,h⟩
theorem kH {q:List El}(h:¬one q):d9 q ro= .tup (es q) ro:=if_neg h
theorem o0 (q:List El):(d9 q ro).els=es q:=by
 by_cases h:one q
 ·refine h.elim fun x h=>?_
  rw[h.1,kG h.2];exact congrArg (fun z=>[(x.1,z)]) h.2.symm
 ·rw[kH h];rfl
theorem EA (q:List El):(d9 q ro).rd=ro:=by
 unfold d9
 by_cases h:one q
 ·rw[if_pos h];rfl
 ·rw[if_neg h];rfl
noncomputable def cw (T:List al)(X:List Int)(t:Int)(f:ae)(ro:Int):Prop:=∃q,bm T X q∧fm q=f∧az T t (d9 q ro)
theorem cw.le {f:ae}(h:cw T X t f ro)(l:Le T T'):cw T' X t f ro:=h.elim fun q h=>⟨q,bm.le h.1 l,h.2.1,h.2.2.le l⟩
theorem ER.fn {x y:El}(G:aj b T)(h:ER T X x)(h':ER T X y)(e:(x.1,x.2.2)=(y.1,y.2.2)):x=y:=by
 have e1:=congrArg gV e
 have e2:=congrArg Prod.snd e
 refine Prod.ext e1 (Prod.ext ?_ e2)
 by_cases h3:x.2.2=3
 ·exact(h.resolve_left fun z=>by rcases z.1 with z|z|z<;>exact absurd (h3.symm.trans z) (by decide)).2.1.trans ((congrArg (fun z=>[z]) e1).trans (h'.resolve_left fun z=>by rcases z.1 with z|z|z<;>exact absurd ((e2.symm.trans h3).symm.trans z) (by decide)).2.1.symm)
 ·exact(h.ek h3).fn G (e1▸h'.ek fun z=>h3 (e2.trans z))
theorem ER.inj {x y:El}(G:aj b T)(h:ER T X x)(h':ER T X y)(e:x.2=y.2):x=y:=by
 refine Prod.ext ?_ e
 by_cases h3:x.2.2=3
 ·have h1:=(h.resolve_left fun z=>by rcases z.1 with z|z|z<;>exact absurd (h3.symm.trans z) (by decide)).2.1
  have h2:=(h'.resolve_left fun z=>by rcases z.1 with z|z|z<;>exact absurd ((e▸h3:y.2.2=3).symm.trans z) (by decide)).2.1
  exact(eH (h1.symm.trans ((congrArg gV e).trans h2))).1
 ·exact(h.ek h3).2.inj G (e▸(h'.ek fun z=>h3 (e▸z)).2)
theorem xQ {α β:Type}{P:α→Prop}{f:α→β}(h:∀x y,P x→P y→f x=f y→x=y)(l:List α):∀{l':List α},(∀x∈l,P x)→(∀x∈l',P x)→l.map f=l'.map f→l=l':=by
 induction l with
 |nil=>exact fun _ _ e=>(jR.mp e.symm).symm
 |cons x l ih=>
  intro l' hl hl' e
  cases l' with
  |nil=>cases e
  |cons y l'=>exact kF List.cons (h x y (hl x (.head _)) (hl' y (.head _)) (eH e).1) (ih (fun z hz=>hl z (.tail _ hz)) (fun z hz=>hl' z (.tail _ hz)) (eH e).2)
theorem cw.fn {f f':ae}{ro':Int}(G:aj b T)(h:cw T X t f ro)(h':cw T X t f' ro'):f=f'∧ro=ro':=
 h.elim fun q h=>h'.elim fun q' h'=>have e:=h.2.2.fn h'.2.2
  ⟨h.2.1.symm.trans ((congrArg fm (xQ (fun x y hx hy=>ER.fn G hx hy) q h.1 h'.1 ((o0 q).symm.trans ((congrArg al.els e).trans (o0 q'))))).trans h'.2.1),(EA q).symm.trans ((congrArg al.rd e).trans (EA q'))⟩
theorem cw.inj {f:ae}(G:aj b T)(h:cw T X t f ro)(h':cw T X t' f ro):t=t':=
 h.elim fun q h=>h'.elim fun q' h'=>G.inj h.2.2 (xQ (fun x y hx hy=>ER.inj G hx hy) q h.1 h'.1 (h.2.1.trans h'.2.1.symm)▸h'.2.2)
end Mine.V
namespace Mine.V
variable {r:R}{T T' T'':List al}{x:al}{t t' ro:Int}{b m:Nat}{K:PV→O→Prop}{o:O}{a a' l X:List Int}
theorem EB (es:List (Int×Int))(ro:Int):cq (bh (.tup es ro))=true:=
 xF (cx.mpr ⟨.int,dD (.tup fun x hx=>(aS.mp hx).elim fun e h=>h.2▸ .tup (dD (P:=Kq 3) .int .int)) .int⟩)
theorem EC (e ro:Int):cq (bh (.arr e ro))=true:=rfl
theorem YW {e:Int}(hr:Lv (m+2) r)(G:aj (b+1) T)(k:∀t T',Le T T'→aj b T'→az T' t (.arr e ro)→K (.d (.int t)) (ob T')):r.call "array_type" [.o 0,.d (.int e),.d (.int ro)] (ob T) K:=by
 refine hr.call Xh fun r hr=>⟨rfl,?_⟩
 exact⟨rfl,i4 (m:=m) (x:=.arr e ro) hr G (EC e ro) k⟩
theorem ED {q:List El}{N:L→O→Prop}{s1 s4:Option Slot}(hr:Lv (m+1) r)(G:aj (b+1) T)(hq:bm T X q)(h1:¬one q)
 (k:∀t T',Le T T'→aj b T'→cw T' X t (fm q) ro→K (.d (.int t)) (ob T')):xe r [some (.pv (.o 0)),s1,some (.pv (.d (.int ro))),some (.pv (.d (.list (aW q)))),s4] (ob T) N K:=by
 have k:r.meth 0 "put" [.o 0,.d (.tuple [.int 12,.tuple (aW q),.int ro])] (ob T) K:=
  oZ q▸i4 (x:=.tup (es q) ro) hr G (EB _ _) fun t T' l G' h=>k t T' l G' ⟨q,bm.le hq l,rfl,(kH h1).symm▸h⟩
 exact⟨rfl,k⟩
theorem YX {q:List El}{N:L→O→Prop}{s1 s4:Option Slot}(hr:Lv (m+2) r)(G:aj (b+1) T)(hq:bm T X q)
 (k:∀t T',Le T T'→aj b T'→cw T' X t (fm q) ro→K (.d (.int t)) (ob T')):De r [some (.pv (.o 0)),s1,some (.pv (.d (.int ro))),some (.pv (.d (.list (aW q)))),s4] (ob T) (fun l o=>xe r l o N K) K:=by
 by_cases h1:one q
 ·obtain⟨x,rfl,hx⟩:=h1
  exact cu hx (YW (m:=m) hr G fun t T' l G' h=>k t T' l G' ⟨[x],bm.le hq l,rfl,(kG hx).symm▸h⟩)
 ·have k:=ED (s1:=s1) (s4:=s4) (N:=N) hr G hq h1 k
  cases q with
  |nil=>exact k
  |cons x q=>
   cases q with
   |nil=>exact bW (fun z=>h1 ⟨x,rfl,z⟩) k
   |cons y q=>exact k
theorem EE {q:List El}{a c:ae}(h:fm q=a++c):∃q1 q2,q=q1++q2∧fm q1=a∧fm q2=c:=List.map_eq_append_iff.mp h
theorem iu {q:List El}{f:ae}(h:fm q=f):q.length=f.length:=(aB ..).symm.trans (congrArg cI h)
theorem EF {q:List El}{P:List Int×Int→Prop}(h:∀x∈fm q,P x):∀x∈q,P x.2:=fun x hx=>h x.2 (aS.mpr ⟨x,hx,rfl⟩)
theorem ER.signs {x:El}(h:ER T X x)(h3:x.2.2≠3):x.2.2=0∨x.2.2=1∨x.2.2=2:=h.elim (·.1) fun z=>absurd z.1 h3
theorem YY {q:List El}{x:List Int×Int}{c:ae}(h:∀x∈fm q,x.2≠2)(hx:x.2=2):fA 0 (-1) (fm q++x::c)=q.length:=by
 rw[YK,xN _ _ _ (.inl h),bQ,fm,aB]
 exact(congrArg (fun z=>fA (q.length+1) z _) (if_pos ⟨by decide,hx⟩)).trans (xN _ _ _ (.inr (gy _)))
theorem rG {a c:ae}{n:Int}(hn:0≠n)(h:∀x∈a,x.2≠n):∀x∈dF a c,x.2≠n:=fun x hx=>(Ez hx).elim fun y hy=>hy.2.elim (fun e=>e▸h y hy.1) fun e=>e.1▸hn
theorem YZ {F M B:ae}{q1 qm q3:List El}{last:Int}(hr:Lv (m+5) r)(G:aj (b+1+qm.length) T)(hq:bm T X (q1++(qm++q3)))(hl:q1.length+(qm.length+q3.length)≤60000)(e1:fm q1=dF F (M++B))(em:fm qm=dF M B)(e3:fm q3=B)(D:rE F M B)
 (h3:∀x∈qm,x.2.2≠3) (hz:last+1=(q1.length+qm.length:Nat)) (k:∀T' q',Le T T'→aj b T'→bm T' X q'→fm q'=fm q1++(hE M++B)→K (.d (.list (aW q'))) (ob T')):
 r.call "one_rest" [.o 0,.d (.list (aW (q1++(qm++q3)))),.d (.int last)] (ob T) K:=by
 have hq1:∀x∈fm q1,x.2≠2:=e1▸rG (by decide) D.2.1
 have hl':(q1++(qm++q3)).length≤60000:=by rw[aG,aG];exact hl
 have ee:fm (q1++(qm++q3))=fm q1++(fm qm++fm q3):=lQ.trans (congrArg _ lQ)
 have same:=k T (q1++(qm++q3)) (.refl T) (G.mono (ai (dI b) (aR _ _))) hq
 rw[ee,e3] at same
 refine D.2.2.1.elim (fun h=>?_) fun h=>h.elim fun a h=>h.elim fun c h=>?_
 ·refine Eu (m:=m+4) hr hl' (.inl ?_) (same (by rw[em,h];rfl))
  rw[ee,em,h,e3]
  exact Int.lt_of_le_of_lt (Int.le_of_eq (xN _ _ _ (.inl (eG.mpr ⟨hq1,fun x hx=>D.1 x hx▸(by decide:(0:Int)≠2)⟩)))) (by decide:(-1:Int)<0)
 ·have em:fm qm=(a,2)::dF c B:=by rw[em,h];exact congrArg (·::dF c B) (oY (by decide:(2:Int)≠1))
  have ef:fA 0 (-1) (fm (q1++(qm++q3)))=q1.length:=by rw[ee,em];exact YY hq1 rfl
  by_cases hc:c=[]
  ·have hl1:qm.length=1:=(iu em).trans (by rw[hc];rfl)
   refine Eu (m:=m+4) hr hl' (.inr (ef▸Int.le_of_eq ((Int.add_left_inj 1).mp (hz.trans (by rw[hl1];rfl))))) (same ?_)
   rw[em,h,hc]
   refine congrArg (fun z=>fm q1++([(z,(2:Int))]++B)) ?_
   have hx:(a,(2:Int))∈fm qm:=em▸ .head _
   exact(aS.mp hx).elim fun x hx=>(congrArg (fun z:List Int×Int=>norm z.1) hx.2).symm.trans ((((hq x (cH _ (cS _ hx.1))).ek (h3 x hx.1)).1.2.2).trans (congrArg gV hx.2)) |>.symm.trans (congrArg norm (ck a).symm)
  ·have hp:1<qm.length:=iu em▸Nat.succ_lt_succ (Nat.lt_of_lt_of_eq (gx.mpr hc) (nc c B).symm)
   refine YQ hr G (fun x hx=>hq x (cH _ (cS _ hx))) h3 (fun z=>by rw[z] at hp;exact absurd hp (by decide)) ef ?_ hl hz fun T' u a' l G' hu ha=>?_
   ·have:(q1.length:Int)+1<last+1:=hz▸ib.mpr (Nat.add_lt_add_left hp _)
    exact Int.lt_of_add_lt_add_right this
   ·refine k T' _ l (G'.mono (aT _)) (eG.mpr ⟨fun z hz=>(hq z (cS _ hz)).le l,eG.mpr ⟨fun z hz=>aM.mp hz▸ .inl ⟨.inr (.inr rfl),hu⟩,fun z hz=>(hq z (cH _ (cH _ hz))).le l⟩⟩) ?_
    rw[lQ,lQ,e3,h]
    refine congrArg (fun z=>fm q1++([(z,(2:Int))]++B)) (ha.trans (congrArg norm ?_))
    rw[em];exact congrArg (a++·) (YU c B)
theorem Y0 (f:ae):(jH f).length=f.length:=by
 induction f with
 |nil=>rfl
 |cons x f ih=>exact congrArg (·+1) ih
theorem Y1 {q:List El}{last:Int}(hr:Lv (m+6) r)(G:aj (b+1+q.length+q.length) T)(hq:bm T X q)(h3:∀x∈q,x.2.2≠3)(hl:q.length≤60000)(hlast:last+1=((fr (fm q)).length+(md (fm q)).length:Nat))
 (k:∀T' q',Le T T'→aj b T'→bm T' X q'→fm q'=cv (fm q)→K (.d (.list (aW q'))) (ob T')):
 r.call "needed_to_last" [.o 0,.d (.list (aW q))] (ob T) fun p o=>r.call "one_rest" [.o 0,p,.d (.int last)] o K:=by
 have hs:cv (fm q)= _:=lR fun z=>z.elim fun x hx=>(aS.mp hx.1).elim fun y hy=>h3 y hy.1 ((congrArg Prod.snd hy.2).trans hx.2)
 refine YJ (m:=m+1) hr G hq h3 hl fun T1 q' l1 G1 hq' e=>?_
 refine(EE (e.trans Ey)).elim fun q1 h=>h.elim fun q2 h=>(EE h.2.2).elim fun qm h2=>h2.elim fun q3 h2=>?_
 have e':q'=q1++(qm++q3):=h.1.trans (congrArg (q1++·) h2.1)
 have hn:q1.length+(qm.length+q3.length)=q.length:=by rw[←aG,←aG,←e'];exact(iu e).trans ((Y0 _).trans (aB ..))
 have hm3:∀x∈fm qm,x.2≠3:=h2.2.1▸rG (by decide) fun y hy=>(aS.mp (jJ (fm q)▸cH _ (cS _ hy):y∈fm q)).elim fun z hz=>hz.2▸h3 z hz.1
 rw[e'] at hq' ⊢
 refine YZ hr (G1.mono (cy (hn▸ai (aR _ _) (gc _ _)) _)) hq' (hn▸hl) h.2.1 h2.2.1 h2.2.2 (oX (fm q)) (EF (P:=fun x=>x.2≠3) hm3) ?_ fun T' q' l G' hq' e=>k T' q' (l1.trans l) G' hq' (e.trans (hs▸h.2.1▸rfl))
 ·rw[hlast,iu h.2.1,iu h2.2.1,nc,nc]
theorem Y2 {q:List El}(h:one q):¬cj (fm q) 3:=fun z=>h.elim fun x h=>by
 rw[h.1] at z
 exact z.elim fun y hy=>absurd (((congrArg Prod.snd (aM.mp hy.1)).symm.trans hy.2:x.2.2=3).symm.trans h.2) (by decide)
theorem Y3 {q:List El}(hr:Lv (m+7) r)(G:aj (b+1+1+q.length+q.length) T)(hq:bm T X q)(hl:q.length≤60000)
 (k:∀t T',Le T T'→aj b T'→cw T' X t (cv (fm q)) ro→K (.d (.int t)) (ob T')):r.call "tuple_type" [.o 0,.d (.tuple (aW q)),.d (.int ro)] (ob T) K:=by
 refine hr.call Xk fun r hr=>⟨rfl,⟨rfl,?_⟩⟩
 refine eR q _ (v:=i7) (I:=fun l=>∃i j,l=[some (.pv (.o 0)),some (.pv (.d (.tuple (aW q)))),some (.pv (.d (.int ro))),none,none,i,j]) (fun x hx l hl A kk h=>?_) (aX hl (by rw[jF];decide)) ⟨_,_,rfl⟩ fun l hl'=>?_
 ·obtain⟨i,j,rfl⟩:=hl
  exact h _ ⟨_,_,rfl⟩
 ·obtain⟨i,j,rfl⟩:=hl'
  refine xL (m:=m+5) (ks:=[3]) hr hl ?_
  by_cases h3:cj (fm q) 3
  ·refine f0 (jW.mpr (Ep (fm q) 0 (-1) (h3.imp fun x h=>⟨h.1,aM.mpr h.2⟩))) ?_
   exact ED (m:=m+5) hr (G.mono (ai (dI _) (ai (aR _ _) (aR _ _)))) hq (fun z=>Y2 z h3) (fun t T' l G' h=>k t T' l G' ((na h3).symm▸h))
  ·have h3':∀x∈fm q,x.2≠3:=fun x hx z=>h3 ⟨x,hx,z⟩
   refine jI (Int.lt_of_le_of_lt (Int.le_of_eq (rt (fm q) 0 (-1) fun x hx z=>h3' x hx (aM.mp z))) (by decide:(-1:Int)<0)) ?_
   refine xL (m:=m+5) (ks:=[2,1]) hr hl ?_
   refine Y1 hr G hq (EF (P:=fun x=>x.2≠3) h3') hl (YV fun x hx=>?_) fun T' q' l G' hq' e=>?_
   ·exact(aS.mp hx).elim fun y hy=>hy.2▸(hq y hy.1).signs (hy.2▸h3' x hx)
   ·exact YX (m:=m+4) hr G' hq' fun t T2 l2 G2 h=>k t T2 (l.trans l2) G2 (e▸h)
theorem Y4 {n:L→O→Prop}{t:PV→O→Prop}{s0 s1 s2 s3 s5:Option Slot}(es:List (Int×Int)):∀j:Option Slot,(es.any (fun e=>e.2==3)=true→t (.d (.bool true)) o)→(es.any (fun e=>e.2==3)=false→∀j,n [s0,s1,s2,s3,j,s5] o)→
 ba (ay 4) Dh r n t (es.map d4) [s0,s1,s2,s3,j,s5] o:=by
 induction es with
 |nil=>exact fun j _ k=>k rfl j
 |cons e es ih=>
  intro j k1 k2
  by_cases h:e.2=3
  ·exact cu h (k1 (sU.mpr (.inl (beq_iff_eq.mpr h))))
  ·have:(e.2==3)=false:=beq_eq_false_iff_ne.mpr h
   rw[List.any_cons,this,Bool.false_or] at k1 k2
   exact bW h (ih _ k1 k2)
theorem xR (hr:Lv (m+1) r)(h:az T t x)(hs:x.simple=true)(k:K (.d (.bool (gq x))) (ob T)):r.call "is_open" [.o 0,.d (.int t)] (ob T) K:=by
 refine hr.call DY fun r hr=>⟨rfl,ah h.get ?_⟩
 cases x with
 |tup es ro=>
  have k:K (.d (.bool (es.any fun e=>e.2==3))) (ob T):=k
  exact Y4 es none (fun e=>(e▸k:K (.d (.bool true)) (ob T))) fun e j=>(e▸k:K (.d (.bool false)) (ob T))
 |union l=>cases hs
 |inter l=>cases hs
 | _=>exact k
theorem rH {c:Bool}(hr:Lv (m+2) r)(h:eS T t c)(k:K (.d (.bool c)) (ob T)):r.call "is_open" [.o 0,.d (.int t)] (ob T) K:=by
 cases h with
 |one h hs=>exact xR (m:=m+1) hr h hs k
 | @two a c ra rc h ha hc sa sc=>
  refine hr.call DY fun r hr=>⟨rfl,ah h.get ?_⟩
  refine xR (m:=m) hr ha sa ?_
  generalize gq ra=p at k ⊢
  cases p with
  |true=>exact k
  |false=>
   refine xR (m:=m) hr hc sc ?_
   have k:K (.d (.bool (gq rc))) (ob T):=k
   generalize gq rc=p at k ⊢
   cases p with
   |true=>exact k
   |false=>exact k
inductive f1 (T:List al)(t:Int):Int→Prop
 |self {x:al}:az T t x→x.kind≠7∨eS T t true→f1 T t t
 |met {a c:Int} {ra rc:al}:az T t (.inter [a,c])→eS T t false→az T a ra→az T c rc→f1 T t (if bY ra=true then a else if bY rc=true then c else t)
theorem f1.le {h:Int}(p:f1 T t h)(l:Le T T'):f1 T' t h:=by
 cases p with
 |self h1 h2=>exact .self (h1.le l) (h2.imp_right fun h=>h.le l)
 |met h1 h2 h3 h4=>exact .met (h1.le l) (h2.le l) (h3.le l) (h4.le l)
theorem rJ (x:al):dv (.pv (.d (.tuple [.int 11,.int 12]))) (.int x.kind)=some (bY x):=by cases x<;>rfl
theorem EG {x:al}(h:bY x=true){A B:Prop}(k:A):am (dv (.pv (.d (.tuple [.int 11,.int 12]))) (.int x.kind)) fun b=>Br b A B:=ah (rJ x) (fy h k)
theorem EH {x:al}(h:bY x=false){A B:Prop}(k:B):am (dv (.pv (.d (.tuple [.int 11,.int 12]))) (.int x.kind)) fun b=>Br b A B:=ah (rJ x) (fX h k)
theorem EI {h:Int}(hr:Lv (m+3) r)(p:f1 T t h)(k:K (.d (.int h)) (ob T)):r.call "kindsplice_list_part" [.o 0,.d (.int t)] (ob T) K:=by
 refine hr.call XN fun r hr=>⟨rfl,?_⟩
 cases p with
 | @self x h1 h2=>
  refine ah h1.get (ip ?_)
  by_cases h7:x.kind=7
  ·exact cu h7 (rH (m:=m) hr (h2.resolve_left fun z=>z h7) k)
  ·exact bW h7 k
 | @met a c ra rc h1 h2 h3 h4=>
  refine ah h1.get (rH (m:=m) hr h2 (ah rfl (ah h3.get (ip ?_))))
  by_cases la:bY ra=true
  ·rw[if_pos la] at k;exact EG la k
  ·rw[if_neg la] at k
   refine EH (gz.mpr la) (ah h4.get (ip ?_))
   by_cases lc:bY rc=true
   ·rw[if_pos lc] at k;exact EG lc k
   ·rw[if_neg lc] at k;exact EH (gz.mpr lc) k
noncomputable def hG (T:List al)(X:List Int)(t:Int)(c:ae)(h:Int):Prop:=
 f1 T t h∧∃r,az T h r∧(bY r=true∧(∃q,bm T X q∧fm q=c∧r.els=es q)∨bY r=false∧(t=0∧c=[([0],2)]∨t≠0∧(eS T t true∧c=[([t],3)]∧bm T X [(t,[t],3)]∨eS T t false∧c=[([1],2)])))
theorem hG.le {c:ae}{h:Int}(p:hG T X t c h)(l:Le T T'):hG T' X t c h:=
 ⟨p.1.le l,p.2.imp fun r p=>⟨p.1.le l,p.2.imp (fun p=>⟨p.1,p.2.imp fun q p=>⟨bm.le p.1 l,p.2⟩⟩) fun p=>⟨p.1,p.2.imp_right fun p=>⟨p.1,p.2.imp (fun p=>⟨p.1.le l,p.2.1,bm.le p.2.2 l⟩) fun p=>⟨p.1.le l,p.2⟩⟩⟩⟩⟩
theorem xS:EK T 1 [1]:=⟨⟨cX _ _,fun x hx=>aM.mp hx▸(by decide:(1:Int)∈dE),rfl⟩,.inl rfl⟩
theorem xT:EK T 0 [0]:=⟨⟨cX _ _,fun x hx=>aM.mp hx▸(by decide:(0:Int)∈dE),rfl⟩,.inl rfl⟩
theorem Y5 (x:al):bY x=(x.kind==11||x.kind==12):=by cases x<;>rfl
theorem EJ {x:al}(h:bY x=false):x.kind≠11∧x.kind≠12:=
 have h:=Bool.or_eq_false_iff.mp ((Y5 x).symm.trans h);⟨beq_eq_false_iff_ne.mp h.1,beq_eq_false_iff_ne.mp h.2⟩
theorem Y6 {q:List El}{x:al}(h:x.els=es q):x.els.map d4=aW q:=(congrArg (jY d4) h).trans (oZ q)
theorem rK {x:al}(h:bY x=true):(∃e ro,x= .arr e ro)∨∃es ro,x= .tup es ro:=by
 cases x with
 |arr e ro=>exact .inl ⟨e,ro,rfl⟩
 |tup e ro=>exact .inr ⟨e,ro,rfl⟩
 | _=>exact k7 h
theorem Y7 {s1:Option Slot}{N:L→O→Prop}(h:bY x=true)(hl:x.els.length≤60000)(k:K (.d (.list (x.els.map d4))) o):Dj r [some (.pv (.o 0)),s1,some (.pv (.d (bh x)))] o N K:=by
 refine(rK h).elim (fun h=>h.elim fun e h=>h.elim fun ro h=>?_) fun h=>h.elim fun es h=>h.elim fun ro h=>?_
 ·subst h;exact k
 ·subst h
  refine⟨rfl,eR es _ (v:=d4) (I:=fun l=>∃j,l=[some (.pv (.o 0)),s1,some (.pv (.d (bh (.tup es ro)))),j]) (fun x hx l hl A kk h=>?_) (aX hl (by rw[jF];decide)) ⟨_,rfl⟩ fun l hl=>k⟩
  obtain⟨j,rfl⟩:=hl
  exact h _ ⟨_,rfl⟩
theorem EL {c:ae}{h:Int}(hr:Lv (m+4) r)(p:hG T X t c h)(hl:c.length≤60000)(k:∀q,bm T X q→fm q=c→K (.d (.list (aW q))) (ob T)):r.call "cut_open" [.o 0,.d (.tuple [.int t,.int 3])] (ob T) K:=by
 refine hr.call XO fun r hr=>⟨rfl,EI (m:=m) hr p.1 (p.2.elim fun x p=>ah rfl (ah rfl (ah rfl (ah p.1.get ?_))))⟩
 refine p.2.elim (fun p=>p.2.elim fun q hq=>?_) fun p=>?_
 ·exact Y7 p.1 (hq.2.2▸(aB ..).symm▸(iu hq.2.1).symm▸hl) ((Y6 hq.2.2).symm▸k q hq.1 hq.2.1)
 ·refine ip (bW (EJ p.1).1 (ip (bW (EJ p.1).2 ?_)))
  refine p.2.elim (fun p=>cu p.1 (k [(0,[0],2)] (fun x hx=>aM.mp hx▸ .inl ⟨.inr (.inr rfl),xT⟩) p.2.symm)) fun p=>bW p.1 ?_
  exact p.2.elim (fun p=>rH (m:=m+1) hr p.1 (k [(t,[t],3)] p.2.2 p.2.1.symm)) fun p=>rH (m:=m+1) hr p.1 (k [(1,[1],2)] (fun x hx=>aM.mp hx▸ .inl ⟨.inr (.inr rfl),xS⟩) p.2.symm)
noncomputable def aY:al→List Int
 | .union ids=>ids
 | .inter ids=>ids
 | .obj ps=>ps.map (·.2)
 | .arr e _=>[e]
 | .tup es _=>es.map (·.1)
 | .keyof t=>[t]
 | _=>[]
theorem hH {n k:Nat}(h:n≤k)(hk:k<aH):n<aH:=aX h hk
theorem rL {s0 s1 s2 s3 j:Option Slot}{k:List aa→L→O→Prop}(hl:a.length≤300)(h:∀l,k (aA a) l o):bf (ay 4) tT (eV 4) (aA a) [] r [s0,s1,s2,s3,j] o k:=
 eR a _ (v:=bv) (I:=fun l=>∃j,l=[s0,s1,s2,s3,j]) (fun x hx l hl A kk h=>hl.elim fun j e=>by subst e;exact h _ ⟨_,rfl⟩) (hH hl (by decide)) ⟨_,rfl⟩ fun l _=>h l
theorem EM (hr:Lv (m+1) r)(k:K (.d (.list [])) o):r.call "index_kids" [.d (.tuple [])] o K:=
 hr.call Xv fun r _=>⟨rfl,k⟩
theorem EN {xs:List aa}(h:xs.length≤aH):ie .Add (.list xs) (.list [])=some (.list xs):=(if_pos h).trans (congrArg (fun l=>some (jm l)) (ck xs))
theorem Y8 {ps:List (Str×Int)}(hr:Lv (m+2) r)(hl:ps.length≤300)(k:K (.d (.list (aA (ps.map (·.2))))) o):r.call "object_kids" [.d (bh (.obj ps))] o K:=by
 refine hr.call Xw fun r hr=>⟨rfl,⟨rfl,?_⟩⟩
 refine eR ps _ (v:=fun p=>.int p.2) (I:=fun l=>∃j,l=[some (.pv (.d (bh (.obj ps)))),none,none,j]) (fun x hx l hl A kk h=>hl.elim fun j e=>by subst e;exact h _ ⟨_,rfl⟩) (hH hl (by decide)) ⟨_,rfl⟩ fun l hl'=>hl'.elim fun j e=>?_
 subst e
 have e:ps.map (fun p=>bv p.2)=aA (ps.map (·.2)):=(cD ..).symm
 have hl:(aA (ps.map (·.2))).length≤aH:=by rw[aA,aB,aB];exact eW (hH hl (by decide))
 rw[e]
 exact EM (m:=m) hr (ah rfl (ah (EN hl) (ah rfl (EM (m:=m) hr (ah rfl (ah (EN hl) k))))))
set_option maxHeartbeats 0 in
theorem Y9 (hr:Lv (m+3) r)(hl:(aY x).length≤300)(k:K (.d (.list (aA (aY x)))) o):r.call "row_kids" [.d (bh x)] o K:=by
 refine hr.call Xx fun r hr=>⟨rfl,?_⟩
 cases x with
 |union ids=>exact⟨rfl,rL hl fun l=>k⟩
 |inter ids=>exact⟨rfl,rL hl fun l=>k⟩
 |arr e ro=>exact⟨rfl,rL (a:=[e]) hl fun l=>k⟩
 |keyof e=>exact⟨rfl,rL (a:=[e]) hl fun l=>k⟩
 |obj ps=>exact Y8 (m:=m) hr (ai (bg (aB ..).symm) hl) k
 |tup es ro=>
  refine⟨rfl,eR es _ (v:=fun e=>.int e.1) (I:=fun l=>∃s0 s1 s2 s3 j,l=[s0,s1,s2,s3,j]) (fun x hx l hl A kk h=>?_) (hH (ai (bg (aB ..).symm) hl) (by decide)) ⟨_,_,_,_,_,rfl⟩ fun l _=>?_⟩
  ·obtain⟨s0,s1,s2,s3,j,rfl⟩:=hl
   exact h _ ⟨_,_,_,_,_,rfl⟩
  ·exact(congrArg (fun l=>K (.d (.list l)) o) (cD (g:=bv) (f:=gV) (l:=es))).mp k
 | _=>exact k
theorem EO (hr:Lv (m+1) r)(k:K (.d (.tuple [])) o):r.call "row_binds" [.d (bh x)] o K:=
 hr.call Xy fun r _=>⟨rfl,ip (by cases x<;>exact k)⟩
theorem Za (hr:Lv (m+4) r)(hl:(aY x).length≤300)(k:K (.d (.list (aA (aY x)))) (ob T)):r.call "inner_kids" [.o 0,.d (bh x)] (ob T) K:=
 hr.call Xz fun r hr=>⟨rfl,Y9 (m:=m) hr hl (EO (m:=m+2) hr k)⟩
noncomputable def o4 (T:List al)(C:List Int):Prop:=∀c∈C,∃x,az T c x∧(aY x).length≤300∧∀k∈aY x,k∈C
noncomputable def bE (T:List al)(t:Int):Prop:=∃C:List Int,o4 T C∧C.length≤63∧t∈C
theorem bE.le (h:bE T t)(l:Le T T'):bE T' t:=h.imp fun C h=>⟨fun c hc=>(h.1 c hc).imp fun x h=>⟨h.1.le l,h.2⟩,h.2⟩
theorem Zb {xs:List aa}{A B:Prop}(h:xs≠[])(k:A):am (my (.lst xs)) fun b=>Br b A B:=by
 cases xs with
 |nil=>exact absurd rfl h
 |cons x xs=>exact k
theorem o5 {a c:Int}{A B:Prop}(h:c≤a)(x:A):am (dg .GtE (.int a) (.int c)) fun b=>Br b A B:=fy (decide_eq_true h) x
theorem EQ (g:List Int)(k:Int):dv (.dct (cP g)) (.int k)=some (decide (k∈g)):=congrArg some (Eb k g)
theorem Zc {g:List Int}{k:Int}{A B:Prop}(h:k∉g)(x:A):am (dv (.dct (cP g)) (.int k)) fun b=>Br (!b) A B:=ah (EQ g k) (by rw[decide_eq_false h];exact x)
theorem Zd {g:List Int}{k:Int}{A B:Prop}(h:k∈g)(x:B):am (dv (.dct (cP g)) (.int k)) fun b=>Br (!b) A B:=ah (EQ g k) (by rw[decide_eq_true h];exact x)
theorem Ze {w u p d:Nat}(h2:p≤300)(hm:w+1+(u+1)*301<d+1):w+p+u*301<d:=by
 rw[c9,mn] at hm
 rw[dS,gB p]
 exact li (Nat.add_lt_add_left (Nat.add_lt_add_left (nX h2) _) _) (Nat.lt_of_succ_lt_succ hm)
theorem Zf {C:List Int}{n:L→O→Prop}{q:PV→O→Prop}{s1:Option Slot}(hr:Lv (m+4) r)(hC:o4 T C)(hl:C.length≤63)(d:Nat):∀(u:Nat) (seen wait:List Int) (xs:List aa) (j:Option Slot),xs=aA wait→d≤20000→In C seen→(∀c∈wait,c∈C)→seen.length+u=63→wait.length+u*301<d→
 (∀seen j,In C seen→n [some (.pv (.o 0)),s1,some (.dct (cP seen)),some (.lst []),j] (ob T))→
 kh (gG (Pl.g (.n 3))) Dg r n q d [some (.pv (.o 0)),s1,some (.dct (cP seen)),some (.lst xs),j] (ob T):=by
 induction d with
 |zero=>exact fun _ _ _ _ _ _ _ _ _ _ h _=>absurd h (Nat.not_lt_zero _)
 |succ d ih=>
  intro u seen wait xs j e hd hs hw hu hm k
  refine(List.eq_nil_or_concat wait).elim (fun h=>?_) fun h=>h.elim fun w h=>h.elim fun c h=>?_
  ·subst h;subst e;exact k seen j hs
  ·have h:=h.trans List.concat_eq_append
   have e:xs=aA w++[.int c]:=by rw[e,h];exact bJ
   have hc:c∈C:=hw c (h▸cH _ (.head _))
   have hw':∀c∈w,c∈C:=fun y hy=>hw y (h▸cS _ hy)
   rw[h,aG,y0] at hm
   refine(hC c hc).elim fun x hx=>?_
   have ne:xs≠[]:=e▸Hb _ (cX _ _)
   refine Zb ne ⟨ne,?_⟩
   rw[show xs.dropLast=aA w from e▸List.dropLast_concat,show xs.getLastD .none= .int c from e▸List.getLastD_concat]
   refine o5 hx.1.1 ?_
   by_cases hin:c∈seen
   ·exact Zd hin (ih u seen w _ _ rfl (Nat.le_of_succ_le hd) hs hw' hu (Nat.lt_of_succ_lt_succ (by rwa [c9] at hm)) k)
   ·have hs':=hs.add hc
    have el:(g8 seen c).length=seen.length+1:=(congrArg cI (if_neg hin:g8 seen c=seen++[c])).trans aG
    refine Zc hin (ah (Ee (hH (ai hs.len hl) (by decide))) (ah rfl (ah rfl ?_)))
    have hb:(aA w).length+(aA (aY x)).length<aH:=by
     rw[aA,aA,aB,aB]
     exact hH (n4 (ai (aR _ 1) (ai (aR _ _) (eW (fc hm hd)))) hx.2.1) (by decide)
    refine ah hx.1.get ?_
    refine Za (m:=m) hr hx.2.1 ⟨hb,?_⟩
    cases u with
    |zero=>exact absurd (el▸ai hs'.len hl) (by rw[←hu];exact Nat.not_succ_le_self _)
    |succ u=>exact ih u (g8 seen c) (w++aY x) _ _ bJ.symm (Nat.le_of_succ_le hd) hs' (eG.mpr ⟨hw',hx.2.2⟩) (by rw[el,c9];exact hu) (aG▸Ze hx.2.1 hm) k
theorem Zg {C:List Int}(hr:Lv (m+5) r)(hC:o4 T C)(hl:C.length≤63)(ht:t∈C)(k:∀q:List Int,(∀c∈q,c∈C)→q.length≤63→K (.d (.list (aA q))) (ob T)):r.call "reached" [.o 0,.d (.int t)] (ob T) K:=by
 refine hr.call XA fun r hr=>⟨rfl,20000,?_⟩
 refine Zf (m:=m) hr hC hl 20000 63 [] [t] _ none rfl (aT _) ⟨.nil,fun _ h=>(aJ h).elim⟩ (fun c h=>aM.mp h▸ht) rfl (show 1+63*301<20000 by decide) fun seen j hs=>?_
 have hp:=dy bn seen
 have hl:seen.length≤63:=ai hs.len hl
 refine ah ((congrArg iM (Eg seen)).trans (oU (nX hl))) (k _ (fun c hc=>hs.2 c (hp.mem_iff.mp hc)) (hp.length_eq▸hl))
theorem ES (q:List Int):ka (q.map fun _=>nU [])=some (q.map fun _=>false)∧(q.map fun _=>false).any id=false:=by
 induction q with
 |nil=>exact⟨rfl,rfl⟩
 |cons x q ih=>exact⟨congrArg (gD (false::·)) ih.1,ih.2⟩
noncomputable def al.par:al→Option Int
 | .param p=>some p
 | _=>none
noncomputable def rM (T:List al)(t:Int):Option Int:=(T[t.toNat]?).bind al.par
theorem Zh (h:az T t x):rM T t=x.par:=congrArg (·.bind al.par) h.2
theorem Zi (x:al):(x.kind==10)=x.par.isSome:=by cases x<;>rfl
theorem nn {α:Type}{p:α}{P:Prop}(h:none=some p):P:=nomatch h
theorem Zj {p:Int}(h:x.par=some p):j3 (.pv (.d (bh x))) (.int 1)=some (.int p):=by
 cases x with
 |param q=>exact congrArg (gD bv) h
 | _=>exact nn h
theorem Zk {q:List Int}{k:List aa→L→O→Prop}{s1 s2 s3 s4 s5 s6 j:Option Slot}(hr:Lv (m+1) r)(h:∀c∈q,∃x,az T c x)(hl:q.length≤63)(hk:∀j,k (q.map fun _=>.tuple []) [some (.pv (.o 0)),s1,s2,s3,s4,s5,s6,j] (ob T)):
 bf (ay 7) tT (aC "row_binds" [ao (.a 0 "rows") (eV 7)]) (aA q) [] r [some (.pv (.o 0)),s1,s2,s3,s4,s5,s6,j] (ob T) k:=
 eR q _ (v:=fun _=>.tuple []) (I:=fun l=>∃j,l=[some (.pv (.o 0)),s1,s2,s3,s4,s5,s6,j]) (fun c hc l hl A kk h'=>hl.elim fun j e=>by
  subst e
  exact(h c hc).elim fun y hy=>ah hy.get (EO (m:=m) hr (h' _ ⟨_,rfl⟩))) (hH hl (by decide)) ⟨_,rfl⟩ fun l hl'=>hl'.elim fun j e=>e▸hk j
theorem Zl {q:List Int}{k:List aa→L→O→Prop}{s1 s2 s3 s4 s5 s6 j:Option Slot}(h:∀c∈q,∃x,az T c x)(hl:q.length≤63)(hk:∀l,k (aA (q.filterMap (rM T))) l (ob T)):
 bf (ay 7) (av .Eq (bq (ao (.a 0 "rows") (eV 7)) (eC (.int 0))) (eC (.int 10))) (bq (ao (.a 0 "rows") (eV 7)) (eC (.int 1))) (aA q) [] r [some (.pv (.o 0)),s1,s2,s3,s4,s5,s6,j] (ob T) k:=by
 refine D9 (v:=fun c=>(rM T c).map bv) (I:=fun l=>∃j,l=[some (.pv (.o 0)),s1,s2,s3,s4,s5,s6,j]) q [] _ (fun c hc l hl kk h'=>hl.elim fun j e=>?_) ((bQ _).symm▸hH hl (by decide)) ⟨_,rfl⟩ fun l _=>(List.map_filterMap .. : _=q.filterMap (fun c=>(rM T c).map bv))▸hk l
 subst e
 refine(h c hc).elim fun y hy=>?_
 refine ah hy.get (ip ?_)
 have hk:=Zi y
 rw[Zh hy] at h'
 generalize hp:y.par=p at h' hk
 cases p with
 |none=>exact bW (beq_eq_false_iff_ne.mp hk) (h' _ ⟨_,rfl⟩)
 |some p=>
  refine cu (aN hk) ?_
  refine ah hy.get ?_
  exact ah (Zj hp) (h' _ ⟨_,rfl⟩)
theorem Zm (hr:Lv (m+6) r)(h:bE T t)(k:∀q:List Int,K (.d (.tuple (aA q))) (ob T)):r.call "free_params" [.o 0,.d (.int t)] (ob T) K:=by
 refine h.elim fun C h=>hr.call XD fun r hr=>⟨rfl,?_⟩
 refine(h.1 t h.2.2).elim fun x hx=>f0 (jW.mpr hx.1.1) ?_
 refine Zg (m:=m) hr h.1 h.2.1 h.2.2 fun q hq hl=>?_
 have hh:∀c∈q,∃x,az T c x:=fun c hc=>(h.1 c (hq c hc)).imp fun _ h=>h.1
 refine⟨rfl,Zk (m:=m+4) hr hh hl fun j=>ah rfl (ah rfl (ah (ES q).1 (ah rfl (fy (by rw[(ES q).2];rfl) ⟨rfl,Zl hh hl fun l=>?_⟩))))⟩
 exact ah rfl (ah (oU (nX (ai (List.length_filterMap_le ..) hl))) (k _))
theorem Zn (hr:Lv (m+7) r)(h:bE T t)(k:∀c,K (.d (.bool c)) (ob T)):r.call "has_params" [.o 0,.d (.int t)] (ob T) K:=
 hr.call XG fun r hr=>⟨rfl,Zm (m:=m) hr h fun q=>k _⟩
theorem Zo (hr:Lv (m+1) r)(k:K (.d (.int t)) o):r.meth 1 "force" [.o 1,.d (.int t)] o K:=
 hr.meth Yg fun r hr=>⟨rfl,k⟩
theorem Zp {x:al}(h:bY x=false){A B:Prop}(k:A):am (dv (.pv (.d (.tuple [.int 11,.int 12]))) (.int x.kind)) fun b=>Br (!b) A B:=ah (rJ x) (by rw[h];exact k)
theorem Zq {x:al}(h:bY x=true){A B:Prop}(k:B):am (dv (.pv (.d (.tuple [.int 11,.int 12]))) (.int x.kind)) fun b=>Br (!b) A B:=ah (rJ x) (by rw[h];exact k)
theorem ET (hr:Lv (m+8) r)(h:bE T t)(k:K (.d (.int t)) (ob T)):r.call "kindsplice_spread_kind" [.o 1,.d (.int t)] (ob T) K:=by
 refine hr.call XJ fun r hr=>⟨rfl,⟨rfl,Zo (m:=m+6) hr ?_⟩⟩
 refine Zn (m:=m) hr h fun c=>?_
 refine h.elim fun C h=>(h.1 t h.2.2).elim fun x hx=>?_
 cases c with
 |false=>exact k
 |true=>
  refine ah rfl (ah hx.1.get (ip ?_))
  by_cases hl:bY x=true
  ·exact Zq hl k
  ·exact Zp (gz.mpr hl) k
theorem cw.list {f:ae}(h:cw T X t f ro):∃x,az T t x∧bY x=true:=h.imp' (d9 · ro) fun q h=>⟨h.2.2,by
 unfold d9
 by_cases h:one q
 ·rw[if_pos h];rfl
 ·rw[if_neg h];rfl⟩
theorem ng {y:al}{k:Int}(G:aj b T)(h:∃x,az T t x∧bY x=true)(hb:az aZ k y)(hy:bY y=false):t≠k:=
 fun e=>h.elim fun x h=>k7 (h.2.symm.trans ((congrArg bY (h.1.fn (e▸G.le hb))).trans hy))
theorem o6 (G:aj b T)(h:∃x,az T t x∧bY x=true):(t≠0∧t≠1∧t≠2)∧t≠8∧t≠13∧t≠14:=
 ⟨⟨ng G h (y:=.key "any") ⟨by decide,rfl⟩ rfl,ng G h (y:=.key "unknown") ⟨by decide,rfl⟩ rfl,ng G h (y:=.key "never") ⟨by decide,rfl⟩ rfl⟩,
  ng G h (y:=.bool 0 0) ⟨by decide,rfl⟩ rfl,ng G h (y:=.key "error") ⟨by decide,rfl⟩ rfl,ng G h (y:=.bool 0 1) ⟨by decide,rfl⟩ rfl⟩
theorem xU {x:al}(h:bY x=true):x.kind≠6∧x.plain=true∧kA x= -1:=
 (rK h).elim (fun h=>h.elim fun e h=>h.elim fun ro h=>h▸⟨(by decide:(11:Int)≠6),rfl,rfl⟩) fun h=>h.elim fun e h=>h.elim fun ro h=>h▸⟨(by decide:(12:Int)≠6),rfl,rfl⟩
noncomputable def bZ (T:List al)(X:List Int)(ro:Int)(n:Nat)(t:Int)(F:ae→Prop):Prop:=
 ∃a,a.length≤n∧a≠[]∧norm a=a∧Un T a t∧(∀p∈a,∃f,F f∧cw T X p f ro)∧∀f,F f→∃p∈a,cw T X p f ro
theorem Un.pt (G:aj b T)(h:Un T a t)(hl:∀p∈a,∃x,az T p x∧bY x=true):Pt T t a:=by
 rcases h with e|h
 ·have ht:=hl t (e▸ .head _)
  exact⟨(o6 G ht).1.2.2,.inr ⟨e,ht.imp fun x h=>⟨h.1,(xU h.2).1⟩⟩⟩
 ·exact⟨fun z=>al.noConfusion ((z▸h.2).fn (G.le (x:=.key "never") ⟨by decide,rfl⟩)),.inl h.2⟩
theorem Zr (t:Int):norm [t]=[t]:=by
 unfold norm
 by_cases h0:0∈[t]
 ·rw[if_pos h0,aM.mp h0]
 ·rw[if_neg h0]
  by_cases h1:1∈[t]
  ·rw[if_pos h1,aM.mp h1]
  ·rw[if_neg h1];rfl
theorem bZ.one {f:ae}{F:ae→Prop}{n:Nat}(h:cw T X t f ro)(hF:∀g,F g↔g=f)(hn:1≤n):bZ T X ro n t F:=
 ⟨[t],hn,cX _ _,Zr t,.inl rfl,fun p hp=>⟨f,(hF f).mpr rfl,aM.mp hp▸h⟩,fun g hg=>⟨t,.head _,(hF g).mp hg▸h⟩⟩
theorem bZ.le {F:ae→Prop}{n:Nat}(h:bZ T X ro n t F)(l:Le T T'):bZ T' X ro n t F:=
 h.imp fun a h=>⟨h.1,h.2.1,h.2.2.1,h.2.2.2.1.le l,fun p hp=>(h.2.2.2.2.1 p hp).imp fun f h=>⟨h.1,h.2.le l⟩,fun f hf=>(h.2.2.2.2.2 f hf).imp fun p h=>⟨h.1,h.2.le l⟩⟩
theorem bZ.congr {F F':ae→Prop}{n n':Nat}(h:bZ T X ro n t F)(e:∀f,F f↔F' f)(hn:n≤n'):bZ T X ro n' t F':=
 h.imp fun a h=>⟨ai h.1 hn,h.2.1,h.2.2.1,h.2.2.2.1,fun p hp=>(h.2.2.2.2.1 p hp).imp fun f h=>⟨(e f).mp h.1,h.2⟩,fun f hf=>h.2.2.2.2.2 f ((e f).mpr hf)⟩
theorem bZ.inj {F:ae→Prop}{n n':Nat}(G:aj b T)(h:bZ T X ro n t F)(h':bZ T X ro n' t' F):t=t':=by
 refine h.elim fun a h=>h'.elim fun a' h'=>?_
 have sub:∀{a a':List Int},(∀p∈a,∃f,F f∧cw T X p f ro)→(∀f,F f→∃p∈a',cw T X p f ro)→∀p∈a,p∈a':=
  fun h h' p hp=>(h p hp).elim fun f hf=>(h' f hf.1).elim fun p' hp'=>hf.2.inj G hp'.2▸hp'.1
 have e:a=a':=h.2.2.1.symm.trans ((m8 fun p=>⟨sub h.2.2.2.2.1 h'.2.2.2.2.2 p,sub h'.2.2.2.2.1 h.2.2.2.2.2 p⟩).trans h'.2.2.1)
 exact h.2.2.2.1.inj G (e▸h'.2.2.2.1)
theorem Zs (h:l≠[]):(norm l).length≤l.length:=by
 have hp:1≤l.length:=gx.mpr h
 unfold norm
 by_cases h0:0∈l
 ·rw[if_pos h0];exact hp
 ·rw[if_neg h0]
  by_cases h1:1∈l
  ·rw[if_pos h1];exact hp
  ·rw[if_neg h1,(dy bn _).length_eq];exact Ed l
theorem Zt {q:Q2}{F:ae→Prop}(hr:Lv (m+3) r)(G:aj (b+1) T)(hq:∀x∈q,Un T x.2 x.1)(hp:∀p∈bx q,∃f,F f∧cw T X p f ro)(hf:∀f,F f→∃p∈bx q,cw T X p f ro)(hne:bx q≠[])(hl:(bx q).length<64)
 (k:∀t T',Le T T'→aj b T'→bZ T' X ro (bx q).length t F→K (.d (.int t)) (ob T')):r.call "union" [.o 0,.d (.list (aA (ids q)))] (ob T) K:=by
 have hL:∀p∈bx q,∃x,az T p x∧bY x=true:=fun p h=>(hp p h).elim fun f h=>h.2.list
 refine Ei hr G rfl (fun x hx=>(hq x hx).pt G fun p h=>hL p (Ef hx h)) hne hl (fun p h=>⟨h,(o6 G (hL p h)).2,(hL p h).imp fun x hx=>⟨hx.1,(xU hx.2).2.1,fun z=>?_⟩⟩) fun t T' l G' h=>k t T' l G' ?_
 ·rw[(xU hx.2).2.2] at z
  exact(hL _ z).elim fun y hy=>absurd hy.1.1 (by decide)
 ·have h0:(0:Int)∉bx q:=fun z=>(o6 G (hL _ z)).1.1 rfl
  have h1:(1:Int)∉bx q:=fun z=>(o6 G (hL _ z)).1.2.1 rfl
  exact⟨norm (bx q),Zs hne,Em hne,rq _,h,fun p h=>(hp p (xE h)).imp fun f h=>⟨h.1,h.2.le l⟩,fun f h=>(hf f h).imp fun p h=>⟨(xH h0 h1 p).mpr h.1,h.2.le l⟩⟩
noncomputable def gr (T:List al)(X:List Int)(w:Int×ae):Prop:=(∃h,hG T X w.1 w.2 h)∧w.1≠2∧w.1≠13∧∃x,az T w.1 x∧x.kind≠6
abbrev Er:=(Int×Int)×List ae
noncomputable def cR (T:List al)(X:List Int)(y:Er):Prop:=
 (y.1.2=0∨y.1.2=1∨y.1.2=2)∧(∃a,EK T y.1.1 a∧y.2=[[(a,y.1.2)]])∨
 y.1.2=3∧bE T y.1.1∧((∃c,gr T X (y.1.1,c)∧y.2=[c])∨∃z:List (Int×ae),az T y.1.1 (.union (z.map (·.1)))∧(∀w∈z,gr T X w)∧2≤z.length∧y.2=z.map (·.2))
theorem gr.le {w:Int×ae}(h:gr T X w)(l:Le T T'):gr T' X w:=⟨h.1.imp fun _ h=>h.le l,h.2.1,h.2.2.1,h.2.2.2.imp fun _ h=>⟨h.1.le l,h.2⟩⟩
theorem cR.le {y:Er}(h:cR T X y)(l:Le T T'):cR T' X y:=
 h.imp (fun h=>⟨h.1,h.2.imp fun a h=>⟨h.1.le l,h.2⟩⟩) fun h=>⟨h.1,h.2.1.le l,h.2.2.imp (fun h=>h.imp fun c h=>⟨h.1.le l,h.2⟩) fun h=>h.imp fun z h=>⟨h.1.le l,fun w hw=>(h.2.1 w hw).le l,h.2.2⟩⟩
noncomputable def ax:List (List ae)→List ae
 |[]=>[[]]
 |cs::r=>cs.flatMap fun c=>(ax r).map (c++·)
theorem Zu (cs:List ae)(r:List (List ae)):ax (cs::r)=cs.flatMap fun c=>(ax r).map (c++·):=rfl
theorem fB {cs:List ae}{r:List (List ae)}{f:ae}:f∈ax (cs::r)↔∃c∈cs,∃g∈ax r,f=c++g:=
 jh.trans ⟨fun h=>h.imp fun c h=>⟨h.1,(aS.mp h.2).imp fun g h=>⟨h.1,h.2.symm⟩⟩,fun h=>h.imp fun c h=>⟨h.1,aS.mpr (h.2.imp fun g h=>⟨h.1,h.2.symm⟩)⟩⟩
theorem gu (cs:List ae)(r:List (List ae)):(ax (cs::r)).length=cs.length*(ax r).length:=by
 show (cs.flatMap fun c=>(ax r).map (c++·)).length= _
 induction cs with
 |nil=>exact(Nat.zero_mul _).symm
 |cons c cs ih=>rw[tc,aG,ih,aB,k5,mn,gB]
theorem rP (cs:List ae)(r:List (List ae))(p:List (List ae)):∀f,f∈ax (p++cs::r)↔∃c∈cs,f∈ax (p++[c]::r):=by
 induction p with
 |nil=>exact fun f=>fB.trans ⟨fun h=>h.imp fun c h=>⟨h.1,fB.mpr ⟨c,.head _,h.2⟩⟩,fun h=>h.imp fun c h=>⟨h.1,(fB.mp h.2).elim fun d h=>h.2.imp fun g h'=>⟨h'.1,h'.2.trans (congrArg (·++g) (aM.mp h.1))⟩⟩⟩
 |cons x p ih=>exact fun f=>fB.trans ⟨fun h=>h.elim fun y h=>h.2.elim fun g hg=>((ih g).mp hg.1).imp fun c hc=>⟨hc.1,fB.mpr ⟨y,h.1,g,hc.2,hg.2⟩⟩,fun h=>h.elim fun c h=>(fB.mp h.2).imp fun y hy=>⟨hy.1,hy.2.imp fun g hg=>⟨(ih g).mpr ⟨c,h.1,hg.1⟩,hg.2⟩⟩⟩
theorem rQ (cs:List ae)(c:ae)(r:List (List ae))(p:List (List ae)):(ax (p++cs::r)).length=cs.length*(ax (p++[c]::r)).length:=by
 induction p with
 |nil=>exact(gu cs r).trans (congrArg (cs.length*·) ((gu [c] r).trans (Nat.one_mul _)).symm)
 |cons x p ih=>exact(gu x _).trans ((congrArg (x.length*·) ih).trans ((Nat.mul_left_comm ..).trans (congrArg (cs.length*·) (gu x _).symm)))
theorem Zv {α:Type}(g:α→ae)(q:List α):ax (q.map fun y=>[g y])=[q.flatMap g]:=by
 induction q with
 |nil=>rfl
 |cons y q ih=>show ([g y].flatMap fun c=>(ax (q.map _)).map (c++·))= _;rw[ih];rfl
section
variable {α:Type}{f:α→Int×Int}
noncomputable def bO (f:α→Int×Int)(q:List α):List aa:=q.map fun x=>d4 (f x)
noncomputable def dQ (p:α→Bool):Nat→List α→Int
 | _,[]=> -1
 |i,x::c=>if p x=true then (i:Int) else dQ p (i+1) c
theorem Zw {p:α→Bool}(c:List α):∀i,(∀x∈c,p x=false)→dQ p i c= -1:=by
 induction c with
 |nil=>exact fun _ _=>rfl
 |cons x c ih=>exact fun i h=>(if_neg (by rw[h x (.head _)];exact cT)).trans (ih (i+1) fun y hy=>h y (.tail _ hy))
theorem EU {p:α→Bool}{x:α}{c:List α}(hx:p x=true)(a:List α):∀i,(∀x∈a,p x=false)→dQ p i (a++x::c)=(i+a.length:Nat):=by
 induction a with
 |nil=>exact fun _ _=>if_pos hx
 |cons y a ih=>exact fun i h=>(if_neg (by rw[h y (.head _)];exact cT)).trans ((ih (i+1) fun y hy=>h y (.tail _ hy)).trans (by rw[c9];rfl))
theorem Zx {p:α→Bool}{q:List α}{N:L→O→Prop}{t:PV→O→Prop}(c:List α):∀(i:Nat) (j:Option Slot),q.drop i=c→(∀x∈c,∃y,az T (f x).1 y∧p x=((f x).2==3&&y.kind==6))→
 (0≤dQ p i c→t (.d (.int (dQ p i c))) (ob T))→(dQ p i c= -1→∀j,N [some (.pv (.o 0)),some (.pv (.d (.list (bO f q)))),j] (ob T))→
 ba (ay 2) q7 r N t (fY (gT i c.length)) [some (.pv (.o 0)),some (.pv (.d (.list (bO f q)))),j] (ob T):=by
 induction c with
 |nil=>exact fun i j _ _ _ k=>k rfl j
 |cons x c ih=>
  intro i j h hx k1 k2
  refine(hx x (.head _)).elim fun y hy=>?_
  have next:p x=false→ba (ay 2) q7 r N t (fY (gT (i+1) c.length)) [some (.pv (.o 0)),some (.pv (.d (.list (bO f q)))),some (.pv (.d (.int i)))] (ob T):=fun hp=>by
   have e:dQ p i (x::c)=dQ p (i+1) c:=if_neg (by rw[hp];exact cT)
   rw[e] at k1 k2
   exact ih (i+1) _ (fZ h) (fun y hy=>hx y (.tail _ hy)) k1 k2
  refine ah (jG (i8 h)) ?_
  by_cases h3:(f x).2=3
  ·refine cu h3 (ah (jG (i8 h)) ?_)
   refine ah hy.1.get (ip ?_)
   by_cases h6:y.kind=6
   ·have e:dQ p i (x::c)=i:=if_pos (hy.2.trans (aP.mpr ⟨beq_iff_eq.mpr h3,beq_iff_eq.mpr h6⟩))
    rw[e] at k1
    exact cu h6 (k1 (gy i))
   ·exact bW h6 (next (hy.2.trans (Bool.and_eq_false_iff.mpr (.inr (beq_eq_false_iff_ne.mpr h6)))))
  ·exact bW h3 (next (hy.2.trans (Bool.and_eq_false_iff.mpr (.inl (beq_eq_false_iff_ne.mpr h3)))))
theorem xW {p:α→Bool}{q:List α}(hr:Lv (m+1) r)(hq:∀x∈q,∃y,az T (f x).1 y∧p x=((f x).2==3&&y.kind==6))(hl:q.length≤60000)(k:K (.d (.int (dQ p 0 q))) (ob T)):
 r.call "union_places" [.o 0,.d (.list (bO f q))] (ob T) K:=by
 refine hr.call XL fun r _=>⟨rfl,?_⟩
 refine ah (kE (f:=fun x=>d4 (f x)) hl) ?_
 exact(i9 q.length).symm.subst (motive:=fun z=>ba (ay 2) q7 r _ _ z _ (ob T)) (Zx q 0 none rfl hq (fun _=>k) fun e j=>(e▸k:K (.d (.int (-1))) (ob T)))
open Classical in
noncomputable def fC:List (Int×Int)→Option Int
 |[]=>none
 |e::c=>if e.2=3∧(e.1=2∨e.1=13) then some e.1 else fC c
theorem xX {N:L→O→Prop}{t:PV→O→Prop}{s1 s2 s6 s7:Option Slot}(hr:Lv (m+8) r)(c:List α):∀(xs:List aa) (j:Option Slot),(∀x∈c,(f x).2=3→bE T (f x).1)→xs.length+c.length<aH→
 (∀v,fC (c.map f)=some v→t (.d (.int v)) (ob T))→(fC (c.map f)=none→∀ys j,ys=xs++bO f c→N [some (.pv (.o 1)),s1,s2,some (.pv (.o 0)),some (.lst ys),j,s6,s7] (ob T))→
 ba (ay 5) xg r N t (bO f c) [some (.pv (.o 1)),s1,s2,some (.pv (.o 0)),some (.lst xs),j,s6,s7] (ob T):=by
 induction c with
 |nil=>exact fun xs j _ _ _ k=>k rfl xs j (ck _).symm
 |cons x c ih=>
  intro xs j hs hn k1 k2
  have hn:xs.length+c.length+1<aH:=hn
  have hx:xs.length<aH:=aX (aR _ _) (mi hn)
  have next:∀v j,v=d4 (f x)→¬((f x).2=3∧((f x).1=2∨(f x).1=13))→ba (ay 5) xg r N t (bO f c) [some (.pv (.o 1)),s1,s2,some (.pv (.o 0)),some (.lst (xs++[v])),j,s6,s7] (ob T):=fun v j ev hl=>by
   have e:fC ((x::c).map f)=fC (c.map f):=if_neg hl
   rw[e] at k1 k2
   exact ih _ _ (fun y hy=>hs y (.tail _ hy)) (by rw[aG,c9];exact hn) k1 fun e ys j ey=>k2 e ys j (ey.trans (by rw[ev,cz];rfl))
  by_cases h3:(f x).2=3
  ·refine cu h3 (ET (m:=m) hr (hs x (.head _) h3) ?_)
   by_cases h2:(f x).1=2
   ·exact cu h2 (k1 _ (if_pos ⟨h3,.inl h2⟩))
   ·refine bW h2 ?_
    by_cases h13:(f x).1=13
    ·exact cu h13 (k1 _ (if_pos ⟨h3,.inr h13⟩))
    ·exact bW h13 ⟨hx,next _ _ (h3▸rfl) fun z=>z.2.elim h2 h13⟩
  ·exact bW h3 ⟨hx,next _ _ rfl fun z=>h3 z.1⟩
end
section
variable {α:Type}{f:α→Int×Int}{g:α→ae}
noncomputable def rR (T:List al)(X:List Int)(e:Int×Int)(c:ae):Prop:=(e.2=0∨e.2=1∨e.2=2)∧(∃a,EK T e.1 a∧c=[(a,e.2)])∨e.2=3∧∃h,hG T X e.1 c h
theorem Zy (q q':List El):aW q++aW q'=aW (q++q'):=bJ.symm
theorem Zz {N:L→O→Prop}{t:PV→O→Prop}{s0 s1 s2 s4 s6:Option Slot}(hr:Lv (m+4) r)(c:List α):∀(q:List El) (xs:List aa) (j:Option Slot),xs=aW q→bm T X q→(∀x∈c,rR T X (f x) (g x))→(fm q++c.flatMap g).length≤300→
 (∀q' j,bm T X q'→fm q'=fm q++c.flatMap g→N [s0,s1,s2,some (.pv (.o 0)),s4,j,s6,some (.lst (aW q'))] (ob T))→
 ba (ay 5) xf r N t (bO f c) [s0,s1,s2,some (.pv (.o 0)),s4,j,s6,some (.lst xs)] (ob T):=by
 induction c with
 |nil=>exact fun q xs j e hq _ _ k=>e▸k q j hq (ck _).symm
 |cons x c ih=>
  intro q xs j e hq hc hn k
  have hf:(fm q++(g x++c.flatMap g)).length≤300:=hn
  have hx:xs.length+(g x).length≤300:=by
   rw[aG,aG,←dS,fm,aB] at hf
   rw[e,aW,aB];exact ai (aR _ _) hf
  have next:∀q' j,bm T X q'→fm q'=g x→ba (ay 5) xf r N t (bO f c) [s0,s1,s2,some (.pv (.o 0)),s4,j,s6,some (.lst (xs++aW q'))] (ob T):=fun q' j hq' e'=>by
   have ef:fm (q++q')=fm q++g x:=lQ.trans (congrArg _ e')
   refine ih (q++q') _ j (e▸Zy q q') (eG.mpr ⟨hq,hq'⟩) (fun y hy=>hc y (.tail _ hy)) (by rw[ef,cz];exact hf) fun q2 j h2 e2=>k q2 j h2 (e2.trans (ef▸cz ..))
  refine(hc x (.head _)).elim (fun h=>h.2.elim fun a ha=>?_) fun h=>h.2.elim fun p hp=>?_
  ·have h3:(f x).2≠3:=fun z=>by rcases h.1 with w|w|w<;>exact absurd (z.symm.trans w) (by decide)
   have hx:xs.length+1≤300:=(congrArg (fun z:ae=>xs.length+z.length) ha.2)▸hx
   refine bW h3 ⟨hH (ai (dI _) hx) (by decide),?_⟩
   exact kC (eX.mpr (by rw[aG];exact ai hx (by decide))) (next [((f x).1,a,(f x).2)] _ (fun y hy=>aM.mp hy▸ .inl ⟨h.1,ha.1⟩) ha.2.symm)
  ·have hl:(g x).length≤300:=ai (gc _ _) hx
   have call:=fun {K}=>EL (K:=K) hr hp (ai hl (by decide))
   rw[←h.1] at call
   refine cu h.1 (call fun q' hq' e'=>?_)
   have hx:xs.length+(aW q').length≤300:=by rw[aW,aB,iu e'];exact hx
   refine⟨hH hx (by decide),?_⟩
   exact kC (eX.mpr (by rw[aG];exact ai hx (by decide))) (next q' _ hq' e')
theorem EV {q:List α}(hr:Lv (m+9) r)(G:aj (b+100) T)(hs:∀x∈q,(f x).2=3→bE T (f x).1)(hl:fC (q.map f)=none)(hp:∀x∈q,∃y,az T (f x).1 y∧((f x).2=3→y.kind≠6))(ho:∀x∈q,rR T X (f x) (g x))(hn:q.length≤300)(hL:(q.flatMap g).length≤49)
 (k:∀t T',Le T T'→aj b T'→cw T' X t (cv (q.flatMap g)) ro→K (.d (.int t)) (ob T')):r.call "splice" [.o 1,.d (.list (bO f q)),.d (.int ro)] (ob T) K:=by
 refine hr.call xv fun r hr=>⟨rfl,?_⟩
 refine xX (m:=m) hr q [] none hs ((bQ _).symm▸hH hn (by decide)) (fun v e=>nn (hl.symm.trans e)) fun _ ys j e=>?_
 have e:ys=bO f q:=e
 subst e
 refine xW (m:=m+7) (p:=fun _=>false) hr (fun x hx=>(hp x hx).imp fun y hy=>⟨hy.1,(Bool.and_eq_false_iff.mpr ?_).symm⟩) (ai hn (by decide)) ?_
 ·by_cases h3:(f x).2=3
  ·exact .inr (beq_eq_false_iff_ne.mpr (hy.2 h3))
  ·exact .inl (beq_eq_false_iff_ne.mpr h3)
 rw[Zw q 0 fun _ _=>rfl]
 refine Zz (m:=m+4) hr q [] [] _ rfl (fun _ h=>(aJ h).elim) ho (ai hL (by decide)) fun q' j hq' e=>?_
 have e:fm q'=q.flatMap g:=e
 have hl':q'.length≤49:=(iu e).symm▸hL
 exact Y3 (m:=m+1) hr (G.mono (by rw[dS,dS,dS];exact cy (cy (cy (n4 hl' hl') 1) 1) b)) hq' (ai hl' (by decide)) fun t T' l G' h=>k t T' l G' (e▸h)
end
abbrev aO (q:List Er):List (List ae):=q.map (·.2)
noncomputable abbrev lT (q:List Er):aa:=.list (bO (·.1) q)
noncomputable def FS (c:List (List ae))(f:ae):Prop:=∃g∈ax c,f=cv g
theorem ZA (cs:List ae)(c1 c2:List (List ae))(f:ae):FS (c1++cs::c2) f↔∃c∈cs,FS (c1++[c]::c2) f:=
 ⟨fun h=>h.elim fun g h=>((rP cs c2 c1 g).mp h.1).imp fun c hc=>⟨hc.1,g,hc.2,h.2⟩,fun h=>h.elim fun c h=>h.2.imp fun g hg=>⟨(rP cs c2 c1 g).mpr ⟨c,h.1,hg.1⟩,hg.2⟩⟩
theorem ZB {h:Q2}:bx (h++[(t,a)])=bx h++a:=List.flatMap_append.trans (congrArg _ (ck a))
theorem ZC {q1 q2:List Er}{y:Er}{C n:Nat}{F:ae→ae→Prop}{N:L→O→Prop}{q:PV→O→Prop}{T0:List al}{P:Int×ae→Prop}{i:Int}(hi:i=q1.length)(hl:q1.length+(1+q2.length)≤300)
 (S:∀w:Int×ae,P w→∀{b T K},Le T0 T→aj (b+C) T→(∀t T',Le T T'→aj b T'→bZ T' X ro n t (F w.2)→K (.d (.int t)) (ob T'))→r.call "splice" [.o 1,.d (lT (q1++((w.1,3),[w.2])::q2)),.d (.int ro)] (ob T) K)
 (c:List (Int×ae)):∀{b T} (h:Q2) (xs:List aa) (j6 j7:Option Slot),xs=aA (ids h)→Le T0 T→aj (b+c.length*C) T→(∀w∈c,P w)→(∀x∈h,Un T x.2 x.1)→xs.length+c.length<aH→
 (∀T' h' j6 j7,Le T T'→aj b T'→(∀x∈h',Un T' x.2 x.1)→(bx h').length≤(bx h).length+c.length*n→(∀p∈bx h',p∈bx h∨∃w∈c,∃f,F w.2 f∧cw T' X p f ro)→(∀p∈bx h,p∈bx h')→(∀w∈c,∀f,F w.2 f→∃p∈bx h',cw T' X p f ro)→
  N [some (.pv (.o 1)),some (.pv (.d (lT (q1++y::q2)))),some (.pv (.d (.int i))),some (.pv (.d (.int ro))),some (.pv (.o 0)),some (.lst (aA (ids h'))),j6,j7] (ob T'))→
 ba (ay 6) Dk r N q (aA (c.map (·.1))) [some (.pv (.o 1)),some (.pv (.d (lT (q1++y::q2)))),some (.pv (.d (.int i))),some (.pv (.d (.int ro))),some (.pv (.o 0)),some (.lst xs),j6,j7] (ob T):=by
 induction c with
 |nil=>exact fun {b T} h xs j6 j7 e l G _ hh _ k=>e▸k T h j6 j7 (.refl T) (G.mono (aR _ _)) hh (aR _ _) (fun p hp=>.inl hp) (fun p hp=>hp) fun w hw=>(aJ hw).elim
 |cons w c ih=>
  intro b T h xs j6 j7 e l G hc hh hn k
  have hn:xs.length+c.length+1<aH:=hn
  have hx:xs.length<aH:=aX (aR _ _) (mi hn)
  rw[k5,mn,←dS] at G
  have h1:(bO (·.1) q1).length+(1+(bO (·.1) q2).length)≤aH:=by rw[bO,bO,aB,aB];exact ai hl (by decide)
  have h2:i+1=(q1++[y]).length:=by rw[aG,hi];rfl
  have e3:bO (·.1) q1++[d4 (w.1,3)]++bO (·.1) q2=bO (·.1) (q1++((w.1,3),[w.2])::q2):=by rw[bO,bO,bO,bJ,cz];rfl
  refine ah (rB (f:=fun x:Er=>d4 x.1) hi) ?_
  refine ah rfl (ah (lP (ai (cy (aR 1 _) _) h1)) (ah rfl (ah ((congrArg (fun l=>ll (.list (bO (fun x:Er=>x.1) l)) (some (i+1)) none) (List.append_cons q1 y q2)).trans (rC (f:=fun x:Er=>d4 x.1) h2)) (ah rfl (ah ((lP ?_).trans (congrArg (fun l=>some (jm l)) e3)) ?_)))))
  ·rw[aG,dS];exact h1
  refine S w (hc w (.head _)) l G fun t T' l' G' R=>⟨hx,?_⟩
  refine R.elim fun a R=>ih (h++[(t,a)]) _ _ _ (by rw[e];unfold aA ids;rw[bJ,bJ];rfl) (l.trans l') G' (fun w hw=>hc w (.tail _ hw)) (ja (fun x hx=>(hh x hx).le l') R.2.2.2.1) (by rw[aG,c9];exact hn) fun T2 h' j6 j7 l2 G2 g1 g2 g3 g4 g5=>k T2 h' j6 j7 (l'.trans l2) G2 g1 ?_ ?_ ?_ ?_
  all_goals rw[ZB] at*
  ·rw[aG] at g2
   rw[k5,mn]
   exact ai g2 (by rw[dS,gB (c.length*n)];exact cy (je R.1 _) _)
  ·exact fun p hp=>(g3 p hp).elim (fun h=>(cY.mp h).imp id fun h=>⟨w,.head _,(R.2.2.2.2.1 p h).imp fun f hf=>⟨hf.1,hf.2.le l2⟩⟩) fun h=>.inr (h.imp fun w h=>⟨.tail _ h.1,h.2⟩)
  ·exact fun p hp=>g4 p (cS _ hp)
  ·exact cx.mpr ⟨fun f hf=>(R.2.2.2.2.2 f hf).imp fun p hp=>⟨g4 p (cH _ hp.1),hp.2.le l2⟩,g5⟩
theorem EW {q1 q2:List Er}{y:Er}{z:List (Int×ae)}{C n:Nat}{i:Int}{M:Nat}(hM:3≤M)(hr:Lv (M+1) r)(hi:i=q1.length)(hl:q1.length+(1+q2.length)≤300)(hu:az T y.1.1 (.union (z.map (·.1))))(hy:y.2=z.map (·.2))(h0:z≠[])(hz6:z.length≤6)(hn:z.length*n<64)(hne:∀c,ax (aO q1++[c]::aO q2)≠[])
 (S:∀{r},Lv M r→∀w:Int×ae,w∈z→∀{b T' K},Le T T'→aj (b+C) T'→(∀t T2,Le T' T2→aj b T2→bZ T2 X ro n t (FS (aO q1++[w.2]::aO q2))→K (.d (.int t)) (ob T2))→r.call "splice" [.o 1,.d (lT (q1++((w.1,3),[w.2])::q2)),.d (.int ro)] (ob T') K)
 (G:aj (b+1+z.length*C) T) (k:∀t T',Le T T'→aj b T'→bZ T' X ro (z.length*n) t (FS (aO (q1++y::q2)))→K (.d (.int t)) (ob T')):
 r.call "splice_union" [.o 1,.d (lT (q1++y::q2)),.d (.int i),.d (.int ro)] (ob T) K:=by
 refine hr.call XQ fun r hr=>⟨rfl,?_⟩
 have hg:cU (bO (fun x:Er=>x.1) (q1++y::q2)) i=some (d4 y.1):=hi▸jG (f:=fun x:Er=>d4 x.1) ((List.getElem?_append_right (aT _)).trans (by rw[Nat.sub_self];rfl))
 refine ah hg ?_
 refine ah hu.get ?_
 refine ZC (F:=fun c=>FS (aO q1++[c]::aO q2)) hi hl (S hr) z [] [] none none rfl (.refl T) G (fun w hw=>hw) (fun _ h=>(aJ h).elim) ?_ fun T1 h j6 j7 l1 G1 g1 g2 g3 _ g5=>?_
 ·exact aX (ai (bg (bQ _)) hz6) (by decide)
 have e:aO (q1++y::q2)=aO q1++z.map (·.2)::aO q2:=bJ.trans (congrArg (fun c=>aO q1++c::aO q2) hy)
 have g2:(bx h).length≤z.length*n:=ai g2 (bg (bQ _))
 rw[e] at k
 have hF:∀f,FS (aO q1++z.map (·.2)::aO q2) f↔∃w∈z,FS (aO q1++[w.2]::aO q2) f:=fun f=>(ZA _ _ _ f).trans ⟨fun h=>h.elim fun c h=>(aS.mp h.1).elim fun w hw=>⟨w,hw.1,hw.2▸h.2⟩,fun h=>h.elim fun w h=>⟨w.2,aS.mpr ⟨w,h.1,rfl⟩,h.2⟩⟩
 refine Zt (m:=0) (hr.of hM) G1 g1 (fun p hp=>(g3 p hp).elim (fun h=>(aJ h).elim) fun h=>h.elim fun w h=>h.2.imp fun f hf=>⟨(hF f).mpr ⟨w,h.1,hf.1⟩,hf.2⟩) (fun f hf=>((hF f).mp hf).elim fun w h=>g5 w h.1 f h.2) ?_ (aX g2 hn) fun t T' l G' R=>k t T' (l1.trans l) G' (R.congr (fun _=>iI) g2)
 exact(nO z h0).elim fun w hw=>(nO _ (hne w.2)).elim fun f hf=>(g5 w hw _ ⟨f,hf,rfl⟩).elim fun p hp=>List.ne_nil_of_mem hp.1
noncomputable def cL (y:Er):Bool:=gE 2 y.2.length
noncomputable def cnt (q:List Er):Nat:=(q.filter cL).length
noncomputable def bP:Nat→Nat
 |0=>100
 |u+1=>6*bP u+1
theorem EX {y:Er}{q:List Er}(h:cL y=true):cnt (y::q)=cnt q+1:=congrArg cI (List.filter_cons_of_pos h)
theorem EY {y:Er}{q:List Er}(h:cL y=false):cnt (y::q)=cnt q:=congrArg cI (List.filter_cons_of_neg (by rw[h];exact cT))
theorem cR.row {y:Er}(G:aj b T)(h:cR T X y):∃x,az T y.1.1 x∧cL y=(y.1.2==3&&x.kind==6):=by
 refine h.elim (fun h=>h.2.elim fun a ha=>?_) fun h=>h.2.2.elim (fun h'=>h'.elim fun c hc=>hc.1.2.2.2.imp fun x hx=>⟨hx.1,?_⟩) fun h'=>h'.elim fun z hz=>⟨_,hz.1,?_⟩
 ·have h3:(y.1.2==3)=false:=beq_eq_false_iff_ne.mpr fun z=>by rcases h.1 with w|w|w<;>exact absurd (z.symm.trans w) (by decide)
  rw[h3,cL,ha.2]
  rcases(ha.1.pt G).2 with u|⟨_,x,u,_⟩
  ·exact⟨_,u,rfl⟩
  ·exact⟨x,u,rfl⟩
 ·rw[cL,hc.2,beq_eq_false_iff_ne.mpr hx.2,Bool.and_false];rfl
 ·rw[cL,hz.2.2.2,aB,h.1];exact Nat.ble_eq_true_of_le hz.2.2.1
theorem cR.small {y:Er}(h:cR T X y)(h3:y.1.2=3):bE T y.1.1:=h.elim (fun h=>by rcases h.1 with w|w|w<;>exact absurd (h3.symm.trans w) (by decide)) fun h=>h.2.1
theorem cR.ne {y:Er}(G:aj b T)(h:cR T X y):¬(y.1.2=3∧(y.1.1=2∨y.1.1=13)):=fun z=>
 h.elim (fun h=>by rcases h.1 with w|w|w<;>exact absurd (z.1.symm.trans w) (by decide)) fun h=>h.2.2.elim (fun h=>h.elim fun c h=>z.2.elim h.1.2.1 h.1.2.2.1) fun h=>h.elim fun w h=>z.2.elim
  (fun e=>al.noConfusion ((e▸h.1).fn (G.le (x:=.key "never") ⟨by decide,rfl⟩))) fun e=>al.noConfusion ((e▸h.1).fn (G.le (x:=.key "error") ⟨by decide,rfl⟩))
theorem EZ {q:List Er}(G:aj b T)(h:∀y∈q,cR T X y):fC (q.map (·.1))=none:=by
 induction q with
 |nil=>rfl
 |cons y q ih=>exact(if_neg ((h y (.head _)).ne G)).trans (ih fun z hz=>h z (.tail _ hz))
theorem cR.one {y:Er}{c:ae}(h:cR T X y)(e:y.2=[c]):rR T X y.1 c:=
 h.imp (fun h=>⟨h.1,h.2.imp fun a h=>⟨h.1,(eH (e.symm.trans h.2)).1⟩⟩) fun h=>⟨h.1,h.2.2.elim (fun h=>h.elim fun d h=>(eH (e.symm.trans h.2)).1▸h.1.1) fun h=>h.elim fun z h=>have w:z.length=1:=(aB ..).symm.trans (congrArg cI (h.2.2.2.symm.trans e));absurd (w▸h.2.2.1:2≤1) (by decide)⟩
theorem E0 {p:Int}{ps:List Int}(h:bE T t)(hr:az T t (.union ps))(hp:p∈ps):bE T p:=
 h.imp fun C h=>⟨h.1,h.2.1,(h.1 t h.2.2).elim fun x hx=>hx.2.2 p (hx.1.fn hr▸hp)⟩
theorem ZD {q:List Er}(h:∀y∈q,y.2.length=1):aO q=q.map fun y=>[y.2.headD []]:=
 me fun y hy=>by
  have:=h y hy
  generalize y.2=c at this
  match c,this with
  |[c],_=>rfl
theorem nh {q1 q2:List Er}{y:Er}:(q1++y::q2).length=q1.length+(1+q2.length):=aG.trans (congrArg _ (gB _ _))
theorem E1 {q:List Er}(hr:Lv (m+9) r)(G:aj (b+100) T)(h:∀y∈q,cR T X y)(h1:∀y∈q,y.2.length=1)(hl:q.length≤300)(hL:∀f∈ax (aO q),f.length≤49)
 (k:∀t T',Le T T'→aj b T'→bZ T' X ro (ax (aO q)).length t (FS (aO q))→K (.d (.int t)) (ob T')):r.call "splice" [.o 1,.d (lT q),.d (.int ro)] (ob T) K:=by
 have e:ax (aO q)=[q.flatMap fun y=>y.2.headD []]:=(congrArg ax (ZD h1)).trans (Zv _ _)
 have hF:∀f,FS (aO q) f↔f=cv (q.flatMap fun y=>y.2.headD []):=fun f=>by
  unfold FS;rw[e];exact⟨fun h=>h.elim fun g h=>aM.mp h.1▸h.2,fun h=>⟨_,.head _,h⟩⟩
 rw[e] at hL k
 refine EV (f:=fun y:Er=>y.1) (g:=fun y=>y.2.headD []) (X:=X) hr G (fun y hy=>(h y hy).small) (EZ G h) (fun y hy=>((h y hy).row G).imp fun x hx=>⟨hx.1,fun h3 h6=>?_⟩) (fun y hy=>(h y hy).one ?_) hl (hL _ (.head _)) fun t T' l G' M=>k t T' l G' (.one M hF (aT _))
 ·have:=hx.2
  rw[h3,h6,cL,h1 y hy] at this
  exact k7 this
 ·have:=h1 y hy
  generalize y.2=c at this
  match c,this with
  |[c],_=>rfl
theorem ni {q1 q2:List Er}{y:Er}:aO (q1++y::q2)=aO q1++y.2::aO q2:=bJ
theorem cR.len {y:Er}(h:cR T X y)(hu:cL y=false):y.2.length=1:=
 h.elim (fun h=>h.2.elim fun a h=>congrArg cI h.2) fun h=>h.2.2.elim (fun h=>h.elim fun c h=>congrArg cI h.2) fun h=>h.elim fun z h=>by
  rw[cL,h.2.2.2,aB,Nat.ble_eq_true_of_le h.2.2.1] at hu;exact k7 hu
theorem cR.un {y:Er}(h:cR T X y)(hu:cL y=true):y.1.2=3∧bE T y.1.1∧∃z:List (Int×ae),az T y.1.1 (.union (z.map (·.1)))∧(∀w∈z,gr T X w)∧2≤z.length∧y.2=z.map (·.2):=
 h.elim (fun h=>h.2.elim fun a h=>by rw[cL,h.2] at hu;exact k7 hu) fun h=>⟨h.1,h.2.1,h.2.2.resolve_left fun h=>h.elim fun c h=>by rw[cL,h.2] at hu;exact k7 hu⟩
theorem E2 (q2:List Er):∀(q1:List Er) {r m b T K},Lv (m+9+2*cnt q2) r→aj (b+bP (cnt q2)) T→(∀y∈q1,cR T X y)→(∀y∈q1,y.2.length=1)→(∀y∈q2,cR T X y)→(q1++q2).length≤300→(∀f∈ax (aO (q1++q2)),f.length≤49)→1≤(ax (aO (q1++q2))).length→(ax (aO (q1++q2))).length≤6→
 (∀t T',Le T T'→aj b T'→bZ T' X ro (ax (aO (q1++q2))).length t (FS (aO (q1++q2)))→K (.d (.int t)) (ob T'))→r.call "splice" [.o 1,.d (lT (q1++q2)),.d (.int ro)] (ob T) K:=by
 induction q2 with
 |nil=>
  intro q1 r m b T K hr G h h1 _ hl hL _ _ k
  rw[ck] at hl hL k ⊢
  exact E1 hr G h h1 hl hL k
 |cons y q2 ih=>
  intro q1 r m b T K hr G h h1 h2 hl hL k1 k6 k
  have hy:=h2 y (.head _)
  have h2':∀z∈q2,cR T X z:=fun z hz=>h2 z (.tail _ hz)
  by_cases hu:cL y=true
  ·refine(hy.un hu).2.2.elim fun z hz=>?_
   have hrow:∀x∈q1++y::q2,cR T X x:=eG.mpr ⟨h,h2⟩
   rw[EX hu] at hr G
   have hk:(ax (aO (q1++y::q2))).length=z.length*(ax (aO q1++[[]]::aO q2)).length:=by
    rw[ni,rQ y.2 [] (aO q2) (aO q1),hz.2.2.2,aB]
   have hone:∀c:ae,(ax (aO q1++[c]::aO q2)).length=(ax (aO q1++[[]]::aO q2)).length:=fun c=>(rQ [c] [] _ _).trans (Nat.one_mul _)
   have hmem:∀w∈z,∀f∈ax (aO q1++[w.2]::aO q2),f∈ax (aO (q1++y::q2)):=fun w hw f hf=>by
    rw[ni];exact(rP y.2 _ _ f).mpr ⟨w.2,hz.2.2.2▸aS.mpr ⟨w,hw,rfl⟩,hf⟩
   rw[hk] at k1 k6 k
   generalize (ax (aO q1++[[]]::aO q2)).length=n at*
   have hn:1≤n:=Nat.pos_of_ne_zero fun e=>absurd k1 (by rw[e];exact sO 0)
   have hz6:z.length≤6:=ai (yU _ hn) k6
   have hz0:z≠[]:=fun e=>absurd hz.2.2.1 (by rw[e];exact sO 1)
   refine hr.call xv fun r hr=>⟨rfl,?_⟩
   refine xX (m:=0) (f:=fun y:Er=>y.1) (hr.of (ai (gc 8 (m+1)) (aR (m+9) _))) (q1++y::q2) [] none (fun x hx=>(hrow x hx).small) (aX (ai (bg (bQ _)) hl) (by decide)) (fun v e=>nn ((EZ G hrow).symm.trans e)) fun _ ys j e=>?_
   have e:ys=bO (fun y:Er=>y.1) (q1++y::q2):=e
   subst e
   refine xW (m:=0) (p:=cL) (f:=fun y:Er=>y.1) (hr.of (ai (gc 1 (m+8)) (aR (m+9) _))) (fun x hx=>(hrow x hx).row G) (ai hl (by decide)) ?_
   have e:dQ cL 0 (q1++y::q2)=q1.length:=(EU hu q1 0 fun x hx=>by rw[cL,h1 x hx];rfl).trans (congrArg Nat.cast (bQ _))
   generalize dQ cL 0 (q1++y::q2)=i at e
   refine o5 (e▸gy _) ?_
   refine EW (M:=m+9+2*cnt q2) (C:=bP (cnt q2)) (n:=n) (ai (gc 3 (m+6)) (aR (m+9) _)) hr e (nh▸hl) hz.1 hz.2.2.2 hz0 hz6 (aX k6 (by decide)) (fun c e=>absurd ((congrArg cI e).symm.trans (hone c)) (dT hn)) (fun {r} hr w hw {b T' K} l G k=>?_) (G.mono ?_) k
   ·have hw':=hz.2.1 w hw
    have:=ih (q1++[((w.1,3),[w.2])]) (T:=T') (K:=K) hr G (ja (fun x hx=>(h x hx).le l) (.inr ⟨rfl,(E0 (hy.un hu).2.1 hz.1 (aS.mpr ⟨w,hw,rfl⟩)).le l,.inl ⟨w.2,hw'.le l,rfl⟩⟩)) (ja h1 rfl) (fun x hx=>(h2' x hx).le l)
    rw[←List.append_cons,ni,hone w.2] at this
    exact this (nh▸nh (y:=y)▸hl) (fun f hf=>hL f (hmem w hw f hf)) hn (ai (Nat.le_mul_of_pos_left _ (mi hz.2.2.1)) k6) k
   ·exact ai (cy (y1 _ hz6) _) (bg (by rw[dS,gB 1];rfl))
  ·have hu:=gz.mpr hu
   rw[EY hu] at hr G
   rw[List.append_cons] at hl hL k k1 k6 ⊢
   exact ih (q1++[y]) hr G (ja h hy) (ja h1 (hy.len hu)) h2' hl hL k1 k6 k
theorem E3 {α:Type}{f:α→Int×Int}{q:List α}{v:Int}(hr:Lv (m+9) r)(hs:∀x∈q,(f x).2=3→bE T (f x).1)(hn:q.length≤300)(hl:fC (q.map f)=some v)(k:K (.d (.int v)) (ob T)):r.call "splice" [.o 1,.d (.list (bO f q)),.d (.int ro)] (ob T) K:=
 hr.call xv fun r hr=>⟨rfl,xX (m:=m) hr q [] none hs ((bQ _).symm▸hH hn (by decide)) (fun w e=>a8 (hl.symm.trans e)▸k) fun e=>nn (e.symm.trans hl)⟩
noncomputable def be (a:List Int):aa:=.tuple (aA a)
noncomputable def ce (f:ae):aa:=.list (f.map dw)
theorem rS {g:List Int}{k:Int}{A B:Prop}(h:k∈g)(x:A):am (dv (.pv (.d (.list (aA g)))) (.int k)) fun b=>Br b A B:=ah (rs g k) (fy (decide_eq_true h) x)
theorem rT {g:List Int}{k:Int}{A B:Prop}(h:k∉g)(x:B):am (dv (.pv (.d (.list (aA g)))) (.int k)) fun b=>Br b A B:=ah (rs g k) (fX (decide_eq_false h) x)
theorem E4 (a l:List Int):aA a++aA l=aA (a++l):=bJ.symm
theorem E5 (h:(a++l).length≤aH):ie .Add (.list (aA a)) (.list (aA l))=some (.list (aA (a++l))):=by
 refine(lP ?_).trans (congrArg (fun l=>some (jm l)) (E4 a l))
 rw[←aG,E4,aA,aB];exact h
theorem ZE (h:l.length<4000)(h2:(b0 l).length<64):j9 (aA l)=some (aA (a9 bn (b0 l))):=by
 unfold j9;rw[show iL (aA l)=some l from kB (en:=bv) (fun _=>rfl) l];exact if_pos ⟨h,h2⟩
theorem ZF {n:L→O→Prop}{t:PV→O→Prop}{s:Option Slot}(c:List (List Int)):∀(acc:List Int) (j:Option Slot),(acc++c.flatten).length<4000→(∀j,n [s,some (.pv (.d (.list (aA (acc++c.flatten))))),j] o)→
 ba (ay 2) Dl r n t (c.map be) [s,some (.pv (.d (.list (aA acc)))),j] o:=by
 induction c with
 |nil=>exact fun acc j _ k=>(ck acc).subst (motive:=fun z=>n [s,some (.pv (.d (.list (aA z)))),j] o) (k j)
 |cons a c ih=>
  intro acc j hl k
  rw[List.flatten_cons,←cz] at hl k
  refine ah (E5 (ai (aG (as:=acc++a)▸aR _ _:(acc++a).length≤(acc++a++c.flatten).length) (ai (eW hl) (by decide)))) (ih _ _ hl k)
theorem xY {as:List (List Int)}(hr:Lv (m+1) r)(hne:as≠[])(h:∀x∈as.flatten,x∈dE)(hl:as.flatten.length<4000)(k:K (.d (be (norm as.flatten))) o):r.call "_law_join" [.d (.list (as.map be))] o K:=by
 refine hr.call XU fun r _=>⟨rfl,?_⟩
 cases as with
 |nil=>exact absurd rfl hne
 |cons a c=>
  refine ah (E5 (a:=[]) (ai (aG▸aR _ _:a.length≤(a++c.flatten).length) (ai (eW hl) (by decide)))) (ZF c a _ hl fun j=>?_)
  have k:K (.d (be (norm (a++c.flatten)))) o:=k
  by_cases h0:0∈a++c.flatten
  ·rw[kD h0] at k;exact rS h0 k
  ·refine rT h0 ?_
   by_cases h1:1∈a++c.flatten
   ·rw[m9 h0 h1] at k;exact rS h1 k
   ·rw[show norm (a++c.flatten)= _ from(if_neg h0).trans (if_neg h1)] at k
    refine rT h1 ?_
    exact ah (ZE hl (aX (rp _ (B:=dE) (i6 _) fun x hx=>h x (g9.mp hx)) (by decide))) k
noncomputable def en (f:ae):List aa:=f.map dw
theorem nj (f g:ae):en f++en g=en (f++g):=bJ.symm
theorem hJ (f:ae):(en f).length=f.length:=aB ..
theorem E6 {xs ys:List aa}{y:aa}(e:xs=ys++[y]):cU xs (-1)=some y:=by
 subst e
 have h:(-1:Int)+((ys++[y]).length:Int)=(ys.length:Int):=by rw[aG,y0];omega
 unfold cU
 rw[if_neg (by decide),h,if_pos (gy _),iD];exact List.getElem?_concat_length
theorem kJ {a c:Int}{A B:Prop}(h:c<a)(x:A):am (dg .Gt (.int a) (.int c)) fun b=>Br b A B:=fy (decide_eq_true h) x
theorem ZG {a c:Int}{A B:Prop}(h:a≠c)(x:A):am (dg .NotEq (.int a) (.int c)) fun b=>Br b A B:=by
 refine ah (a:=true) ?_ x
 show some (!decide (a=c))= _;rw[decide_eq_false h];rfl
theorem jK {a c:Int}{A B:Prop}(h:a=c)(x:B):am (dg .NotEq (.int a) (.int c)) fun b=>Br b A B:=by
 refine ah (a:=false) ?_ x
 show some (!decide (a=c))= _;rw[decide_eq_true h];rfl
theorem nq {f g:ae}(h:f.length+g.length≤600):ie .Add (.list (en f)) (.list (en g))=some (.list (en (f++g))):=
 (lP (by rw[hJ,hJ];exact ai h (by decide))).trans (congrArg (fun l=>some (jm l)) (nj f g))
theorem ZH {n:L→O→Prop}{t:PV→O→Prop}{s0 s1 s2 s5 s6 s7 s8:Option Slot}(l:ae):∀(B:ae) (xs:List aa) (s:Slot),xs=en l.reverse→still s=some (.d (.list (en B)))→l.length+B.length≤300→
 (∀s,still s=some (.d (.list (en ((l.takeWhile ir).reverse++B))))→n [s0,s1,s2,some (.lst (en (l.dropWhile ir).reverse)),some s,s5,s6,s7,s8] o)→
 kh (dz (av .Gt (bT (Pl.g (.n 3))) (eC (.int 0))) (av .Eq (bq (ao (.n 3) (dX (eC (.int 1)))) (eC (.int 1))) (eC (.int 0)))) Do r n t (l.length+1) [s0,s1,s2,some (.lst xs),some s,s5,s6,s7,s8] o:=by
 induction l with
 |nil=>exact fun B xs s e hs _ k=>by subst e;exact k s hs
 |cons x l ih=>
  intro B xs s e hs hl k
  have e':xs=en l.reverse++[dw x]:=e.trans ((congrArg en List.reverse_cons).trans (nj l.reverse [x]).symm)
  have ne:xs≠[]:=e'▸Hb _ (cX _ _)
  refine kJ (ib.mpr (gx.mpr ne)) (ah (E6 e') ?_)
  rw[y4,sQ] at k
  by_cases hz:ir x=true
  ·rw[if_pos hz,if_pos hz,List.reverse_cons,cz] at k
   refine cu (aN hz) ⟨ne,?_⟩
   rw[show xs.dropLast=en l.reverse from e'▸List.dropLast_concat,show xs.getLastD .none=dw x from e'▸List.getLastD_concat]
   have hl:l.length+(x::B).length≤300:=by rw[k5,←dS,c9];exact hl
   refine ah rfl (ah rfl ?_)
   refine ah rfl (ah hs (ah rfl (ah (nq (f:=[x]) (ai (ai (bg (gB 1 _)) (gc _ l.length)) (ai hl (by decide)))) ?_)))
   exact ih (x::B) _ _ rfl rfl hl k
  ·rw[if_neg hz,if_neg hz] at k
   exact bW (fun z=>hz (beq_iff_eq.mpr z)) (e▸k s hs)
theorem ZI {n:L→O→Prop}{t:PV→O→Prop}{s0 s1 s2 s4 s6 s7 s8:Option Slot}(c:ae):∀(F:ae) (xs:List aa),xs=en F→F.length+c.length≤300→
 n [s0,s1,s2,some (.lst (en (c.dropWhile n2))),s4,some (.lst (en (F++c.takeWhile n2))),s6,s7,s8] o→
 kh (dz (av .Gt (bT (Pl.g (.n 3))) (eC (.int 0))) (av .NotEq (bq (ao (.n 3) (eC (.int 0))) (eC (.int 1))) (eC (.int 2)))) (sE (cB (.n 5) (p8 (.n 3)))) r n t (c.length+1) [s0,s1,s2,some (.lst (en c)),s4,some (.lst xs),s6,s7,s8] o:=by
 induction c with
 |nil=>exact fun F xs e _ k=>e▸(ck F).subst (motive:=fun z=>n [s0,s1,s2,some (.lst []),s4,some (.lst (en z)),s6,s7,s8] o) k
 |cons x c ih=>
  intro F xs e hl k
  rw[y4,sQ] at k
  refine kJ (ib.mpr (Nat.succ_pos (en c).length)) ?_
  by_cases h2:x.2=2
  ·have hz:¬n2 x=true:=fun z=>bne_iff_ne.mp z h2
   rw[if_neg hz,if_neg hz,ck] at k
   exact jK h2 (e▸k)
  ·have hz:n2 x=true:=bne_iff_ne.mpr h2
   rw[if_pos hz,if_pos hz,List.append_cons] at k
   have hl':(F++[x]).length+c.length≤300:=by rw[aG,c9];exact hl
   refine ZG h2 ⟨cX _ _,⟨?_,ih (F++[x]) _ (e▸nj F [x]) hl' k⟩⟩
   rw[e,hJ];exact aX (ai (aR _ _) hl) (by decide)
theorem dO.len (h:dO a):a.length≤7:=by
 refine rp a (B:=dE) (h.2.2▸?_) h.2.1
 unfold Mine.V.norm
 by_cases h0:0∈a
 ·rw[if_pos h0];exact eU.mpr ⟨aJ,.nil⟩
 ·rw[if_neg h0]
  by_cases h1:1∈a
  ·rw[if_pos h1];exact eU.mpr ⟨aJ,.nil⟩
  ·rw[if_neg h1];exact(dy bn _).nodup_iff.mpr (i6 a)
noncomputable def bu (f:ae):Prop:=∀x∈f,(x.2=0∨x.2=1∨x.2=2)∧dO x.1∨x.2=3
theorem bu.at {f:ae}{x:List Int×Int}(h:bu f)(hx:x∈f)(h3:x.2≠3):dO x.1:=((h x hx).resolve_right h3).2
theorem E8 {s:Slot}{xs:List aa}(h:still s=some (.d (.list xs))):s= .pv (.d (.list xs))∨s= .lst xs:=by
 cases s with
 |pv p=>exact .inl (congrArg Slot.pv (a8 h))
 |lst ys=>exact .inr (congrArg Slot.lst (a8 (congrArg (fun p:Option PV=>(p.bind j8).bind lj) h)))
 |dct k=>exact nn (congrArg (fun p:Option PV=>p.bind j8) h)
 |tdct k=>exact nn h
theorem ZJ {s:Slot}{xs:List aa}(h:still s=some (.d (.list xs)))(k:Int):j3 s (.int k)=cU xs k:=(E8 h).elim (fun e=>e▸rfl) fun e=>e▸rfl
theorem ZK {s:Slot}{xs:List aa}(h:still s=some (.d (.list xs))):og s=some xs.length:=(E8 h).elim (fun e=>e▸rfl) fun e=>e▸rfl
theorem E9 (f:ae):f.map (fun x=>bv x.2)=aA (f.map (·.2)):=(cD ..).symm
theorem Fa {f:ae}{k:Int}:k∈f.map (·.2)↔cj f k:=aS
theorem xZ {f:ae}{k:Int}{A B:Prop}(h:cj f k)(x:A):am (dv (.pv (.d (.list (f.map fun x=>bv x.2)))) (.int k)) fun b=>Br b A B:=by rw[E9];exact rS (Fa.mpr h) x
theorem x0 {f:ae}{k:Int}{A B:Prop}(h:¬cj f k)(x:B):am (dv (.pv (.d (.list (f.map fun x=>bv x.2)))) (.int k)) fun b=>Br b A B:=by rw[E9];exact rT (fun z=>h (Fa.mp z)) x
theorem ZL {F c:ae}{i:Nat}(h:F.drop (i+1)=c):List.drop (fK i+1).toNat (en F)=en c:=(List.map_drop ..).symm.trans (congrArg en h)
theorem ZM {n:L→O→Prop}{t:PV→O→Prop}{s0:Option Slot}{F M B:ae}(hr:Lv (m+1) r)(hl:F.length+(M.length+B.length)≤300)(c:ae):∀(i:Nat) (out:ae) (xs:List aa) (s1 s2:Option Slot) (s3 s4 s5:Slot) (j:Option Slot),F.drop i=c→still s3=some (.d (.list (en M)))→still s4=some (.d (.list (en B)))→still s5=some (.d (.list (en F)))→
 (∀x∈c,x.2≠3∧dO x.1)→xs=en out→out.length+c.length≤300→(∀s1 s2 s3 s4 s5 j,still s3=some (.d (.list (en M)))→still s4=some (.d (.list (en B)))→n [s0,s1,s2,some s3,some s4,some s5,some (.lst (en (out++dF c (M++B)))),j,none] o)→
 ba (ay 7) q8 r n t (fY (gT i c.length)) [s0,s1,s2,some s3,some s4,some s5,some (.lst xs),j,none] o:=by
 induction c with
 |nil=>exact fun i out xs s1 s2 s3 s4 s5 j _ h3 h4 h5 _ e _ k=>e▸(ck out).subst (motive:=fun z=>n [s0,s1,s2,some s3,some s4,some s5,some (.lst (en z)),j,none] o) (k s1 s2 s3 s4 s5 j h3 h4)
 |cons x c ih=>
  intro i out xs s1 s2 s3 s4 s5 j h h3 h4 h5 hc e hn k
  have hx:xs.length<aH:=by rw[e,hJ];exact aX (ai (aR _ _) hn) (by decide)
  have next:∀y s1 s2 s3 s4 s5 j,y=iq x (c++(M++B))→still s3=some (.d (.list (en M)))→still s4=some (.d (.list (en B)))→still s5=some (.d (.list (en F)))→ba (ay 7) q8 r n t (fY (gT (i+1) c.length)) [s0,s1,s2,some s3,some s4,some s5,some (.lst (xs++[dw y])),j,none] o:=fun y s1 s2 s3 s4 s5 j ey h3 h4 h5=>
   ih (i+1) (out++[y]) _ s1 s2 s3 s4 s5 j (fZ h) h3 h4 h5 (fun z hz=>hc z (.tail _ hz)) (e▸nj out [y]) (by rw[aG,c9];exact hn) fun s1 s2 s3 s4 s5 j h3 h4=>by
    rw[cz,ey];exact k s1 s2 s3 s4 s5 j h3 h4
  refine ah ((ZJ h5 _).trans (jG (f:=dw) (i8 h))) ?_
  by_cases h1:x.2=1
  ·refine cu h1 ?_
   refine ah h5 ?_
   refine ah rfl (ah h3 ?_)
   have hcl:c.length+(M.length+B.length)≤300:=by
    have:=congrArg cI (fZ h)
    rw[List.length_drop] at this
    exact ai (je (this▸Nat.sub_le _ _) _) hl
   refine ah rfl (ah ((congrArg (fun l=>ie .Add (.list l) (.list (en M))) (ZL (fZ h))).trans (nq (f:=c) (g:=M) ?_)) ?_)
   ·exact ai (cy (aR _ _) _) (ai hcl (by decide))
   refine ah rfl (ah h4 ?_)
   have hcl:(c++M).length+B.length≤300:=by rw[aG,dS];exact hcl
   refine ah rfl (ah (nq (f:=c++M) (g:=B) (ai hcl (by decide))) ⟨rfl,?_⟩)
   refine eR (c++M++B) _ (v:=fun x=>.int x.2) (I:=fun l=>∃j,l=[s0,some (.pv (.d (be x.1))),some (.pv (.d (.int x.2))),some (.pv (.d (.list (en M)))),some (.pv (.d (.list (en B)))),some (.pv (.d (.list (en F)))),some (.lst xs),some (.pv (.d (.int i))),none,j])
    (fun y hy l hl A kk h'=>hl.elim fun j e=>by subst e;exact h' _ ⟨_,rfl⟩) (aX (by rw[aG];exact hcl) (by decide)) ⟨_,rfl⟩ fun l hl'=>hl'.elim fun j e=>?_
   subst e
   by_cases hm:cj (c++M++B) 0
   ·have ha:=(hc x (.head _)).2
    refine xZ hm (xY (as:=[x.1,[4]]) hr (cX _ _) (eG.mpr ⟨ha.2.1,fun y hy=>aM.mp hy▸(by decide:(4:Int)∈dE)⟩) ?_ ⟨hx,next (norm (x.1++[4]),0) _ _ _ _ _ _ (if_pos ⟨h1,cz ..▸hm⟩).symm rfl rfl rfl⟩)
    exact aX (aG▸je ha.len 1:(x.1++[4]).length≤8) (by decide)
   ·exact x0 hm ⟨hx,next x _ _ _ _ _ _ (if_neg fun z=>hm (cz ..▸z.2)).symm rfl rfl rfl⟩
  ·exact bW h1 ⟨hx,next x _ _ _ _ _ _ (oY h1).symm h3 h4 h5⟩
noncomputable def hB (x:List Int×Int):List Int:=if x.2=1 then x.1++[4] else x.1
theorem ZN (f:ae):∀c,norm (f.flatMap hA++c)=norm (f.flatMap hB++c):=by
 induction f with
 |nil=>exact fun _=>rfl
 |cons x f ih=>
  intro c
  rw[tc,tc,cz,cz,←Ek (f.flatMap hB++c),←ih c,Ek]
  unfold hB
  by_cases h:x.2=1
  ·rw[if_pos h,rz h,xI]
  ·rw[if_neg h,oW h]
theorem x6 {x:List Int×Int}{y:Int}:y∈hB x↔y∈x.1∨x.2=1∧y=4:=by
 unfold hB
 by_cases h:x.2=1
 ·rw[if_pos h,cY,aM];exact or_congr_right (iff_and_self.mpr fun _=>h)
 ·rw[if_neg h];exact⟨.inl,fun z=>z.elim id fun z=>absurd z.1 h⟩
theorem ZO {f:ae}(h:cj f 1):norm (f.flatMap hA)=norm ((f.map (fun x:List Int×Int=>x.1)++[[4]]).flatten):=by
 have:=ZN f []
 rw[ck,ck] at this
 rw[this,List.flatten_append]
 exact m8 fun y=>jh.trans ⟨fun z=>z.elim fun x z=>(x6.mp z.2).elim (fun w=>cS _ (jh.mpr ⟨x,z.1,w⟩)) fun w=>cH _ (w.2▸ .head _),
  fun z=>(cY.mp z).elim (fun w=>(jh.mp w).imp fun x w=>⟨w.1,x6.mpr (.inl w.2)⟩) fun w=>h.imp fun x h=>⟨h.1,x6.mpr (.inr ⟨h.2,aM.mp w⟩)⟩⟩
theorem ZP {f:ae}(h:¬cj f 1):norm (f.flatMap hA)=norm (f.map (·.1)).flatten:=
 congrArg norm (congrArg List.flatten (me fun x hx=>oW fun z=>h ⟨x,hx,z⟩))
theorem ZQ {f:ae}(h:f≠[]):hE f=[(norm (f.flatMap hA),2)]:=by
 cases f with
 |nil=>exact absurd rfl h
 |cons x f=>rfl
theorem x7 {f:ae}{x:List Int×Int}(h:x∈md f++bk f):x∈f:=jJ f▸cH _ h
theorem Fb {f:ae}(h:∀x∈f,dO x.1):(f.map (·.1)).flatten.length≤7*f.length:=by
 induction f with
 |nil=>exact bz _
 |cons x f ih=>rw[mm,List.flatten_cons,aG,k5,Nat.mul_succ,gB];exact n4 (ih fun y hy=>h y (.tail _ hy)) (h x (.head _)).len
section
variable {f:ae}{k:List aa→L→O→Prop}{s0 s1 s2 s3 s4 s5 s6 s7 s8 i j:Option Slot}
theorem ZR (hn:f.length≤300)(hk:∀i j,k (f.map fun x=>be x.1) [s0,s1,s2,s3,s4,s5,s6,s7,s8,i,j] o):bf (cJ [9,10]) tT (eV 9) (en f) [] r [s0,s1,s2,s3,s4,s5,s6,s7,s8,i,j] o k:=
 eR f _ (v:=fun x=>be x.1) (I:=fun l=>∃i j,l=[s0,s1,s2,s3,s4,s5,s6,s7,s8,i,j]) (fun x hx l hl A kk h=>hl.elim fun i e=>e.elim fun j e=>by subst e;exact h _ ⟨_,_,rfl⟩) (aX hn (by decide)) ⟨_,_,rfl⟩ fun l hl=>hl.elim fun i e=>e.elim fun j e=>e▸hk i j
theorem Fd (hn:f.length≤300)(hk:∀i j,k (f.map fun x=>.int x.2) [s0,s1,s2,s3,s4,s5,s6,s7,s8,i,j] o):bf (cJ [9,10]) tT (eV 10) (en f) [] r [s0,s1,s2,s3,s4,s5,s6,s7,s8,i,j] o k:=
 eR f _ (v:=fun x=>.int x.2) (I:=fun l=>∃i j,l=[s0,s1,s2,s3,s4,s5,s6,s7,s8,i,j]) (fun x hx l hl A kk h=>hl.elim fun i e=>e.elim fun j e=>by subst e;exact h _ ⟨_,_,rfl⟩) (aX hn (by decide)) ⟨_,_,rfl⟩ fun l hl=>hl.elim fun i e=>e.elim fun j e=>e▸hk i j
end
theorem Fe {M:ae}(hM:∀x∈M,dO x.1):∀x∈(M.map (fun x:List Int×Int=>x.1)).flatten,x∈dE:=fun x hx=>(jh.mp hx).elim fun y hy=>(hM y hy.1).2.1 x hy.2
theorem ZS {M:ae}(hr:Lv (m+1) r)(hM:∀x∈M,dO x.1)(hl:M.length≤300)(h:cj M 1)(k:K (.d (be (norm (M.flatMap hA)))) o):r.call "_law_join" [.d (.list (M.map (fun x=>be x.1)++[.tuple [.int 4]]))] o K:=by
 have e:(M.map (fun x:List Int×Int=>x.1)++[[4]]).map be=M.map (fun x=>be x.1)++[.tuple [.int 4]]:=by rw[bJ,cD];rfl
 rw[←e]
 refine xY hr (Hb _ (cX _ _)) ?_ ?_ (ZO h▸k)
 ·rw[List.flatten_append];exact eG.mpr ⟨Fe hM,fun y hy=>aM.mp hy▸(by decide:(4:Int)∈dE)⟩
 ·rw[List.flatten_append,aG];exact aX (je (ai (Fb hM) (nR 7 hl)) 1) (by decide)
theorem ZT {M:ae}(hr:Lv (m+1) r)(hM:∀x∈M,dO x.1)(hl:M.length≤300)(h0:M≠[])(h:¬cj M 1)(k:K (.d (be (norm (M.flatMap hA)))) o):r.call "_law_join" [.d (.list (M.map fun x=>be x.1))] o K:=by
 have e:(M.map (fun x:List Int×Int=>x.1)).map be=M.map fun x=>be x.1:=cD ..
 rw[←e]
 exact xY hr (fun z=>h0 (jR.mp z)) (Fe hM) (aX (ai (Fb hM) (nR 7 hl)) (by decide)) (ZP h▸k)
theorem ZU {F M B:ae}{s0 s1 s2 s5 s7:Option Slot}{s3 s4:Slot}(hr:Lv (m+1) r)(h3:still s3=some (.d (.list (en M))))(h4:still s4=some (.d (.list (en B))))(hM:∀x∈M,dO x.1)(hl:F.length+(M.length+B.length)≤300)(k:K (.d (aQ (F++(hE M++B)))) o){N:L→O→Prop}:
 Dn r [s0,s1,s2,some s3,some s4,s5,some (.lst (en F)),s7,none] o N K:=by
 have hFl:(en F).length<aH:=by rw[hJ];exact aX (ai (aR _ _) hl) (by decide)
 refine ah (ZK h3) ?_
 by_cases h0:M=[]
 ·subst h0
  refine ah rfl ?_
  refine ah h4 ?_
  exact ah rfl (ah (nq (ai (cy (bg (bQ _).symm) _) (ai hl (by decide)))) k)
 ·refine kJ (by rw[hJ];exact ib.mpr (gx.mpr h0)) ?_
  refine ah h3 ?_
  have hMl:M.length≤300:=ai (aR _ _) (ai (gc _ _) hl)
  refine⟨rfl,ZR hMl fun i j=>⟨rfl,Fd hMl fun i j=>?_⟩⟩
  rw[ZQ h0] at k
  have fin:forall s1 s2 s3 s4 s5 s7 s8,still s4=some (.d (.list (en B)))→Dm r [s0,s1,s2,s3,some s4,s5,some (.lst (en F++[dw (norm (M.flatMap hA),2)])),s7,s8] o N K:=fun s1 s2 s3 s4 s5 s7 s8 h4=>by
   refine ah h4 ?_
   refine ah rfl (ah ((congrArg (fun l=>ie .Add (.list l) (.list (en B))) (nj F [_])).trans (nq ?_)) ?_)
   ·rw[aG,dS];exact ai (cy (je (gx.mpr h0) _) _) (ai hl (by decide))
   ·rw[cz];exact k
  by_cases h1:cj M 1
  ·refine xZ h1 ⟨by rw[aB];exact aX hMl (by decide),?_⟩
   refine ZS hr hM hMl h1 ⟨hFl,?_⟩
   exact fin none none none s4 none none none h4
  ·refine x0 h1 ?_
   refine ZT hr hM hMl h0 h1 ⟨hFl,?_⟩
   exact fin none none none s4 none none none h4
theorem Ff {f:ae}(hr:Lv (m+2) r)(h:bu f)(hl:f.length≤300)(k:K (.d (aQ (cv f))) o):r.call "_law_settled" [.d (ce f)] o K:=by
 refine hr.call XV fun r hr=>⟨rfl,⟨rfl,Fd hl fun i j=>?_⟩⟩
 by_cases h3:cj f 3
 ·rw[na h3] at k
  exact xZ h3 k
 ·rw[lR h3] at k
  refine x0 h3 ?_
  have hlen:(fr f).length+((md f).length+(bk f).length)≤300:=by rw[←aG,←aG,jJ];exact hl
  refine⟨f.reverse.length+1,ZH f.reverse [] _ (.lst []) (congrArg en (y2 f).symm) rfl (by rw[List.length_reverse];exact hl) fun s4 h4=>?_⟩
  have h4:still s4=some (.d (.list (en (bk f)))):=(ck (bk f)).subst (motive:=fun z=>still s4=some (.d (.list (en z)))) h4
  have hf:(ft f).length≤300:=ai (aG (as:=ft f)▸aR _ _:(ft f).length≤(ft f++bk f).length) (ai (bg (congrArg cI (rF f))) hl)
  refine⟨(ft f).length+1,ZI (ft f) [] [] rfl ((bQ _).symm▸hf) ?_⟩
  refine ah (kE (f:=dw) (l:=fr f) (ai (ai (aR _ _) hlen) (by decide))) ?_
  refine(i9 (fr f).length).symm.subst (motive:=fun z=>ba (ay 7) q8 r _ _ z _ o) (ZM (F:=fr f) (M:=md f) (B:=bk f) hr hlen (fr f) 0 [] [] _ _ (.lst (en (md f))) s4 (.lst (en (fr f))) none rfl rfl h4 rfl (fun x hx=>?_) rfl ((bQ _).symm▸ai (aR _ _) hlen) fun s1 s2 s3 s4 s5 j h3' h4=>?_)
  ·have hx:x∈f:=jJ f▸cS _ hx
   exact⟨fun z=>h3 ⟨x,hx,z⟩,h.at hx fun z=>h3 ⟨x,hx,z⟩⟩
  ·refine ZU hr h3' h4 (fun x hx=>?_) ?_ k
   ·have hx:x∈f:=x7 (cS _ hx)
    exact h.at hx fun z=>h3 ⟨x,hx,z⟩
   ·rw[nc];exact hlen
noncomputable def cn (cs:List ae):aa:=.list (cs.map ce)
noncomputable def iv (P:List ae)(c:List (List ae)):List ae:=P.flatMap fun f=>(ax c).map (f++·)
theorem Fg (P:List ae):iv P []=P:=by
 unfold iv
 induction P with
 |nil=>rfl
 |cons f P ih=>rw[tc,ih];exact congrArg (·::P) (ck f)
theorem Fh (cs:List ae)(c:List (List ae))(P:List ae):iv (P.flatMap fun f=>cs.map (f++·)) c=iv P (cs::c):=by
 unfold iv
 rw[List.flatMap_assoc]
 refine congrArg P.flatMap (funext fun f=>?_)
 rw[List.flatMap_map,Zu,List.map_flatMap]
 exact congrArg cs.flatMap (funext fun d=>by rw[cD];exact congrArg (fun h=>(ax c).map h) (funext fun g=>cz ..))
theorem ZV (c:List (List ae)):iv [[]] c=ax c:=(ck _).trans (List.map_id' _)
theorem kK {c:List (List ae)}(h:∀cs∈c,cs≠[]):ax c≠[]:=by
 induction c with
 |nil=>exact cX _ _
 |cons cs c ih=>exact(nO _ (h cs (.head _))).elim fun d hd=>(nO _ (ih fun x hx=>h x (.tail _ hx))).elim fun g hg=>List.ne_nil_of_mem (fB.mpr ⟨d,hd,g,hg,rfl⟩)
theorem Fi (P:List ae)(c:List (List ae)):(iv P c).length=P.length*(ax c).length:=by
 unfold iv
 induction P with
 |nil=>exact(Nat.zero_mul _).symm
 |cons f P ih=>rw[tc,aG,ih,aB,k5,mn,gB]
theorem ZW {N:L→O→Prop}{q:PV→O→Prop}{s0:Option Slot}(c:List (List ae)):∀(P:List ae) (j:Option Slot),(∀cs∈c,cs≠[])→(iv P c).length≤1000→(∀f∈iv P c,f.length≤300)→(∀j,N [s0,some (.lst ((iv P c).map ce)),j] o)→
 ba (ay 2) Dp r N q (c.map cn) [s0,some (.lst (P.map ce)),j] o:=by
 induction c with
 |nil=>exact fun P j _ _ _ k=>(Fg P)▸k j
 |cons cs c ih=>
  intro P j hne hl hf k
  rw[←Fh] at hl hf k
  have hc:∀x∈c,x≠[]:=fun x hx=>hne x (.tail _ hx)
  have hp:=gx.mpr (kK hc)
  have hPc:(P.flatMap fun f=>cs.map (f++·)).length=P.length*cs.length:=by
   have:=Fi P [cs]
   rw[←Fh,Fg,gu] at this
   exact this.trans (congrArg (P.length*·) (Nat.mul_one _))
  have hb:P.length*cs.length≤1000:=by
   rw[Fi,hPc] at hl;exact ai (yU _ hp) hl
  have hfl:∀f∈P,∀d∈cs,f.length+d.length≤300:=fun f hf' d hd=>(nO _ (kK hc)).elim fun g hg=>by
   have:=hf ((f++d)++g) (jh.mpr ⟨f++d,jh.mpr ⟨f,hf',aS.mpr ⟨d,hd,rfl⟩⟩,aS.mpr ⟨g,hg,rfl⟩⟩)
   rw[aG,aG] at this
   exact ai (aR _ _) this
  refine⟨rfl,?_⟩
  refine Yq (n:=cs.length) (v:=fun f=>cs.map fun d=>ce (f++d)) (I:=fun l=>∃i j,l=[s0,some (.pv (.d (.list (P.map ce)))),some (.pv (.d (cn cs))),i,j]) P [] _ (fun f hf' l hl acc kk hn h'=>?_) (fun f _=>aB ..) (aX (ai (bg (bQ _)) hb) (by decide)) ⟨_,_,rfl⟩ fun l hl'=>hl'.elim fun i e=>e.elim fun j e=>?_
  ·refine hl.elim fun i e=>e.elim fun j e=>?_
   subst e
   refine Ea cs acc _ (v:=fun d=>ce (f++d)) (I:=fun l=>∃j,l=[s0,some (.pv (.d (.list (P.map ce)))),some (.pv (.d (cn cs))),some (.pv (.d (ce f))),j]) (fun d hd l hl A kk h=>hl.elim fun j e=>?_) hn ⟨_,rfl⟩ fun l hl=>hl.elim fun j e=>h' l ⟨_,_,e⟩
   subst e
   exact ah (nq (ai (hfl f hf' d hd) (by decide))) (h _ ⟨_,rfl⟩)
  ·subst e
   have e:P.flatMap (fun f=>cs.map fun d=>ce (f++d))=(P.flatMap fun f=>cs.map (f++·)).map ce:=by
    rw[List.map_flatMap];exact congrArg P.flatMap (funext fun f=>(cD (g:=ce) (f:=(f++·)) (l:=cs)).symm)
   have:=ih (P.flatMap fun f=>cs.map (f++·)) (some (.pv (.d (cn cs)))) hc hl hf k
   rw[←e] at this
   exact this
theorem Fj {c:List (List ae)}(hr:Lv (m+1) r)(hne:∀cs∈c,cs≠[])(hl:(ax c).length≤1000)(hf:∀f∈ax c,f.length≤300)(k:K (.d (.list ((ax c).map ce))) o):r.call "_law_choices" [.d (.list (c.map cn))] o K:=by
 refine hr.call XW fun r _=>⟨rfl,?_⟩
 rw[←ZV] at hl hf k
 exact ZW c [[]] none hne hl hf fun j=>k
theorem x8 {a c:List ae}(ha:a.Nodup)(hc:c.Nodup)(h:∀x,x∈a↔x∈c):a9 bw a=a9 bw c:=
 ti pV tn zj ((dy bw a).trans ((List.perm_ext_iff_of_nodup ha hc).mpr h)) (oh pV tn a)
theorem x9 (x:List Int×Int):pR (dw x)=some x:=by
 show (jp cg (x.1.map bv)).bind _= _
 rw[kB (f:=cg) (en:=bv) fun _=>rfl];rfl
theorem Fk (fs:List ae):pT (ch fs)=some fs:=kB (en:=aQ) (fun f=>kB x9 f) fs
theorem ZX {fs:List ae}(h:fs≠[])(hl:fs.length≤6):j9 (ch fs)=some (ch (a9 bw (b0 fs))):=by
 have e:iL (ch fs)=none:=by
  cases fs with
  |nil=>exact absurd rfl h
  |cons f fs=>rfl
 unfold j9;rw[e,Fk];exact if_pos hl
theorem ZY {fs:List ae}(h:fs≠[])(hl:fs.length≤6)(hn:fs.Nodup):iM (ch fs)=some (ch (a9 bw fs)):=by
 have e:iL (ch fs)=none:=by
  cases fs with
  |nil=>exact absurd rfl h
  |cons f fs=>rfl
 unfold iM;rw[e,Fk];exact if_pos ⟨hl,hn⟩
noncomputable def fb (c:List (List ae)):List ae:=a9 bw (b0 ((ax c).map cv))
theorem ya {c:List (List ae)}(hr:Lv (m+3) r)(hne:∀cs∈c,cs≠[])(hl:(ax c).length≤6)(hf:∀f∈ax c,bu f∧f.length≤300)(k:K (.d (.list (ch (fb c)))) o):r.call "_law_forms" [.d (.list (c.map cn))] o K:=by
 refine hr.call XY fun r hr=>⟨rfl,?_⟩
 refine Fj (m:=m+1) hr hne (ai hl (by decide)) (fun f h=>(hf f h).2) ⟨rfl,?_⟩
 refine eR (ax c) _ (v:=fun f=>aQ (cv f)) (I:=fun l=>∃j,l=[some (.pv (.d (.list (c.map cn)))),j]) (fun f h l hl A kk h'=>hl.elim fun j e=>?_) (aX hl (by decide)) ⟨_,rfl⟩ fun l _=>?_
 ·subst e
  exact Ff hr (hf f h).1 (hf f h).2 (h' _ ⟨_,rfl⟩)
 ·have e:(ax c).map (fun f=>aQ (cv f))=ch ((ax c).map cv):=(cD (g:=aQ) (f:=cv)).symm
  rw[e]
  exact ah rfl (ah rfl (ah (ZX (fun z=>kK hne (jR.mp z)) (ai (bg (aB ..)) hl)) k))
noncomputable def rU (T:List al)(t:Int)(a:List Int):Prop:=az T t (.union a)∨a=[t]∧∃x,az T t x∧x.kind≠6
theorem rV (hr:Lv (m+1) r)(h:rU T t a)(k:K (.d (be a)) (ob T)):r.call "_law_atoms" [.o 0,.d (.int t)] (ob T) K:=by
 refine hr.call XZ fun r _=>⟨rfl,h.elim (fun h=>?_) fun h=>h.2.elim fun x hx=>?_⟩
 ·refine ah h.get ?_
  refine ah h.get ?_
  exact k
 ·rw[h.1] at k
  exact ah hx.1.get (ip (bW hx.2 k))
theorem ER.at1 {y:El}(G:aj b T)(h:ER T X y):rU T y.1 y.2.1:=h.elim (fun h=>(h.2.pt G).2) fun h=>.inr ⟨h.2.1,h.2.2.1.2.imp fun x h=>⟨h.1,h.2.2⟩⟩
theorem Fl {q:List El}{d:aa}(hr:Lv (m+2) r)(G:aj b T)(hd:gh (.d d)=some (aW q))(hq:bm T X q)(hl:q.length≤300)(k:K (.d (ce (fm q))) (ob T)):r.call "_law_elems" [.o 0,.d d] (ob T) K:=by
 refine hr.call X0 fun r hr=>⟨rfl,?_⟩
 refine ah hd ⟨rfl,?_⟩
 refine eR q _ (v:=fun y=>dw y.2) (I:=fun l=>∃j,l=[some (.pv (.o 0)),some (.pv (.d d)),j]) (fun y h l hl A kk h'=>hl.elim fun j e=>?_) (aX hl (by decide)) ⟨_,rfl⟩ fun l _=>?_
 ·subst e
  exact rV (m:=m) hr ((hq y h).at1 G) (h' _ ⟨_,rfl⟩)
 ·exact(congrArg (fun l=>K (.d (.list l)) (ob T)) (cD (g:=dw) (f:=fun y:El=>y.2) (l:=q))).mp k
theorem ZZ (fs:List ae)(f:ae):ch fs++[aQ f]=ch (fs++[f]):=(bJ (f:=aQ) (l₂:=[f])).symm
theorem Z0 {N:L→O→Prop}{u:PV→O→Prop}{s1:Option Slot}(hr:Lv (m+2) r)(G:aj b T)(c:List (Int×ae)):∀(fs:List ae) (xs:List aa) (j4 j5:Option Slot),xs=ch fs→(∀w∈c,cw T X w.1 w.2 ro∧w.2.length≤300)→xs.length+c.length<aH→
 (∀j4 j5,N [some (.pv (.o 0)),s1,some (.pv (.d (.int ro))),some (.lst (ch (fs++c.map (·.2)))),j4,j5] (ob T))→
 ba (ay 4) xi r N u (aA (c.map (·.1))) [some (.pv (.o 0)),s1,some (.pv (.d (.int ro))),some (.lst xs),j4,j5] (ob T):=by
 induction c with
 |nil=>exact fun fs xs j4 j5 e _ _ k=>e▸(ck fs)▸k j4 j5
 |cons w c ih=>
  intro fs xs j4 j5 e hc hn k
  have hn:xs.length+c.length+1<aH:=hn
  have hx:xs.length<aH:=aX (aR _ _) (mi hn)
  have next:∀v j4 j5,v=aQ w.2→ba (ay 4) xi r N u (aA (c.map (·.1))) [some (.pv (.o 0)),s1,some (.pv (.d (.int ro))),some (.lst (xs++[v])),j4,j5] (ob T):=fun v j4 j5 ev=>
   ih (fs++[w.2]) _ j4 j5 (by rw[ev,e];exact ZZ fs w.2) (fun z hz=>hc z (.tail _ hz)) (by rw[aG,c9];exact hn) fun j4 j5=>by rw[cz];exact k j4 j5
  have hl:=(hc w (.head _)).2
  refine(hc w (.head _)).1.elim fun q hq=>?_
  by_cases h1:one q
  ·obtain⟨y,rfl,hy⟩:=h1
   have hrow:=kG (ro:=ro) hy▸hq.2.2
   refine ah hrow.get ?_
   refine rV (m:=m+1) hr ((hq.1 y (.head _)).at1 G) ⟨hx,?_⟩
   refine jK rfl (next _ _ _ ?_)
   rw[←hq.2.1];exact congrArg (fun z=>nU [.tuple [be y.2.1,.int z]]) hy.symm
  ·have hrow:=kH h1▸hq.2.2
   refine ah hrow.get ?_
   refine Fl (m:=m) hr G (congrArg some (oZ q)) hq.1 (by rw[iu hq.2.1];exact hl) ⟨hx,?_⟩
   refine jK rfl (next _ _ _ ?_)
   rw[←hq.2.1];rfl
theorem Fm {P:Int→ae→Prop}(a:List Int)(h:∀p∈a,∃f,P p f):∃z:List (Int×ae),z.map (·.1)=a∧∀w∈z,P w.1 w.2:=by
 induction a with
 |nil=>exact⟨[],rfl,fun _ h=>(aJ h).elim⟩
 |cons p a ih=>exact(h p (.head _)).elim fun f hf=>(ih fun q hq=>h q (.tail _ hq)).elim fun z hz=>⟨(p,f)::z,congrArg (p::·) hz.1,cx.mpr ⟨hf,hz.2⟩⟩
theorem Fn (h:norm a=a):a.Nodup:=by
 rw[←h]
 unfold norm
 by_cases h0:0∈a
 ·rw[if_pos h0];exact eU.mpr ⟨aJ,.nil⟩
 ·rw[if_neg h0]
  by_cases h1:1∈a
  ·rw[if_pos h1];exact eU.mpr ⟨aJ,.nil⟩
  ·rw[if_neg h1];exact(dy bn _).nodup_iff.mpr (i6 a)
theorem Z1 {α β γ:Type}{f:α→β}{g:α→γ}(z:List α)(h:∀x∈z,∀y∈z,g x=g y→f x=f y)(hn:(z.map f).Nodup):(z.map g).Nodup:=
 List.pairwise_map.mpr ((List.pairwise_map.mp hn).imp_of_mem fun ha hb hne e=>hne (h _ ha _ hb e))
theorem Fo {F:ae→Prop}{n:Nat}(hr:Lv (m+3) r)(G:aj b T)(h:bZ T X ro n t F)(hn:n≤6)(hf:∀f,F f→f.length≤300)(k:∀fs:List ae,fs.Nodup→(∀f,f∈fs↔F f)→K (.d (.list (ch (a9 bw fs)))) (ob T)):
 r.call "_law_seen" [.o 0,.d (.int t),.d (.int ro)] (ob T) K:=by
 refine h.elim fun a h=>(Fm a h.2.2.2.2.1).elim fun z hz=>?_
 have hm:∀f,f∈z.map (·.2)↔F f:=fun f=>aS.trans ⟨fun h=>h.elim fun w hw=>hw.2▸(hz.2 w hw.1).1,fun hF=>(h.2.2.2.2.2 f hF).elim fun p hp=>(aS.mp (hz.1▸hp.1)).imp fun w hw=>⟨hw.1,((hz.2 w hw.1).2.fn G (hw.2▸hp.2)).1⟩⟩
 have hzl:z.length≤6:=ai (ai (bg ((aB ..).symm.trans (congrArg cI hz.1))) h.1) hn
 have hnd:(z.map (·.2)).Nodup:=Z1 z (f:=(·.1)) (fun x hx y hy e=>(hz.2 x hx).2.inj G (e▸(hz.2 y hy).2)) (hz.1▸Fn h.2.2.1)
 have hat:rU T t (z.map (·.1)):=hz.1▸(h.2.2.2.1.pt G fun p hp=>(h.2.2.2.2.1 p hp).elim fun f hf=>hf.2.list).2
 refine hr.call X1 fun r hr=>⟨rfl,rV (m:=m+1) hr hat ?_⟩
 refine Z0 (m:=m) hr G z [] [] none none rfl (fun w hw=>⟨(hz.2 w hw).2,hf w.2 (hz.2 w hw).1⟩) (aX (ai (bg (bQ _)) hzl) (by decide)) fun j4 j5=>?_
 refine ah (ZY (fun e=>?_) (ai (bg (aB ..)) hzl) hnd) (k _ hnd hm)
 exact h.2.1 (hz.1.symm.trans (congrArg (jY (·.1)) (jR.mp e)))
theorem Z2 {R:ae}(a:ae)(h:cj (dF a R) 0):cj (a++R) 0:=by
 induction a with
 |nil=>exact h.elim fun x h=>(aJ h.1).elim
 |cons x a ih=>
  refine h.elim fun y hy=>(bC.mp hy.1).elim (fun e=>?_) fun h=>(ih ⟨y,h,hy.2⟩).imp fun z hz=>⟨.tail _ hz.1,hz.2⟩
  by_cases q:x.2=1∧cj (a++R) 0
  ·exact q.2.imp fun z hz=>⟨.tail _ hz.1,hz.2⟩
  ·exact⟨x,.head _,(congrArg Prod.snd (e.trans (if_neg q))).symm.trans hy.2⟩
theorem rW {f g:ae}{k:Int}:cj (f++g) k↔cj f k∨cj g k:=
 ⟨fun h=>h.elim fun x h=>(cY.mp h.1).imp (fun w=>⟨x,w,h.2⟩) fun w=>⟨x,w,h.2⟩,fun h=>h.elim (fun h=>h.imp fun x h=>⟨cS _ h.1,h.2⟩) fun h=>h.imp fun x h=>⟨cH _ h.1,h.2⟩⟩
theorem Z3 {R R':ae}(h:cj R' 0→cj R 0)(a:ae):dF (dF a R) R'=dF a R:=by
 induction a with
 |nil=>rfl
 |cons x a ih=>
  refine kF List.cons ?_ ih
  by_cases q:x.2=1∧cj (a++R) 0
  ·rw[show iq x (a++R)=(norm (x.1++[4]),0) from if_pos q];exact oY (by decide:(0:Int)≠1)
  ·rw[show iq x (a++R)=x from if_neg q]
   exact if_neg fun z=>q ⟨z.1,(rW.mp z.2).elim (Z2 a) fun w=>rW.mpr (.inr (h w))⟩
theorem Fp {P B:ae}{x:List Int×Int}(hP:∀y∈P,y.2≠2)(hx:x.2=2):(P++x::B).takeWhile n2=P∧(P++x::B).dropWhile n2=x::B:=by
 have h:∀y∈P,n2 y=true:=fun y hy=>bne_iff_ne.mpr (hP y hy)
 have hn:¬n2 x=true:=fun z=>bne_iff_ne.mp z hx
 exact⟨by rw[Hc h,y4,if_neg hn,ck],by rw[He h,sQ,if_neg hn]⟩
theorem Z4 {P M B:ae}(h3:¬cj (P++(M++B)) 3)(hn:jH (P++(M++B))=P++(M++B))(hP:∀x∈P,x.2≠2)(hM:M=[]∨∃a,M=[(a,2)]∧norm a=a)(hB:∀x∈B,x.2=0):cv (P++(M++B))=P++(M++B):=by
 generalize hf:P++(M++B)=f at h3 hn
 have e1:=jJ f
 have D:=oX f
 rw[lR h3]
 have hfr:dF (fr f) (md f++bk f)=fr f:=(List.append_inj ((Ey.symm.trans hn).trans e1.symm) (nc _ _)).1
 have hmid:hE (md f)=md f:=by
  refine D.2.2.1.elim (fun e=>by rw[e];rfl) fun h=>h.elim fun a h=>h.elim fun c h=>?_
  have hmem:(a,(2:Int))∈f:=e1▸cH _ (cS _ (h▸ .head _))
  have hx:(a,(2:Int))∈M:=by
   rw[←hf] at hmem
   exact(cY.mp hmem).elim (fun w=>absurd rfl (hP _ w)) fun w=>(cY.mp w).elim id fun w=>absurd (hB _ w) (by decide:¬(2:Int)=0)
  refine hM.elim (fun e=>absurd (e▸hx) aJ) fun hM=>hM.elim fun a' hM=>?_
  have ea:(a,(2:Int))=(a',2):=aM.mp (hM.1▸hx)
  have e2:c++bk f=B:=by
   have k1:=(Fp (P:=fr f) (x:=(a,2)) (B:=c++bk f) D.2.1 rfl).2
   have k2:=(Fp (P:=P) (x:=(a',2)) (B:=B) hP rfl).2
   have ef:fr f++(a,2)::(c++bk f)=P++(a',2)::B:=by rw[←List.cons_append,←h,e1,←hf,hM.1];rfl
   rw[ef,k2] at k1
   exact(eH k1).2.symm
  have hc:c=[]:=Classical.byContradiction fun hc=>D.2.2.2.elim (fun e=>by rw[h] at e;exact absurd (sM.mp e).2 (cX _ _)) fun e=>e.elim fun p e=>e.elim fun y e=>by
   have hy:y∈c:=by
    refine((List.eq_nil_or_concat c).resolve_left hc).elim fun d hd=>hd.elim fun z hd=>?_
    have hd:=hd.trans List.concat_eq_append
    have e:=e.1
    rw[h,hd,←List.cons_append,←cz] at e
    rw[hd];exact cH _ (List.append_inj_right' e rfl▸ .head _)
   exact e.2 (hB y (e2▸cS _ hy))
  rw[h,hc]
  exact congrArg (fun z=>[(z,(2:Int))]) ((congrArg norm ((ck _).trans (congrArg gV ea))).trans (hM.2.trans (congrArg gV ea).symm))
 rw[hfr,hmid,e1]
theorem yb {f:ae}{k:Int}(h:f=[]∨∃a:List Int,f=[(a,2)])(hk:k≠2):∀x∈f,x.2≠k:=h.elim (fun e=>e▸fun x hx=>(aJ hx).elim) fun h=>h.elim fun a e=>e▸fun x hx=>aM.mp hx▸hk.symm
theorem Z5 (f:ae):hE f=[]∨∃a,hE f=[(a,2)]∧norm a=a:=by
 cases f with
 |nil=>exact .inl rfl
 |cons x f=>exact .inr ⟨_,rfl,rq _⟩
theorem Z6 {f:ae}:cv (cv f)=cv f:=by
 by_cases h3:cj f 3
 ·rw[na h3,na h3]
 ·rw[lR h3]
  have D:=oX f
  have hm:=Z5 (md f)
  have hm':=hm.imp_right fun h=>h.imp fun a h=>h.1
  have n3:∀x∈f,x.2≠3:=fun x hx z=>h3 ⟨x,hx,z⟩
  have h1:∀x∈hE (md f)++bk f,x.2≠1:=eG.mpr ⟨yb hm' (by decide),fun x hx=>D.1 x hx▸(by decide)⟩
  refine Z4 ?_ ?_ (rG (by decide) D.2.1) hm D.1
  ·have g3:∀x∈dF (fr f) (md f++bk f)++(hE (md f)++bk f),x.2≠3:=eG.mpr ⟨rG (by decide) fun y hy=>n3 y (jJ f▸cS _ hy),eG.mpr ⟨yb hm' (by decide),fun x hx=>D.1 x hx▸(by decide:(0:Int)≠3)⟩⟩
   exact fun z=>z.elim fun x hx=>g3 x hx.1 hx.2
  ·rw[xP,Z3 fun z=>?_]
   ·refine congrArg _ ?_
    generalize hE (md f)++bk f=g at h1
    induction g with
    |nil=>rfl
    |cons x g ih=>exact kF List.cons (oY (h1 x (.head _))) (ih fun y hy=>h1 y (.tail _ hy))
   ·exact(rW.mp z).elim (fun w=>w.elim fun x w=>absurd w.2 (yb hm' (by decide) x w.1)) fun w=>rW.mpr (.inr w)
theorem Fq (f:ae):(cv f).length≤f.length:=by
 by_cases h3:cj f 3
 ·rw[na h3];exact aT _
 ·have e:=congrArg cI (jJ f)
  rw[aG,aG] at e
  rw[lR h3,aG,aG,nc,←e]
  refine cy (je ?_ _) _
  cases md f with
  |nil=>exact aT _
  |cons x g=>exact gS (bz _)
noncomputable def o7:List Int→List (List Int)
 |[]=>[[]]
 |x::l=>o7 l++(o7 l).map (x::·)
theorem Z7 (p:Int→Bool)(l:List Int):l.filter p∈o7 l:=by
 induction l with
 |nil=>exact .head _
 |cons x l ih=>
  rw[List.filter_cons]
  by_cases h:p x=true
  ·rw[if_pos h];exact cH _ (aS.mpr ⟨_,ih,rfl⟩)
  ·rw[if_neg h];exact cS _ ih
theorem Z8 (L:List Int):∀{s:List Int},s∈o7 L→∀x∈s,x∈L:=by
 induction L with
 |nil=>exact fun h x hx=>absurd (aM.mp h▸hx) aJ
 |cons y L ih=>exact fun h x hx=>(cY.mp h).elim (fun h=>.tail _ (ih h x hx)) fun h=>(aS.mp h).elim fun s h=>(bC.mp (h.2.symm▸hx:x∈y::s)).elim (fun e=>e▸ .head _) fun hx=>.tail _ (ih h.1 x hx)
open Classical in
noncomputable def rX (T:List al)(a:List Int):Int:=if h:∃t,az T t (.union a) then h.choose else 0
noncomputable def o8:List Int:=[4,16,17,18,19]
noncomputable def E7 (T:List al):List Int:=dE++(o7 o8).map fun s=>rX T (norm s)
theorem Z9 (T:List al):(E7 T).length=39:=by
 rw[E7,aG,aB];decide
theorem aAa {x:Int}(h:x∈dE)(h0:x≠0)(h1:x≠1):x∈o8:=((bC.mp h).resolve_left h0 |> bC.mp).resolve_left h1
theorem aAb (G:aj b T)(h:az T t (.union a)):rX T a=t:=(dif_pos ⟨t,h⟩).trans (G.inj (Exists.choose_spec (⟨t,h⟩:∃t,az T t (.union a))) h)
theorem EK.mem_E (G:aj b T)(h:EK T t a):t∈E7 T:=by
 refine h.2.elim (fun e=>cS _ (h.1.2.1 t (e▸ .head _))) fun hu=>cH _ (aS.mpr ⟨o8.filter fun x=>decide (x∈a),Z7 _ _,?_⟩)
 have n0:(0:Int)∉a:=fun z=>absurd (((congrArg cI (h.1.2.2.symm.trans (kD z)))▸hu.1:2≤[(0:Int)].length)) (by decide)
 have n1:(1:Int)∉a:=fun z=>absurd (((congrArg cI (h.1.2.2.symm.trans (m9 n0 z)))▸hu.1:2≤[(1:Int)].length)) (by decide)
 have e:norm (o8.filter fun x=>decide (x∈a))=a:=(m8 fun x=>List.mem_filter.trans ⟨fun z=>of_decide_eq_true z.2,fun z=>⟨aAa (h.1.2.1 x z) (fun e=>n0 (e▸z)) fun e=>n1 (e▸z),decide_eq_true z⟩⟩).trans h.1.2.2
 rw[e];exact aAb G hu.2
theorem aAc (G:aj b T):o4 T (E7 T):=fun t ht=>by
 have at7c:∀t∈dE,∃x,az T t x∧(aY x).length≤300∧∀k∈aY x,k∈E7 T:=fun t ht=>(rr t ht).imp fun x hx=>by
  have:aY x=[]:=by
   have:=hx.2
   cases x<;>first|rfl|cases this
  exact⟨G.le hx.1,by rw[this];exact bz _,by rw[this];exact fun k h=>(aJ h).elim⟩
 refine(cY.mp ht).elim (at7c t) fun h=>(aS.mp h).elim fun s hs=>?_
 by_cases hp:∃t,az T t (.union (norm s))
 ·have hm:∀x∈norm s,x∈dE:=fun x hx=>.tail _ (.tail _ (Z8 o8 hs.1 x (xE hx)))
  have e:rX T (norm s)=hp.choose:=dif_pos hp
  refine⟨.union (norm s),hs.2▸e.symm▸hp.choose_spec,ai (rp (norm s) (Fn (rq s)) hm) (by decide),fun k hk=>cS _ (hm k hk)⟩
 ·have e:rX T (norm s)=0:=dif_neg hp
  exact at7c t (hs.2▸e.symm▸ .head _)
noncomputable def KX (T:List al)(X:List Int)(k:Int):Prop:=(∃a,EK T k a)∨k∈[6,22,24]∨k∈X
noncomputable def d5 (T:List al)(X:List Int):Prop:=X.length≤10∧∀x∈X,∃y,az T x y∧(aY y).length≤300∧∀k∈aY y,KX T X k
theorem KX.le {k:Int}(h:KX T X k)(l:Le T T'):KX T' X k:=h.imp_left fun h=>h.imp fun a h=>h.le l
theorem d5.le (h:d5 T X)(l:Le T T'):d5 T' X:=⟨h.1,fun x hx=>(h.2 x hx).imp fun y h=>⟨h.1.le l,h.2.1,fun k hk=>(h.2.2 k hk).le l⟩⟩
noncomputable def C0 (T:List al)(X:List Int):List Int:=[6,22,24]++(X++E7 T)
theorem KX.mem {k:Int}(G:aj b T)(h:KX T X k):k∈C0 T X:=h.elim (fun h=>h.elim fun a h=>cH _ (cH _ (h.mem_E G))) fun h=>h.elim (cS _) fun h=>cH _ (cS _ h)
theorem aAd (G:aj b T)(hX:d5 T X):o4 T (C0 T X):=fun t ht=>by
 refine(cY.mp ht).elim (fun h=>?_) fun h=>(cY.mp h).elim (fun h=>(hX.2 t h).imp fun y h=>⟨h.1,h.2.1,fun k hk=>(h.2.2 k hk).mem G⟩) fun h=>(aAc G t h).imp fun y h=>⟨h.1,h.2.1,fun k hk=>cH _ (cH _ (h.2.2 k hk))⟩
 have no:∀{k:Int},k∈([]:List Int)→k∈C0 T X:=fun h=>(aJ h).elim
 refine(bC.mp h).elim (fun e=>⟨.key "string",e▸G.le ⟨by decide,rfl⟩,bz _,fun k=>no⟩) fun h=>(bC.mp h).elim (fun e=>⟨.obj [("brand",6)],e▸G.le ⟨by decide,rfl⟩,(by decide:1≤300),fun k hk=>cS _ (aM.mp hk▸ .head _)⟩)
  fun h=>⟨.param 1,aM.mp h▸G.le ⟨by decide,rfl⟩,bz _,fun k=>no⟩
theorem jM {q:List Int}(G:aj b T)(hX:d5 T X)(hl:q.length≤11)(h:∀t∈q,∃x,az T t x∧(aY x).length≤300∧∀k∈aY x,k∈q∨KX T X k)(ht:t∈q∨KX T X t):bE T t:=by
 refine⟨q++C0 T X,fun c hc=>(cY.mp hc).elim (fun hc=>(h c hc).imp fun x h=>⟨h.1,h.2.1,fun k hk=>cY.mpr ((h.2.2 k hk).imp_right fun h=>h.mem G)⟩) fun hc=>(aAd G hX c hc).imp fun x h=>⟨h.1,h.2.1,fun k hk=>cH _ (h.2.2 k hk)⟩,?_,cY.mpr (ht.imp_right fun h=>h.mem G)⟩
 rw[C0,aG,aG,aG,Z9]
 exact n4 hl (cy (je hX.1 39) 3)
end Mine.V
namespace Mine.V
variable {r:R}{T T' T'':List al}{x:al}{t t' ro:Int}{b m:Nat}{K:PV→O→Prop}{o:O}{a a' l X:List Int}
theorem lU:EK T 19 [19]:=⟨⟨cX _ _,fun x hx=>aM.mp hx▸(by decide:(19:Int)∈dE),rfl⟩,.inl rfl⟩
theorem ER.kx {y:El}(h:ER T X y):KX T X y.1:=h.elim (fun h=>.inl ⟨_,h.2⟩) fun h=>h.2.2.2.elim (fun e=>.inl (by rw[e];exact⟨[19],lU⟩)) fun h=>.inr (h.imp_left fun e=>by rw[e];exact .tail _ (.tail _ (.head _)))
theorem Fs (q:List El):aY (d9 q ro)=q.map (·.1):=by
 by_cases h:one q
 ·refine h.elim fun x h=>?_
  rw[h.1,kG h.2];rfl
 ·rw[kH h];exact cD ..
abbrev Kd (T:List al)(X q:List Int)(t:Int):Prop:=∃x,az T t x∧(aY x).length≤300∧∀k∈aY x,k∈q∨KX T X k
theorem cw.kd {f:ae}{q:List Int}(h:cw T X t f ro)(hl:f.length≤300):Kd T X q t:=h.elim fun p h=>⟨_,h.2.2,by rw[Fs,aB,iu h.2.1];exact hl,fun k hk=>.inr ((aS.mp (Fs p▸hk:k∈p.map fun y=>y.1)).elim fun y hy=>hy.2▸(h.1 y hy.1).kx)⟩
theorem bZ.small {F:ae→Prop}{n:Nat}(G:aj b T)(hX:d5 T X)(h:bZ T X ro n t F)(hn:n≤6)(hf:∀f,F f→f.length≤300):bE T t:=h.elim fun a h=>by
 have hp:∀p∈a,Kd T X (t::a) p:=fun p hp=>(h.2.2.2.2.1 p hp).elim fun f hh=>hh.2.kd (hf f hh.1)
 have ha:a.length≤6:=ai h.1 hn
 refine jM (q:=t::a) G hX (gS (ai ha (by decide))) (cx.mpr ⟨?_,hp⟩) (.inl (.head _))
 exact h.2.2.2.1.elim (fun e=>hp t (e▸ .head _)) fun hu=>⟨_,hu.2,ai ha (by decide),fun k hk=>.inl (.tail _ hk)⟩
structure aF where
 t:Int
 s:Int
 cs:List ae
 held:Int
noncomputable def a7 (r:aF):aa:=.tuple [.int r.t,.int r.s,cn r.cs,.int r.held]
noncomputable def aF.el (r:aF):Int×Int:=(r.t,r.s)
noncomputable def LRk (T:List al)(X:List Int)(r:aF):Prop:=
 (r.s=0∨r.s=1∨r.s=2)∧(∃a,EK T r.t a∧r.cs=[[(a,r.s)]])∨r.s=3∧((r.t=2∨r.t=13)∧r.cs=[]∨(∃c,gr T X (r.t,c)∧r.cs=[c])∨
  2≤r.cs.length∧∃z:List (Int×ae),az T r.t (.union (z.map (·.1)))∧(∀w∈z,gr T X w)∧(∀c,c∈z.map (·.2)↔c∈r.cs)∧z.length=r.cs.length)
noncomputable def LR (T:List al)(X:List Int)(r:aF):Prop:=bE T r.t∧f1 T r.t r.held∧LRk T X r∧∀c∈r.cs,bu c∧c.length≤3
theorem LR.le {d:aF}(h:LR T X d)(l:Le T T'):LR T' X d:=
 ⟨h.1.le l,h.2.1.le l,h.2.2.1.imp (fun h=>⟨h.1,h.2.imp fun a h=>⟨h.1.le l,h.2⟩⟩) fun h=>⟨h.1,h.2.imp id fun h=>h.imp (fun h=>h.imp fun c h=>⟨h.1.le l,h.2⟩) fun h=>⟨h.1,h.2.imp fun z h=>⟨h.1.le l,fun w hw=>(h.2.1 w hw).le l,h.2.2⟩⟩⟩,h.2.2.2⟩
theorem LR.rowR {d:aF}(h:LR T X d)(hc:d.cs≠[]):∃c,cR T X (d.el,c)∧(∀f,f∈c↔f∈d.cs)∧c.length=d.cs.length:=
 h.2.2.1.elim (fun k=>⟨d.cs,.inl k,fun _=>iI,rfl⟩) fun k=>k.2.elim (fun k=>absurd k.2 hc) fun k'=>k'.elim (fun k'=>⟨d.cs,.inr ⟨k.1,h.1,.inl k'⟩,fun _=>iI,rfl⟩) fun k'=>k'.2.elim fun z hz=>
  ⟨z.map (·.2),.inr ⟨k.1,h.1,.inr ⟨z,hz.1,hz.2.1,hz.2.2.2.symm▸k'.1,rfl⟩⟩,hz.2.2.1,(aB ..).trans hz.2.2.2⟩
abbrev bF (rows:List aF):List (List ae):=rows.map (·.cs)
noncomputable def big (d:aF):Bool:=gE 2 d.cs.length
theorem Ft (rows:List aF)(h:∀d∈rows,LR T X d)(hc:∀d∈rows,d.cs≠[]):∃q:List Er,q.map (·.1)=rows.map aF.el∧(∀y∈q,cR T X y)∧(∀f,f∈ax (aO q)↔f∈ax (bF rows))∧(ax (aO q)).length=(ax (bF rows)).length∧q.map cL=rows.map big:=by
 induction rows with
 |nil=>exact⟨[],rfl,fun _ h=>(aJ h).elim,fun _=>iI,rfl,rfl⟩
 |cons d rows ih=>
  refine(ih (fun x hx=>h x (.tail _ hx)) fun x hx=>hc x (.tail _ hx)).elim fun q hq=>((h d (.head _)).rowR (hc d (.head _))).elim fun c k=>⟨(d.el,c)::q,congrArg (d.el::·) hq.1,cx.mpr ⟨k.1,hq.2.1⟩,fun f=>?_,?_,?_⟩
  ·exact fB.trans (gU ⟨fun h=>h.imp fun c h=>⟨(k.2.1 c).mp h.1,h.2.imp fun g h=>⟨(hq.2.2.1 g).mp h.1,h.2⟩⟩,fun h=>h.imp fun c h=>⟨(k.2.1 c).mpr h.1,h.2.imp fun g h=>⟨(hq.2.2.1 g).mpr h.1,h.2⟩⟩⟩ fB.symm)
  ·exact(gu c (aO q)).trans ((kF (·*·) k.2.2 hq.2.2.2.1).trans (gu d.cs (bF rows)).symm)
  ·exact kF List.cons (congrArg (gE 2) k.2.2:cL (d.el,c)=big d) hq.2.2.2.2
theorem Fv {α:Type}{p:α→Bool}(q:List α):(q.filter p).length=((q.map p).filter id).length:=by
 rw[List.filter_map,aB];rfl
theorem Fw {q:List Er}{rows:List aF}(h:q.map cL=rows.map big):cnt q=(rows.filter big).length:=(Fv q).trans ((congrArg (fun l=>(l.filter id).length) h).trans (Fv rows).symm)
open Classical in
noncomputable def ec:List aF→Int
 |[]=> -1
 |d::rows=>if d.cs=[] then d.t else ec rows
theorem Fx (rows:List aF)(G:aj b T)(h:∀d∈rows,LR T X d):(fC (rows.map aF.el)=none∧ec rows= -1∧∀d∈rows,d.cs≠[])∨∃v,fC (rows.map aF.el)=some v∧ec rows=v∧(v=2∨v=13)∧¬∀d∈rows,d.cs≠[]:=by
 induction rows with
 |nil=>exact .inl ⟨rfl,rfl,fun _ h=>(aJ h).elim⟩
 |cons d rows ih=>
  by_cases hc:d.cs=[]
  ·have hk:d.s=3∧(d.t=2∨d.t=13):=(h d (.head _)).2.2.1.elim (fun k=>k.2.elim fun a k=>absurd (hc.symm.trans k.2) (cX _ _).symm) fun k=>⟨k.1,k.2.elim (·.1) fun k=>k.elim (fun k=>k.elim fun c k=>absurd (hc.symm.trans k.2) (cX _ _).symm) fun k=>absurd (congrArg cI hc▸k.1:2≤([]:List ae).length) (by decide)⟩
   exact .inr ⟨d.t,if_pos hk,if_pos hc,hk.2,fun z=>z d (.head _) hc⟩
  ·have hn:¬(d.el.2=3∧(d.el.1=2∨d.el.1=13)):=((h d (.head _)).rowR hc).elim fun c k=>k.1.ne G
   have e1:fC ((d::rows).map aF.el)=fC (rows.map aF.el):=if_neg hn
   have e2:ec (d::rows)=ec rows:=if_neg hc
   rw[e1,e2]
   exact(ih fun x hx=>h x (.tail _ hx)).imp (fun k=>⟨k.1,k.2.1,cx.mpr ⟨hc,k.2.2⟩⟩) fun k=>k.imp fun v k=>⟨k.1,k.2.1,k.2.2.1,fun z=>k.2.2.2 fun x hx=>z x (.tail _ hx)⟩
theorem nt {rows:List aF}{v:Int}(hr:Lv (m+1) r)(e:ec rows=v)(k:K (.d (.int v)) o):r.call "_law_lost" [.d (.list (rows.map a7))] o K:=by
 refine hr.call X8 fun r _=>⟨rfl,?_⟩
 have loop:∀(c:List aF) (s1 s2 s3 s4:Option Slot),K (.d (.int (ec c))) o→ba (cJ [1,2,3,4]) DC r (fun l o=>sR (dX (eC (.int 1))) r l o (fun _ o=>K (.d .none) o) K) K (c.map a7) [some (.pv (.d (.list (rows.map a7)))),s1,s2,s3,s4] o:=by
  intro c
  induction c with
  |nil=>exact fun _ _ _ _ k=>k
  |cons d c ih=>
   intro s1 s2 s3 s4 k
   rw[show ec (d::c)=if d.cs=[] then d.t else ec c from rfl] at k
   by_cases hc:d.cs=[]
   ·rw[if_pos hc] at k
    exact cu (by rw[hc];rfl) k
   ·rw[if_neg hc] at k
    exact bW (fun z=>hc (kR.mp ((aB ..).symm.trans (Int.ofNat.inj z)))) (ih _ _ _ _ k)
 exact loop rows none none none none (e▸k)
end Mine.V
namespace Mine.V
variable {r:R}{T T' T'':List al}{x:al}{t t' ro:Int}{b m:Nat}{K:PV→O→Prop}{o:O}{a a' l X:List Int}
theorem Kq.mono {n k:Nat}{d:aa}(h:Kq n d)(l:n≤k):Kq k d:=⟨h.1,ai h.2 l⟩
theorem Fy {xs:List aa}(h:∀x∈xs,Kq 63 x):eI (.list xs)=true:=aP.mpr ⟨keyAll_lay xs (Kq.all h).1,decide_eq_true (gS (Kq.all h).2)⟩
theorem nu {xs:List aa}(h:∀x∈xs,Kq 63 x):eI (.tuple xs)=true:=aP.mpr ⟨keyAll_lay xs (Kq.all h).1,decide_eq_true (gS (Kq.all h).2)⟩
theorem yc {xs ys:List aa}(h:∀x∈xs,Kq 63 x)(h':∀x∈ys,Kq 63 x):dg .Eq (.list xs) (.list ys)=some (n6 xs ys):=if_pos (aP.mpr ⟨Fy h,Fy h'⟩)
theorem yd {xs ys:List aa}(h:∀x∈xs,Kq 63 x)(h':∀x∈ys,Kq 63 x):dg .Eq (.tuple xs) (.tuple ys)=some (n6 xs ys):=if_pos (aP.mpr ⟨nu h,nu h'⟩)
theorem rY {xs:List aa}(h:∀x∈xs,Kq 63 x):n6 xs xs=true:=(eqvAll_key xs xs (Kq.all h).1 (Kq.all h).1).mpr rfl
theorem ye (x:List Int×Int):Kq 3 (dw x):=.tup (dD (P:=Kq 2) (.ints _) .int)
theorem aAf (f:ae):Kq 4 (aQ f):=.tup fun d hd=>(aS.mp hd).elim fun x hx=>hx.2▸ye x
theorem rZ (fs:List ae):∀d∈ch fs,Kq 63 d:=fun d hd=>(aS.mp hd).elim fun f hf=>hf.2▸(aAf f).mono (by decide)
theorem o9 (f:ae):∀d∈en f,Kq 63 d:=fun d hd=>(aS.mp hd).elim fun x hx=>hx.2▸(ye x).mono (by decide)
noncomputable def nw:List ae→List ae
 |[]=>[[]]
 |c::r=>c::r
theorem aAg (c:List ae):nw c≠[]:=by cases c<;>exact cX _ _
theorem FA {c:List ae}(h:c≠[]):nw c=c:=by
 cases c with
 |nil=>exact absurd rfl h
 |cons c r=>rfl
noncomputable def nL (rows:List aF):List (List ae):=rows.map fun d=>nw d.cs
structure Rows (T:List al)(X:List Int)(rows:List aF):Prop where
 lr:∀d∈rows,LR T X d
 len:rows.length≤5
 few:(rows.filter big).length≤2
 six:(ax (nL rows)).length≤6
theorem Rows.le {rows:List aF}(h:Rows T X rows)(l:Le T T'):Rows T' X rows:=⟨fun d hd=>(h.lr d hd).le l,h.len,h.few,h.six⟩
theorem kL {rows:List aF}(h:∀d∈rows,d.cs≠[]):nL rows=bF rows:=me fun d hd=>FA (h d hd)
theorem lV {rows:List aF}(h:∀d∈rows,d.cs≠[]):∀c∈bF rows,c≠[]:=fun c hc=>(aS.mp hc).elim fun d hd=>hd.2▸h d hd.1
theorem aAh {rows:List aF}(h:∀d∈rows,LR T X d):∀f∈ax (bF rows),bu f∧f.length≤3*rows.length:=by
 induction rows with
 |nil=>exact fun f hf=>aM.mp hf▸⟨fun _ h=>(aJ h).elim,bz _⟩
 |cons d rows ih=>
  intro f hf
  refine(fB.mp hf).elim fun c hc=>hc.2.elim fun g hg=>?_
  have h1:=(h d (.head _)).2.2.2 c hc.1
  have h2:=ih (fun x hx=>h x (.tail _ hx)) g hg.1
  rw[hg.2,aG,k5,Nat.mul_succ,gB]
  exact⟨eG.mpr ⟨h1.1,h2.1⟩,n4 h2.2 h1.2⟩
theorem iw {rows:List aF}(h:Rows T X rows):∀f∈ax (bF rows),bu f∧f.length≤15:=fun f hf=>(aAh h.lr f hf).imp_right fun h'=>ai h' (nR 3 h.len)
theorem FC {u v:Nat}(h:u≤v):bP u≤bP v:=by
 induction h with
 |refl=>exact aT _
 |step _ ih=>exact ai ih (nY (Nat.le_mul_of_pos_left _ (by decide)))
theorem FD {α:Type}{f:α→Int×Int}{q:List α}{p:List Er}(h:p.map (·.1)=q.map f):bO (·.1) p=bO f q:=(cD (g:=d4)).symm.trans ((congrArg (jY d4) h).trans (cD ..))
theorem aAi {rows:List aF}(hr:Lv (m+13) r)(G:aj (b+bP 2) T)(h:Rows T X rows)(hc:∀d∈rows,d.cs≠[])(k:∀t T',Le T T'→aj b T'→bZ T' X ro (ax (bF rows)).length t (FS (bF rows))→K (.d (.int t)) (ob T')):r.call "splice" [.o 1,.d (.list (bO aF.el rows)),.d (.int ro)] (ob T) K:=by
 refine(Ft rows h.lr hc).elim fun q hq=>?_
 have hn:cnt q≤2:=Fw hq.2.2.2.2▸h.few
 have hl:q.length≤5:=ai (bg ((aB ..).symm.trans ((congrArg cI hq.1).trans (aB ..)))) h.len
 have h6:(ax (aO q)).length≤6:=by rw[hq.2.2.2.1,←kL hc];exact h.six
 have h1:1≤(ax (aO q)).length:=by rw[hq.2.2.2.1];exact gx.mpr (kK (lV hc))
 rw[←FD hq.1]
 exact E2 q [] (m:=0) (hr.of (ai (cy (nR 2 hn) 9) (gc 13 m))) (G.mono (cy (FC hn) b)) (fun _ h=>(aJ h).elim) (fun _ h=>(aJ h).elim) hq.2.1 (ai hl (by decide)) (fun f hf=>ai (iw h f ((hq.2.2.1 f).mp hf)).2 (by decide)) h1 h6
  fun t T' l G' R=>k t T' l G' (R.congr (fun f=>⟨fun h=>h.imp fun g h=>⟨(hq.2.2.1 g).mp h.1,h.2⟩,fun h=>h.imp fun g h=>⟨(hq.2.2.1 g).mpr h.1,h.2⟩⟩) (bg hq.2.2.2.1))
theorem aAj {xs ys:List aa}{A B:Prop}(e:xs=ys)(h:∀x∈xs,Kq 63 x)(k:A):am (dg .Eq (.list xs) (.list ys)) fun b=>Br b A B:=by
 subst e;exact ah (yc h h) (fy (rY h) k)
theorem FE {c:List (List ae)}{fs:List ae}(hn:fs.Nodup)(h:∀f,f∈fs↔FS c f):a9 bw fs=fb c:=
 x8 hn (i6 _) fun f=>(h f).trans ((gU ⟨fun h=>h.elim fun g h=>aS.mpr ⟨g,h.1,h.2.symm⟩,fun h=>(aS.mp h).imp fun g h=>⟨h.1,h.2.symm⟩⟩ g9.symm))
theorem nx {c:List (List ae)}{n:Nat}(h:∀f∈ax c,bu f∧f.length≤n){f:ae}(hf:FS c f):f.length≤n:=hf.elim fun g hg=>hg.2▸ai (Fq g) (h g hg.1).2
section
variable {rows:List aF}{s0 s1 s2 s3 s4 s5 j:Option Slot}{k:List aa→L→O→Prop}
theorem FF (hl:rows.length≤5)(hk:∀j,k (bO aF.el rows) [s0,s1,s2,s3,s4,s5,j] o):bf (ay 6) tT (ap [ao (.n 6) (eC (.int 0)),ao (.n 6) (eC (.int 1))]) (rows.map a7) [] r [s0,s1,s2,s3,s4,s5,j] o k:=
 eR rows _ (v:=fun d=>d4 d.el) (I:=fun l=>∃j,l=[s0,s1,s2,s3,s4,s5,j]) (fun d h l hl A kk h'=>hl.elim fun j e=>by subst e;exact h' _ ⟨_,rfl⟩) (aX hl (by decide)) ⟨_,rfl⟩ fun l hl=>hl.elim fun j e=>e▸hk j
theorem aAk (hl:rows.length≤5)(hk:∀j,k ((bF rows).map cn) [s0,s1,s2,s3,s4,s5,j] o):bf (ay 6) tT (ao (.n 6) (eC (.int 2))) (rows.map a7) [] r [s0,s1,s2,s3,s4,s5,j] o k:=
 eR rows _ (v:=fun d=>cn d.cs) (I:=fun l=>∃j,l=[s0,s1,s2,s3,s4,s5,j]) (fun d h l hl A kk h'=>hl.elim fun j e=>by subst e;exact h' _ ⟨_,rfl⟩) (aX hl (by decide)) ⟨_,rfl⟩ fun l hl=>hl.elim fun j e=>e▸(cD (g:=cn) (f:=fun d:aF=>d.cs) (l:=rows))▸hk j
end
theorem aAl {rows:List aF}(hr:Lv (m+14) r)(G:aj (b+bP 2) T)(h:Rows T X rows)(hc:∀d∈rows,d.cs≠[])(k:∀t T',Le T T'→aj b T'→bZ T' X ro (ax (bF rows)).length t (FS (bF rows))→K (.d (.int t)) (ob T')):
 r.call "_law_whole" [.o 0,.o 1,.d (.list (rows.map a7)),.d (.int ro)] (ob T) K:=by
 refine hr.call DZ fun r hr=>⟨rfl,⟨rfl,FF h.len fun j=>aAi (m:=m) hr G h hc fun t T' l G' R=>?_⟩⟩
 refine nt (m:=m+12) (v:= -1) hr ((Fx rows G h.lr).elim (fun h=>h.2.1) fun h=>h.elim fun v h=>absurd hc h.2.2.2) ?_
 refine Fo (m:=m+10) hr G' R (kL hc▸h.six) (fun f hf=>ai (nx (iw h) hf) (by decide)) fun fs hn hm=>⟨rfl,aAk h.len fun j=>ya (m:=m+10) hr (lV hc) (kL hc▸h.six) (fun f hf=>(iw h f hf).imp_right fun h=>ai h (by decide)) ?_⟩
 exact ah rfl (aAj (congrArg ch (FE hn hm)) (rZ _) (k t T' l G' R))
noncomputable def FB (T:List al)(X:List Int)(ro:Int)(rows:List aF)(t:Int):Prop:=
 (∀d∈rows,d.cs≠[])∧ec rows= -1∧bZ T X ro (ax (bF rows)).length t (FS (bF rows))∨ec rows=t∧(t=2∨t=13)∧¬∀d∈rows,d.cs≠[]
theorem yf {rows:List aF}(hr:Lv (m+14) r)(G:aj (b+bP 2) T)(h:Rows T X rows)(k:∀t T',Le T T'→aj b T'→FB T' X ro rows t→K (.d (.int t)) (ob T')):
 r.call "_law_whole" [.o 0,.o 1,.d (.list (rows.map a7)),.d (.int ro)] (ob T) K:=by
 refine(Fx rows G h.lr).elim (fun hv=>aAl hr G h hv.2.2 fun t T' l G' R=>k t T' l G' (.inl ⟨hv.2.2,hv.2.1,R⟩)) fun hv=>hv.elim fun v hv=>?_
 refine hr.call DZ fun r hr=>⟨rfl,⟨rfl,FF h.len fun j=>E3 (m:=m+4) hr (fun d hd _=>(h.lr d hd).1) (ai h.len (by decide)) hv.1 ?_⟩⟩
 refine nt (m:=m+12) hr hv.2.1 (o5 (hv.2.2.1.elim (fun e=>e▸(by decide)) fun e=>e▸(by decide)) ?_)
 exact cu rfl (k v T (.refl T) (G.mono (aR _ _)) (.inr ⟨hv.2.1,hv.2.2⟩))
theorem aAm (q:List El):(d9 q ro).kind≠6∧(d9 q ro).kind≠7∧bY (d9 q ro)=true:=by
 unfold d9
 by_cases h:one q
 ·rw[if_pos h];exact⟨(by decide:(11:Int)≠6),(by decide:(11:Int)≠7),rfl⟩
 ·rw[if_neg h];exact⟨(by decide:(12:Int)≠6),(by decide:(12:Int)≠7),rfl⟩
theorem cw.cut {f:ae}(G:aj b T)(h:cw T X t f ro):gr T X (t,f):=h.elim fun q h'=>
 have hk:=aAm (ro:=ro) q;have hl:=o6 G h.list
 ⟨⟨t,.self h'.2.2 (.inl hk.2.1),_,h'.2.2,.inl ⟨hk.2.2,q,h'.1,h'.2.1,o0 q⟩⟩,hl.1.2.2,hl.2.2.1,_,h'.2.2,hk.1⟩
theorem aAn {z:List (Int×ae)}(e:z.map (·.1)=[t]):∃f,z=[(t,f)]:=by
 cases z with
 |nil=>cases e
 |cons w z=>
  have e:=eH e
  exact⟨w.2,by rw[jR.mp e.2,←e.1]⟩
theorem bZ.rowR {F:ae→Prop}{n:Nat}(G:aj b T)(h:bZ T X ro n t F)(hs:bE T t):∃c,cR T X ((t,3),c)∧(∀f,f∈c↔F f)∧c.length≤n∧c≠[]:=by
 refine h.elim fun a h=>(Fm a h.2.2.2.2.1).elim fun z hz=>⟨z.map (·.2),.inr ⟨rfl,hs,?_⟩,fun f=>?_,?_,fun e=>?_⟩
 ·refine h.2.2.2.1.elim (fun e=>(aAn (hz.1.trans e)).elim fun f hf=>.inl ⟨f,(hz.2 (t,f) (hf▸ .head _)).2.cut G,congrArg (jY (·.2)) hf⟩) fun hu=>.inr ⟨z,hz.1.symm▸hu.2,fun w hw=>(hz.2 w hw).2.cut G,?_,rfl⟩
  exact(aB (as:=z) (f:=fun w:Int×ae=>w.1))▸hz.1.symm▸hu.1
 ·exact aS.trans ⟨fun h=>h.elim fun w hw=>hw.2▸(hz.2 w hw.1).1,fun hF=>(h.2.2.2.2.2 f hF).elim fun p hp=>(aS.mp (hz.1▸hp.1:p∈z.map fun w=>w.1)).imp fun w hw=>⟨hw.1,((hz.2 w hw.1).2.fn G (hw.2▸hp.2)).1⟩⟩
 ·rw[aB,←aB (as:=z) (f:=fun w:Int×ae=>w.1),hz.1];exact h.1
 ·exact h.2.1 (hz.1.symm.trans (congrArg (jY (·.1)) (jR.mp e)))
theorem pa {c d:List ae}{f:ae}:f∈ax [c,d]↔∃g∈c,∃k∈d,f=g++k:=
 fB.trans ⟨fun h=>h.imp fun g h=>⟨h.1,h.2.elim fun k h=>(fB.mp h.1).imp fun k' hk=>⟨hk.1,hk.2.elim fun e he=>by rw[h.2,he.2,aM.mp he.1,ck]⟩⟩,
  fun h=>h.imp fun g h=>⟨h.1,h.2.elim fun k h=>⟨k++[],fB.mpr ⟨k,h.1,[],.head _,rfl⟩,by rw[ck];exact h.2⟩⟩⟩
theorem yg (c d:List ae):(ax [c,d]).length=c.length*d.length:=(gu c [d]).trans (congrArg (c.length*·) ((gu d []).trans (Nat.mul_one _)))
theorem aAo {c d c' d':List ae}(hc:∀f,f∈c↔f∈c')(hd:∀f,f∈d↔f∈d')(f:ae):FS [c,d] f↔FS [c',d'] f:=by
 have e:∀g,g∈ax [c,d]↔g∈ax [c',d']:=fun g=>pa.trans (gU ⟨fun h=>h.imp fun g h=>⟨(hc g).mp h.1,h.2.imp fun k h=>⟨(hd k).mp h.1,h.2⟩⟩,fun h=>h.imp fun g h=>⟨(hc g).mpr h.1,h.2.imp fun k h=>⟨(hd k).mpr h.1,h.2⟩⟩⟩ pa.symm)
 exact⟨fun h=>h.imp fun g h=>⟨(e g).mp h.1,h.2⟩,fun h=>h.imp fun g h=>⟨(e g).mpr h.1,h.2⟩⟩
theorem aAp {u v ro':Int}{F F':ae→Prop}{n n':Nat}(hr:Lv (m+13) r)(G:aj (b+bP 2) T)(h1:bZ T X ro' n u F)(h2:bZ T X ro n' v F')(s1:bE T u)(s2:bE T v)(hn:n*n'≤6)(hl1:∀f,F f→f.length≤15)(hl2:∀f,F' f→f.length≤15)
 (k:∀c d t T',(∀f,f∈c↔F f)→(∀f,f∈d↔F' f)→Le T T'→aj b T'→bZ T' X ro 6 t (FS [c,d])→K (.d (.int t)) (ob T')):r.call "splice" [.o 1,.d (.list [.tuple [.int u,.int 3],.tuple [.int v,.int 3]]),.d (.int ro)] (ob T) K:=by
 refine(h1.rowR G s1).elim fun c hc=>(h2.rowR G s2).elim fun d hd=>?_
 have h6:(ax [c,d]).length≤6:=(yg c d)▸ai (Nat.mul_le_mul hc.2.2.1 hd.2.2.1) hn
 have hn:cnt [((u,3),c),((v,3),d)]≤2:=List.length_filter_le ..
 refine E2 [((u,3),c),((v,3),d)] [] (m:=0) (hr.of (ai (cy (nR 2 hn) 9) (gc 13 m))) (G.mono (cy (FC hn) b)) (fun _ h=>(aJ h).elim) (fun _ h=>(aJ h).elim) (dD hc.1 hd.1) (show 2≤300 by decide) (fun f hf=>?_) ?_ h6 fun t T' l G' R=>k c d t T' hc.2.1 hd.2.1 l G' (R.congr (fun _=>iI) h6)
 ·refine(pa.mp hf).elim fun g hg=>hg.2.elim fun k hk=>?_
  rw[hk.2,aG]
  exact ai (n4 (hl1 g ((hc.2.1 g).mp hg.1)) (hl2 k ((hd.2.1 k).mp hk.1))) (by decide)
 ·exact(yg c d).symm▸Nat.mul_pos (gx.mpr hc.2.2.2) (gx.mpr hd.2.2.2)
theorem FG (l:List Bool):ka (l.map .bool)=some l:=kB (en:=PyData.bool) (fun _=>rfl) l
theorem aAq {f g:ae}(h:en f=en g):f=g:=a8 ((kB x9 f).symm.trans ((congrArg (jp pR) h).trans (kB x9 g)))
theorem r8 {c:List (List ae)}{f:ae}:f∈fb c↔FS c f:=(dy bw _).mem_iff.trans (g9.trans (aS.trans ⟨fun h=>h.imp fun g h=>⟨h.1,h.2.symm⟩,fun h=>h.imp fun g h=>⟨h.1,h.2.symm⟩⟩))
theorem yh (c:List (List ae)):(fb c).length≤(ax c).length:=ai (bg (dy bw _).length_eq) (ai (Ed _) (bg (aB ..)))
section
variable {rows:List aF}{k:List aa→L→O→Prop}{s0 s1 s2 s3 s4 s5 s6 s7 s8 s9 s10 s11 s12 j:Option Slot}
theorem yi {α:Type}{enc v:α→aa}{e:EP PV}(q:List α)(hl:q.length≤300)(st:∀x∈q,∀kk:aa→L→O→Prop,kk (v x) [s0,s1,s2,s3,s4,s5,s6,s7,s8,s9,s10,s11,s12,some (.pv (.d (enc x)))] o→eD e r [s0,s1,s2,s3,s4,s5,s6,s7,s8,s9,s10,s11,s12,some (.pv (.d (enc x)))] o kk)(hk:∀j,k (q.map v) [s0,s1,s2,s3,s4,s5,s6,s7,s8,s9,s10,s11,s12,j] o):
 bf (ay 13) tT e (q.map enc) [] r [s0,s1,s2,s3,s4,s5,s6,s7,s8,s9,s10,s11,s12,j] o k:=
 eR q _ (I:=fun l=>∃j,l=[s0,s1,s2,s3,s4,s5,s6,s7,s8,s9,s10,s11,s12,j]) (fun d h l hl A kk h'=>hl.elim fun j e=>by subst e;exact st d h kk (h' _ ⟨_,rfl⟩)) (aX hl (by decide)) ⟨_,rfl⟩ fun l hl=>hl.elim fun j e=>e▸hk j
theorem FH (hl:rows.length≤5)(hk:∀j,k ((bF rows).map cn) [s0,s1,s2,s3,s4,s5,s6,s7,s8,s9,s10,s11,s12,j] o):bf (ay 13) tT (ao (.n 13) (eC (.int 2))) (rows.map a7) [] r [s0,s1,s2,s3,s4,s5,s6,s7,s8,s9,s10,s11,s12,j] o k:=
 yi (enc:=a7) rows (v:=fun d:aF=>cn d.cs) (ai hl (by decide)) (fun d h kk h'=>h') fun j=>(cD (g:=cn) (f:=fun d:aF=>d.cs) (l:=rows))▸hk j
end
theorem FJ {rows:List aF}{N:L→O→Prop}{u:PV→O→Prop}{p:Bool}{hs:List aa}{s0 s1 s2 s3 s4 s5 s6 s7 s8 j:Option Slot}(hr:Lv (m+3) r)(h:Rows T X rows)(hc:∀d∈rows,d.cs≠[])(hl:hs.length≤5)
 (k:∀p' j,(p'=true→p=true∧∀f∈ax (bF rows),cv f=f)→N [s0,s1,s2,s3,s4,s5,s6,s7,s8,some (.pv (.d (.bool p'))),some (.lst (hs++[cn (fb (bF rows))])),some (.pv (.d (.list (rows.map a7)))),j] (ob T)):
 DF r [s0,s1,s2,s3,s4,s5,s6,s7,s8,some (.pv (.d (.bool p))),some (.lst hs),some (.pv (.d (.list (rows.map a7)))),j] (ob T) N u:=by
 have h6:(ax (bF rows)).length≤6:=kL hc▸h.six
 have hf:=fun f hf=>(iw h f hf).imp_right fun h=>ai h (show 15≤300 by decide)
 refine⟨rfl,FH h.len fun j=>Fj (m:=m+2) hr (lV hc) (ai h6 (by decide)) (fun f h=>(hf f h).2) ?_⟩
 have fin:∀p':Bool,(p'=true→p=true∧∀f∈ax (bF rows),cv f=f)→∀j,DE r [s0,s1,s2,s3,s4,s5,s6,s7,s8,some (.pv (.d (.bool p'))),some (.lst hs),some (.pv (.d (.list (rows.map a7)))),j] (ob T) N u:=fun p' hp j=>by
  refine⟨rfl,FH h.len fun j'=>ya (m:=m) hr (lV hc) h6 hf ⟨rfl,?_⟩⟩
  refine yi (enc:=aQ) (v:=ce) (fb (bF rows)) (ai (ai (yh _) h6) (by decide)) (fun f h kk h'=>h') fun j''=>⟨aX hl (by decide),?_⟩
  exact k p' j hp
 cases p with
 |false=>exact fin false (fun e=>k7 e) _
 |true=>
  refine⟨rfl,yi (enc:=ce) (v:=fun f=>.bool (n6 (en (cv f)) (en f))) (ax (bF rows)) (ai h6 (by decide)) (fun f hm kk h'=>Ff (m:=m+1) hr (hf f hm).1 (hf f hm).2 ?_) fun j'=>?_⟩
  ·exact ah rfl (ah (yd (o9 _) (o9 _)) h')
  ·have e:(ax (bF rows)).map (fun f=>PyData.bool (n6 (en (cv f)) (en f)))=((ax (bF rows)).map fun f=>n6 (en (cv f)) (en f)).map .bool:=(cD ..).symm
   rw[e]
   refine ah rfl (ah rfl (ah (FG _) (fin _ (fun e=>⟨rfl,fun f hm=>?_⟩) _)))
   have:=dn.mp e _ (aS.mpr ⟨f,hm,rfl⟩)
   exact aAq ((eqvAll_key _ _ (Kq.all (o9 _)).1 (Kq.all (o9 _)).1).mp this)
theorem FK (h:dO a):dO (norm (a++[4])):=.norm (fun z=>h.1 (sM.mp z).1) (eG.mpr ⟨h.2.1,fun y hy=>aM.mp hy▸(by decide:(4:Int)∈dE)⟩)
theorem aAr {x:List Int×Int}(h:dO x.1):dO (hA x):=by
 by_cases h1:x.2=1
 ·rw[rz h1];exact FK h
 ·rw[oW h1];exact h
theorem aAs {f:ae}(h:bu f):bu (cv f):=by
 by_cases h3:cj f 3
 ·rw[na h3];exact h
 ·rw[lR h3]
  have hat:∀x∈f,dO x.1:=fun x hx=>h.at hx fun z=>h3 ⟨x,hx,z⟩
  have inF:∀x∈fr f,x∈f:=fun x hx=>jJ f▸cS _ hx
  refine eG.mpr ⟨fun x hx=>(Ez hx).elim fun y hy=>hy.2.elim (fun e=>e▸h y (inF y hy.1)) fun e=>e.1▸ .inl ⟨.inl rfl,FK (hat y (inF y hy.1))⟩,eG.mpr ⟨?_,fun x hx=>h x (x7 (cH _ hx))⟩⟩
  have hm:∀x∈md f,dO (hA x):=fun x hx=>aAr (hat x (x7 (cS _ hx)))
  cases hd:md f with
  |nil=>exact fun _ h=>(aJ h).elim
  |cons y g=>
   rw[hd] at hm
   exact fun x hx=>aM.mp hx▸ .inl ⟨.inr (.inr rfl),.norm (fun z=>(hm y (.head _)).1 (sM.mp z).1) fun w hw=>(jh.mp hw).elim fun y hy=>(hm y hy.1).2.1 w hy.2⟩
theorem aAt (c d:List (List ae)):∀f,f∈ax (c++d)↔∃g∈ax c,∃k∈ax d,f=g++k:=by
 induction c with
 |nil=>exact fun f=>⟨fun h=>⟨[],.head _,f,h,rfl⟩,fun h=>h.elim fun g h=>h.2.elim fun k hk=>by rw[hk.2,aM.mp h.1];exact hk.1⟩
 |cons cs c ih=>exact fun f=>fB.trans ⟨fun h=>h.elim fun e h=>h.2.elim fun g hg=>((ih g).mp hg.1).elim fun g1 h1=>⟨e++g1,fB.mpr ⟨e,h.1,g1,h1.1,rfl⟩,h1.2.imp fun k hk=>⟨hk.1,by rw[hg.2,hk.2,cz]⟩⟩,
  fun h=>h.elim fun g h=>(fB.mp h.1).imp fun e he=>⟨he.1,he.2.elim fun g1 h1=>h.2.elim fun k hk=>⟨g1++k,(ih _).mpr ⟨g1,h1.1,k,hk.1,rfl⟩,by rw[hk.2,h1.2,cz]⟩⟩⟩
theorem FL (c d:List (List ae)):(ax (c++d)).length=(ax c).length*(ax d).length:=by
 induction c with
 |nil=>exact(Nat.one_mul _).symm
 |cons cs c ih=>exact(gu cs _).trans ((congrArg (cs.length*·) ih).trans ((Nat.mul_assoc ..).symm.trans (congrArg (·*(ax d).length) (gu cs c).symm)))
theorem Rows.app {p q:List aF}(h:Rows T X (p++q)):Rows T X p∧Rows T X q:=by
 have e:nL (p++q)=nL p++nL q:=bJ
 have h6:=h.six
 rw[e,FL] at h6
 have pos:∀rows:List aF,0<(ax (nL rows)).length:=fun rows=>gx.mpr (kK fun c hc=>(aS.mp hc).elim fun d hd=>hd.2▸aAg _)
 have hl:=h.len
 have hf:=h.few
 rw[aG] at hl
 rw[List.filter_append,aG] at hf
 exact⟨⟨fun d hd=>h.lr d (cS _ hd),ai (aR _ _) hl,ai (aR _ _) hf,ai (yU _ (pos q)) h6⟩,
  ⟨fun d hd=>h.lr d (cH _ hd),ai (gc _ _) hl,ai (gc _ _) hf,ai (Nat.le_mul_of_pos_left _ (pos p)) h6⟩⟩
theorem FB.le {rows:List aF}(h:FB T X ro rows t)(l:Le T T'):FB T' X ro rows t:=h.imp_left fun h=>⟨h.1,h.2.1,h.2.2.le l⟩
theorem FB.small {rows:List aF}(G:aj b T)(hX:d5 T X)(hR:Rows T X rows)(h:FB T X ro rows t):bE T t:=by
 refine h.elim (fun h=>h.2.2.small G hX (kL h.1▸hR.six) fun f hf=>ai (nx (iw hR) hf) (by decide)) fun h=>jM (q:=[t]) G hX (show 1≤11 by decide) (fun c hc=>?_) (.inl (.head _))
 rw[aM.mp hc]
 exact h.2.1.elim (fun e=>⟨.key "never",e▸G.le ⟨by decide,rfl⟩,bz _,fun _ h=>(aJ h).elim⟩) fun e=>⟨.key "error",e▸G.le ⟨by decide,rfl⟩,bz _,fun _ h=>(aJ h).elim⟩
theorem FB.nn {rows:List aF}(h:FB T X ro rows t)(hs:bE T t):¬t<0:=hs.elim fun C h=>(h.1 t h.2.2).elim fun x hx=>jW.mpr hx.1.1
theorem aAu {p q:List aF}(h:∀d∈p,d.cs≠[]):ec (p++q)=ec q:=by
 induction p with
 |nil=>rfl
 |cons d p ih=>exact(if_neg (h d (.head _))).trans (ih fun x hx=>h x (.tail _ hx))
theorem aAv {p q:List aF}(h:¬∀d∈p,d.cs≠[]):ec (p++q)=ec p:=by
 induction p with
 |nil=>exact absurd (fun _ h=>(aJ h).elim) h
 |cons d p ih=>
  by_cases hc:d.cs=[]
  ·exact(if_pos hc).trans (if_pos hc).symm
  ·exact(if_neg hc).trans ((ih fun z=>h (cx.mpr ⟨hc,z⟩)).trans (if_neg hc).symm)
theorem aAw {A B:List (List ae)}{c d:List ae}(hc:∀f,f∈c↔FS A f)(hd:∀f,f∈d↔FS B f)(pA:∀f∈ax A,cv f=f)(pB:∀f∈ax B,cv f=f)(f:ae):FS [c,d] f↔FS (A++B) f:=by
 have e:∀{A:List (List ae)} {c:List ae},(∀f,f∈c↔FS A f)→(∀f∈ax A,cv f=f)→∀f,f∈c↔f∈ax A:=fun hc pA f=>(hc f).trans ⟨fun h=>h.elim fun g h=>by rw[h.2,pA g h.1];exact h.1,fun h=>⟨f,h,(pA f h).symm⟩⟩
 have e2:∀g,g∈ax [c,d]↔g∈ax (A++B):=fun g=>pa.trans (gU ⟨fun h=>h.imp fun g h=>⟨(e hc pA g).mp h.1,h.2.imp fun k h=>⟨(e hd pB k).mp h.1,h.2⟩⟩,fun h=>h.imp fun g h=>⟨(e hc pA g).mpr h.1,h.2.imp fun k h=>⟨(e hd pB k).mpr h.1,h.2⟩⟩⟩ (aAt A B g).symm)
 exact⟨fun h=>h.imp fun g h=>⟨(e2 g).mp h.1,h.2⟩,fun h=>h.imp fun g h=>⟨(e2 g).mpr h.1,h.2⟩⟩
theorem aAx {A B:List (List ae)}{c d:List ae}{p:Bool}{got whole:Int}{N:L→O→Prop}{s1 s2 s4 s6 s7 s11 s12:Option Slot}(hr:Lv (m+3) r)(G:aj b T)(hA:∀f∈ax A,bu f∧f.length≤15)(hB:∀f∈ax B,bu f∧f.length≤15)(nA:ax A≠[])(nB:ax B≠[])(h6:(ax A).length*(ax B).length≤6)
 (hc:∀f,f∈c↔FS A f) (hd:∀f,f∈d↔FS B f) (R:bZ T X ro 6 got (FS [c,d])) (hp:p=true→got=whole) (k:K (.d (.bool true)) (ob T)):
 DD r [some (.pv (.o 0)),s1,s2,some (.pv (.d (.int ro))),s4,some (.pv (.d (.int whole))),s6,s7,some (.pv (.d (.int got))),some (.pv (.d (.bool p))),some (.lst [cn (fb A),cn (fb B)]),s11,s12] (ob T) N K:=by
 have fl:∀{A:List (List ae)},(∀f∈ax A,bu f∧f.length≤15)→∀f∈fb A,bu f∧f.length≤15:=fun hA f hf=>(r8.mp hf).elim fun g hg=>hg.2▸⟨aAs (hA g hg.1).1,ai (Fq g) (hA g hg.1).2⟩
 have hsl:∀f∈ax [fb A,fb B],bu f∧f.length≤30:=fun f hf=>(pa.mp hf).elim fun g hg=>hg.2.elim fun k hk=>by
  rw[hk.2,aG]
  exact⟨eG.mpr ⟨(fl hA g hg.1).1,(fl hB k hk.1).1⟩,n4 (fl hA g hg.1).2 (fl hB k hk.1).2⟩
 have eF:=aAo (fun f=>(hc f).trans r8.symm) fun f=>(hd f).trans r8.symm
 have ne:∀{A:List (List ae)},ax A≠[]→fb A≠[]:=fun h=>(nO _ h).elim fun f hf=>List.ne_nil_of_mem (r8.mpr ⟨f,hf,rfl⟩)
 refine Fo (m:=m) hr G R (aT _) (fun f hf=>ai (nx hsl ((eF f).mp hf)) (by decide)) fun fs hn hm=>?_
 refine ya (c:=[fb A,fb B]) (m:=m) hr (dD (ne nA) (ne nB)) (yg _ _▸ai (Nat.mul_le_mul (yh A) (yh B)) h6) (fun f hf=>(hsl f hf).imp_right fun h=>ai h (by decide)) ?_
 have e:a9 bw fs=fb [fb A,fb B]:=FE hn fun f=>(hm f).trans (eF f)
 rw[e]
 refine ah rfl (ah (yc (rZ _) (rZ _)) ?_)
 rw[rY (rZ _)]
 refine ah rfl ?_
 by_cases hg:got=whole
 ·have e:(bv got).eqv (bv whole)=true:=decide_eq_true hg
  exact fy (c:=decide (got=whole)) e (by rw[e];exact k)
 ·refine fX (c:=decide (got=whole)) (decide_eq_false hg) ?_
  cases p with
  |true=>exact absurd (hp rfl) hg
  |false=>exact k
theorem aFX {a:Int}{A B:Prop}(h:¬a<0)(x:B):am (dg .Lt (.int a) (.int 0)) fun b=>Br b A B:=f0 h x
theorem FM {p:List aF}{u v w whole:Int}{i:aa}{N:L→O→Prop}(hr:Lv (m+14) r)(su:bE T u)(sv:bE T v)(e1:fC [(u,3),(v,3)]=some w)(e2:ec p=w)(h0:0≤w)(ew:whole=w)(k:K (.d (.bool true)) (ob T)):
 xq r [some (.pv (.o 0)),some (.pv (.o 1)),some (.pv (.d (.list (p.map a7)))),some (.pv (.d (.int ro))),some (.pv (.d i)),some (.pv (.d (.int whole))),some (.pv (.d (.int u))),some (.pv (.d (.int v))),none,none,none,none,none] (ob T) N K:=by
 refine E3 (f:=fun e:Int×Int=>e) (q:=[(u,3),(v,3)]) (m:=m+5) hr (fun x hx _=>dD (P:=fun e:Int×Int=>bE T e.1) su sv x hx) (show 2≤300 by decide) e1 ?_
 refine nt (m:=m+13) hr e2 (o5 h0 ?_)
 have e:(bv w).eqv (bv whole)=true:=decide_eq_true ew.symm
 refine ah rfl (ah rfl ?_)
 show K (.d (.bool ((bv w).eqv (bv whole)))) (ob T)
 rw[e];exact k
theorem aAy {p q:List aF}{u v whole i:Int}{n:Nat}{N:L→O→Prop}(hr:Lv (m+14) r)(G:aj (b+bP 2) T)(h:Rows T X (p++q))(hc:∀d∈p++q,d.cs≠[])(hi:i=p.length)(su:bE T u)(sv:bE T v)
 (Ru:bZ T X (1 - ro) (ax (bF p)).length u (FS (bF p))) (Rv:bZ T X ro (ax (bF q)).length v (FS (bF q))) (Rw:bZ T X ro n whole (FS (bF (p++q)))) (hl:ec (p++q)= -1) (k:∀T',K (.d (.bool true)) (ob T')):
 xq r [some (.pv (.o 0)),some (.pv (.o 1)),some (.pv (.d (.list ((p++q).map a7)))),some (.pv (.d (.int ro))),some (.pv (.d (.int i))),some (.pv (.d (.int whole))),some (.pv (.d (.int u))),some (.pv (.d (.int v))),none,none,none,none,none] (ob T) N K:=by
 have hp:=h.app.1
 have hq:=h.app.2
 have hcp:∀d∈p,d.cs≠[]:=fun d hd=>hc d (cS _ hd)
 have hcq:∀d∈q,d.cs≠[]:=fun d hd=>hc d (cH _ hd)
 have e:bF (p++q)=bF p++bF q:=bJ
 have h6:(ax (bF p)).length*(ax (bF q)).length≤6:=by rw[←FL,←e,←kL hc];exact h.six
 rw[e] at Rw
 refine aAp (m:=m+1) hr G Ru Rv su sv h6 (fun f hf=>nx (iw hp) hf) (fun f hf=>nx (iw hq) hf) fun c d got T' hcc hdd l G' R=>?_
 refine nt (m:=m+13) hr hl ?_
 refine ah rfl ?_
 refine ah (rB (f:=a7) hi) ?_
 refine ah rfl ?_
 refine ah (rC (f:=a7) hi) ?_
 refine FJ (m:=m+11) (X:=X) hr (hp.le l) hcp (bz _) fun p1 j1 q1=>?_
 refine FJ (m:=m+11) (X:=X) hr (hq.le l) hcq (show 1≤5 by decide) fun p2 j2 q2=>?_
 exact aAx (m:=m+11) hr G' (iw hp) (iw hq) (kK (lV hcp)) (kK (lV hcq)) h6 hcc hdd R (fun z=>(R.congr (aAw hcc hdd (q1 (q2 z).1).2 (q2 z).2) (aT _)).inj G' (Rw.le l)) (k T')
theorem aAz {u v:Int}(h:¬(u=2∨u=13))(hv:v=2∨v=13):fC [(u,3),(v,3)]=some v:=(if_neg fun z=>h z.2).trans (if_pos ⟨rfl,hv⟩)
theorem aAA {u v:Int}(h:u=2∨u=13):fC [(u,3),(v,3)]=some u:=if_pos ⟨rfl,h⟩
theorem yj {v:Int}(h:v=2∨v=13):0≤v:=h.elim (fun e=>e▸(by decide)) fun e=>e▸(by decide)
theorem aAB {p q:List aF}{u v whole i:Int}{N:L→O→Prop}(hr:Lv (m+14) r)(G:aj (b+bP 2) T)(h:Rows T X (p++q))(hi:i=p.length)(su:bE T u)(sv:bE T v)(fu:FB T X (1 - ro) p u)(fv:FB T X ro q v)(fw:FB T X ro (p++q) whole)(k:∀T',K (.d (.bool true)) (ob T')):
 DG r [some (.pv (.o 0)),some (.pv (.o 1)),some (.pv (.d (.list ((p++q).map a7)))),some (.pv (.d (.int ro))),some (.pv (.d (.int i))),some (.pv (.d (.int whole))),some (.pv (.d (.int u))),some (.pv (.d (.int v))),none,none,none,none,none] (ob T) N K:=by
 refine f0 (fu.nn su) (f0 (fv.nn sv) ?_)
 refine fu.elim (fun fu=>?_) fun fu=>?_
 ·refine fv.elim (fun fv=>?_) fun fv=>?_
  ·have hc:∀d∈p++q,d.cs≠[]:=eG.mpr ⟨fu.1,fv.1⟩
   refine fw.elim (fun fw=>aAy hr G h hc hi su sv fu.2.2 fv.2.2 fw.2.2 fw.2.1 k) fun fw=>absurd hc fw.2.2
  ·have hne:¬(u=2∨u=13):=fun z=>(fu.2.2.rowR G su).elim fun c hc=>hc.1.ne G ⟨rfl,z⟩
   have e:ec (p++q)=v:=(aAu fu.1).trans fv.1
   exact FM hr su sv (aAz hne fv.2.1) e (yj fv.2.1) (fw.elim (fun fw=>absurd (fun d hd=>fw.1 d (cH _ hd)) fv.2.2) fun fw=>fw.1.symm.trans e) (k T)
 ·have e:ec (p++q)=u:=(aAv fu.2.2).trans fu.1
  exact FM hr su sv (aAA fu.2.1) e (yj fu.2.1) (fw.elim (fun fw=>absurd (fun d hd=>fw.1 d (cS _ hd)) fu.2.2) fun fw=>fw.1.symm.trans e) (k T)
theorem aAC {p q:List aF}{whole i:Int}(hr:Lv (m+15) r)(G:aj (b+bP 2+bP 2+bP 2) T)(hX:d5 T X)(h:Rows T X (p++q))(hi:i=p.length)(hw:FB T X ro (p++q) whole)(k:∀T',K (.d (.bool true)) (ob T')):
 r.call "_law_parted" [.o 0,.o 1,.d (.list ((p++q).map a7)),.d (.int ro),.d (.int i),.d (.int whole)] (ob T) K:=by
 refine hr.call X9 fun r hr=>⟨rfl,ah (rB (f:=a7) hi) ?_⟩
 refine yf (m:=m) (X:=X) hr G h.app.1 fun u T1 l1 G1 fu=>?_
 refine ah (rC (f:=a7) hi) ?_
 refine yf (m:=m) (X:=X) hr G1 (h.app.2.le l1) fun v T2 l2 G2 fv=>?_
 have l12:=l1.trans l2
 have hX2:=hX.le l12
 have fu:=fu.le l2
 exact aAB hr G2 (h.le l12) hi (fu.small G2 hX2 (h.app.1.le l12)) (fv.small G2 hX2 (h.app.2.le l12)) fu fv (hw.le l12) k
theorem aAD {α:Type}{f:α→Int×Int}{q:List α}(hr:Lv (m+1) r)(k:K (.d (.bool (q.any fun x=>decide ((f x).2=3)))) o):r.call "has_spread" [.d (.list (bO f q))] o K:=by
 refine hr.call XH fun r _=>⟨rfl,?_⟩
 have loop:∀(c:List α) (s0 j:Option Slot),K (.d (.bool (c.any fun x=>decide ((f x).2=3)))) o→ba (ay 1) Di r (fun l o=>sR (eC (.bool false)) r l o (fun _ o=>K (.d .none) o) K) K (bO f c) [s0,j] o:=by
  intro c
  induction c with
  |nil=>exact fun _ _ k=>k
  |cons x c ih=>
   intro s0 j k
   rw[List.any_cons] at k
   by_cases h:(f x).2=3
   ·rw[decide_eq_true h] at k;exact cu h k
   ·rw[decide_eq_false h] at k;exact bW h (ih _ _ k)
 exact loop q _ none k
noncomputable def eT:Nat→List aF→List Int
 | _,[]=>[]
 |i,d::c=>if big d=true then (i:Int)::eT (i+1) c else eT (i+1) c
theorem FN (c:List aF):∀i,(eT i c=[]∧dQ big i c= -1)∨∃j q,eT i c=j::q∧dQ big i c=j:=by
 induction c with
 |nil=>exact fun _=>.inl ⟨rfl,rfl⟩
 |cons d c ih=>
  intro i
  by_cases h:big d=true
  ·exact .inr ⟨i,_,if_pos h,if_pos h⟩
  ·have e1:eT i (d::c)=eT (i+1) c:=if_neg h
   have e2:dQ big i (d::c)=dQ big (i+1) c:=if_neg h
   rw[e1,e2];exact ih (i+1)
theorem aAE (c:List aF):∀i,(eT i c).length=(c.filter big).length:=by
 induction c with
 |nil=>exact fun _=>rfl
 |cons d c ih=>
  intro i
  rw[List.filter_cons]
  by_cases h:big d=true
  ·rw[if_pos h];exact(congrArg cI (if_pos h:eT i (d::c)= _)).trans (congrArg (·+1) (ih (i+1)))
  ·rw[if_neg h];exact(congrArg cI (if_neg h:eT i (d::c)= _)).trans (ih (i+1))
section
variable {rows:List aF}{k:List aa→L→O→Prop}{s0 s1 s3 s4 s5 s6 s7 s8 s9 s10 s11 s12 s13:Option Slot}
theorem aAF {d:aF}{A B:Prop}(k:Br (big d) A B):am (dg .Gt (.int (d.cs.map ce).length) (.int 1)) fun b=>Br b A B:=by
 rw[aB]
 refine ah (a:=big d) (congrArg some ?_) k
 exact jU.mpr (decide_eq_true_iff.trans (ib.trans (Iff.of_eq Nat.ble_eq.symm:2≤d.cs.length↔_)))
theorem aAG (c:List aF):∀(i:Nat) (acc:List aa) (j:Option Slot),rows.drop i=c→acc.length+c.length≤300→(∀j,k (acc++aA (eT i c)) [s0,s1,some (.pv (.d (.list (rows.map a7)))),s3,s4,s5,s6,s7,s8,s9,s10,s11,s12,s13,j] o)→
 bf (ay 14) (av .Gt (bT (sV (bq (ao (.n 2) (eV 14)) (eC (.int 2))))) (eC (.int 1))) (eV 14) (fY (gT i c.length)) acc r [s0,s1,some (.pv (.d (.list (rows.map a7)))),s3,s4,s5,s6,s7,s8,s9,s10,s11,s12,s13,j] o k:=by
 induction c with
 |nil=>exact fun i acc j _ _ hk=>(ck acc).subst (motive:=fun z=>k z _ o) (hk j)
 |cons d c ih=>
  intro i acc j h hn hk
  refine ah (jG (f:=a7) (i8 h)) ?_
  refine aAF (d:=d) ?_
  by_cases hb:big d=true
  ·have e:eT i (d::c)=(i:Int)::eT (i+1) c:=if_pos hb
   rw[e] at hk
   refine fy hb ⟨aX (ai (aR _ _) hn) (by decide),?_⟩
   exact ih (i+1) (acc++[.int i]) _ (fZ h) (by rw[aG,dS,gB [_].length];exact hn) fun j=>by rw[cz];exact hk j
  ·have e:eT i (d::c)=eT (i+1) c:=if_neg hb
   rw[e] at hk
   exact fX (gz.mpr hb) (ih (i+1) acc _ (fZ h) (ai (dI _) hn) hk)
end
theorem gN.ne {k:Int}{s:Str}(G:aj b T)(h:eS T t true)(hb:az aZ k (.key s)):t≠k:=fun e=>by
 have hk:=G.le hb
 generalize hc:true=c at h
 cases h with
 |one h1 h2=>rw[h1.fn (e▸hk)] at hc;cases hc
 |two h1=>exact al.noConfusion (h1.fn (e▸hk))
theorem gN.cut (G:aj b T)(h:gN T t)(hx:t=19∨t=24∨t∈X):hG T X t [([t],3)] t:=
 h.2.elim fun x hx'=>⟨.self hx'.1 (.inr h.1),x,hx'.1,.inr ⟨hx'.2.1,.inr ⟨gN.ne G h.1 (s:="any") ⟨by decide,rfl⟩,.inl ⟨h.1,rfl,fun y hy=>aM.mp hy▸ .inr ⟨rfl,rfl,h,hx⟩⟩⟩⟩⟩
theorem ER.one {y:El}(G:aj b T)(h:ER T X y):rR T X (y.1,y.2.2) [y.2]:=
 h.imp (fun h=>⟨h.1,y.2.1,h.2,rfl⟩) fun h=>⟨h.1,y.1,by
  rw[show y.2=([y.1],3) from Prod.ext h.2.1 h.1];exact h.2.2.1.cut G h.2.2.2⟩
theorem aAH {q:List El}(G:aj b T)(h:bm T X q):fC (q.map fun y=>(y.1,y.2.2))=none:=by
 induction q with
 |nil=>rfl
 |cons y q ih=>
  refine(if_neg fun z=>?_).trans (ih fun x hx=>h x (.tail _ hx))
  have hy:=(h y (.head _)).resolve_left fun w=>by rcases w.1 with w|w|w<;>exact absurd (z.1.symm.trans w) (by decide)
  exact z.2.elim (gN.ne G hy.2.2.1.1 (s:="never") ⟨by decide,rfl⟩) (gN.ne G hy.2.2.1.1 (s:="error") ⟨by decide,rfl⟩)
theorem ER.row {y:El}(G:aj b T)(h:ER T X y):∃x,az T y.1 x∧(y.2.2=3→x.kind≠6):=
 h.elim (fun h=>(h.2.pt G).2.elim (fun u=>⟨_,u,fun z=>by rcases h.1 with w|w|w<;>exact absurd (z.symm.trans w) (by decide)⟩) fun u=>u.2.imp fun x hx=>⟨hx.1,fun _=>hx.2⟩) fun h=>h.2.2.1.2.imp fun x hx=>⟨hx.1,fun _=>hx.2.2⟩
theorem FO {q:List El}{p:Int}(hr:Lv (m+9) r)(G:aj (b+100) T)(hX:d5 T X)(h:bm T X q)(hp:az T p (d9 q ro))(hs:cv (fm q)=fm q)(hl:q.length≤49)(k:∀T',Le T T'→aj b T'→K (.d (.int p)) (ob T')):
 r.call "splice" [.o 1,.d (.list (aW q)),.d (.int ro)] (ob T) K:=by
 have e:q.flatMap (fun y=>[y.2])=fm q:=List.map_eq_flatMap.symm
 refine EV (q:=q) (f:=fun y:El=>(y.1,y.2.2)) (g:=fun y=>[y.2]) (X:=X) (m:=m) hr G (fun y hy _=>jM (q:=[]) G hX (bz _) (fun _ h=>(aJ h).elim) (.inr (h y hy).kx)) (aAH G h) (fun y hy=>(h y hy).row G) (fun y hy=>(h y hy).one G) (ai hl (by decide)) (by rw[e,fm,aB];exact hl) fun t T' l G' M=>?_
 rw[e,hs] at M
 exact M.inj G' ⟨q,bm.le h l,rfl,hp.le l⟩▸k T' l G'
theorem aAI {N:L→O→Prop}{u:PV→O→Prop}{F:ae→Prop}{s2 s4 s5 s6 s7 s8 s9 s10:Option Slot}(hr:Lv (m+9) r)(hF:∀f,F f→cv f=f∧f.length≤49)(c:List Int):∀(b:Nat) (T:List al) (i j l:Option Slot),aj (b+c.length*100) T→d5 T X→(∀p∈c,∃f,F f∧cw T X p f ro)→
 (∀T' i j l,Le T T'→aj b T'→N [some (.pv (.o 0)),some (.pv (.o 1)),s2,some (.pv (.d (.int ro))),s4,s5,s6,s7,s8,s9,s10,i,j,l] (ob T'))→
 ba (ay 11) xr r N u (aA c) [some (.pv (.o 0)),some (.pv (.o 1)),s2,some (.pv (.d (.int ro))),s4,s5,s6,s7,s8,s9,s10,i,j,l] (ob T):=by
 induction c with
 |nil=>exact fun b T i j l G _ _ k=>k T i j l (.refl T) (G.mono (aR _ _))
 |cons p c ih=>
  intro b T i j l G hX hp k
  rw[k5,mn,←dS] at G
  refine(hp p (.head _)).elim fun f hf=>hf.2.elim fun q hq=>?_
  have hs:=hF f hf.1
  rw[←hq.2.1] at hs
  have hl:q.length≤49:=ai (bg (aB ..).symm) hs.2
  have next:∀T' i j l,Le T T'→aj (b+c.length*100) T'→ba (ay 11) xr r N u (aA c) [some (.pv (.o 0)),some (.pv (.o 1)),s2,some (.pv (.d (.int ro))),s4,s5,s6,s7,s8,s9,s10,i,j,l] (ob T'):=fun T' i j l l' G'=>
   ih b T' i j l G' (hX.le l') (fun p hp'=>(hp p (.tail _ hp')).imp fun f h=>⟨h.1,h.2.le l'⟩) fun T2 i j l l2=>k T2 i j l (l'.trans l2)
  by_cases h1:one q
  ·obtain⟨y,rfl,hy⟩:=h1
   have hrow:=kG (ro:=ro) hy▸hq.2.2
   have e:aW [y]=[.tuple [.int y.1,.int 2]]:=congrArg (fun z=>[nU [.int y.1,.int z]]) hy
   have call:=fun {K}=>FO (m:=m) (K:=K) (b:=b+c.length*100) hr G hX hq.1 hq.2.2 hs.1 hl
   rw[e] at call
   refine ah hrow.get ?_
   refine call fun T' l' G'=>?_
   exact jK rfl (next T' _ _ _ l' G')
  ·have hrow:=kH h1▸hq.2.2
   have call:=fun {K}=>FO (m:=m) (K:=K) (b:=b+c.length*100) hr G hX hq.1 hq.2.2 hs.1 hl
   rw[←oZ q] at call
   refine ah hrow.get ?_
   refine call fun T' l' G'=>?_
   exact jK rfl (next T' _ _ _ l' G')
theorem aAJ (q:List Er)(h:cnt q=1):∃q1 y q2,q=q1++y::q2∧cL y=true∧(∀z∈q1,cL z=false)∧∀z∈q2,cL z=false:=by
 induction q with
 |nil=>cases h
 |cons y q ih=>
  by_cases hu:cL y=true
  ·rw[EX hu] at h
   refine⟨[],y,q,rfl,hu,fun _ h=>(aJ h).elim,fun z hz=>gz.mpr fun w=>?_⟩
   exact aJ (kR.mp (mo h)▸List.mem_filter.mpr ⟨hz,w⟩)
  ·have hu:=gz.mpr hu
   rw[EY hu] at h
   exact(ih h).elim fun q1 h=>h.elim fun y' h=>h.elim fun q2 h=>⟨y::q1,y',q2,congrArg (y::·) h.1,h.2.1,cx.mpr ⟨hu,h.2.2.1⟩,h.2.2.2⟩
theorem aAK {α β:Type}{p:α→Bool}{p':β→Bool}(q:List α):∀(q':List β) (i:Nat),q.map p=q'.map p'→dQ p i q=dQ p' i q':=by
 induction q with
 |nil=>exact fun q' i e=>by rw[jR.mp e.symm];rfl
 |cons x q ih=>
  intro q' i e
  cases q' with
  |nil=>cases e
  |cons y q'=>
   have e:=eH e
   show (if p x=true then _ else _)=if p' y=true then _ else _
   rw[e.1,ih q' (i+1) e.2]
theorem FP {q:List Er}(h:∀z∈q,cL z=false)(hR:∀z∈q,cR T X z):∀z∈q,z.2.length=1:=fun z hz=>(hR z hz).len (h z hz)
theorem aAL {rows:List aF}{whole:Int}{n:Nat}(hr:Lv (m+10) r)(G:aj (b+bP 1) T)(h:Rows T X rows)(hc:∀d∈rows,d.cs≠[])(h1:(rows.filter big).length=1)(hw:bZ T X ro n whole (FS (bF rows)))(k:∀T',Le T T'→aj b T'→K (.d (.int whole)) (ob T')):
 r.call "splice_union" [.o 1,.d (.list (bO aF.el rows)),.d (.int (dQ big 0 rows)),.d (.int ro)] (ob T) K:=by
 refine(Ft rows h.lr hc).elim fun q hq=>?_
 have hl:q.length≤5:=ai (bg ((aB ..).symm.trans ((congrArg cI hq.1).trans (aB ..)))) h.len
 have k1:1≤(ax (aO q)).length:=by rw[hq.2.2.2.1];exact gx.mpr (kK (lV hc))
 have k6:(ax (aO q)).length≤6:=by rw[hq.2.2.2.1,←kL hc];exact h.six
 have hL:∀f∈ax (aO q),f.length≤49:=fun f hf=>ai (iw h f ((hq.2.2.1 f).mp hf)).2 (by decide)
 have hF:∀f,FS (aO q) f↔FS (bF rows) f:=fun f=>⟨fun h=>h.imp fun g h=>⟨(hq.2.2.1 g).mp h.1,h.2⟩,fun h=>h.imp fun g h=>⟨(hq.2.2.1 g).mpr h.1,h.2⟩⟩
 rw[←FD hq.1,←aAK q rows 0 hq.2.2.2.2]
 refine(aAJ q ((Fw hq.2.2.2.2).trans h1)).elim fun q1 e=>e.elim fun y e=>e.elim fun q2 e=>?_
 have hR:=hq.2.1
 have ef:dQ cL 0 q=q1.length:=by rw[e.1];exact(EU e.2.1 q1 0 e.2.2.1).trans (congrArg Nat.cast (bQ _))
 generalize dQ cL 0 q=i at ef
 rw[e.1] at hl k1 k6 hL hF hR ⊢
 have hy:=hR y (cH _ (.head _))
 have R1:∀z∈q1,cR T X z:=fun z hz=>hR z (cS _ hz)
 have R2:∀z∈q2,cR T X z:=fun z hz=>hR z (cH _ (.tail _ hz))
 refine(hy.un e.2.1).2.2.elim fun z hz=>?_
 have hk:(ax (aO (q1++y::q2))).length=z.length*(ax (aO q1++[[]]::aO q2)).length:=by
  rw[ni,rQ y.2 [] (aO q2) (aO q1),hz.2.2.2,aB]
 have hone:∀c:ae,(ax (aO q1++[c]::aO q2)).length=(ax (aO q1++[[]]::aO q2)).length:=fun c=>(rQ [c] [] _ _).trans (Nat.one_mul _)
 have hmem:∀w∈z,∀f∈ax (aO q1++[w.2]::aO q2),f∈ax (aO (q1++y::q2)):=fun w hw f hf=>by
  rw[ni];exact(rP y.2 _ _ f).mpr ⟨w.2,hz.2.2.2▸aS.mpr ⟨w,hw,rfl⟩,hf⟩
 rw[hk] at k1 k6
 generalize (ax (aO q1++[[]]::aO q2)).length=n' at*
 have hn:1≤n':=Nat.pos_of_ne_zero fun e=>absurd k1 (by rw[e];exact sO 0)
 have hz6:z.length≤6:=ai (yU _ hn) k6
 have hz0:z≠[]:=fun e=>absurd hz.2.2.1 (by rw[e];exact sO 1)
 refine EW (M:=m+9) (C:=100) (n:=n') (gc 3 (m+6)) hr ef (nh▸ai hl (by decide)) hz.1 hz.2.2.2 hz0 hz6 (aX k6 (by decide)) (fun c e=>absurd ((congrArg cI e).symm.trans (hone c)) (dT hn)) (fun {r} hr w hw {b T' K} l G k=>?_) (G.mono ?_) fun t T' l G' R=>(R.congr hF (aT _)).inj G' (hw.le l)▸k T' l G'
 ·have:=E1 (q:=q1++((w.1,3),[w.2])::q2) (X:=X) (ro:=ro) (K:=K) (m:=m) hr G (eG.mpr ⟨fun x hx=>(R1 x hx).le l,cx.mpr ⟨.inr ⟨rfl,(E0 (hy.un e.2.1).2.1 hz.1 (aS.mpr ⟨w,hw,rfl⟩)).le l,.inl ⟨w.2,(hz.2.1 w hw).le l,rfl⟩⟩,fun x hx=>(R2 x hx).le l⟩⟩)
   (eG.mpr ⟨FP e.2.2.1 R1,cx.mpr ⟨rfl,FP e.2.2.2 R2⟩⟩) (nh▸nh (y:=y)▸ai hl (by decide))
  rw[ni,hone w.2] at this
  exact this (fun f hf=>hL f (hmem w hw f hf)) k
 ·exact ai (cy (y1 100 hz6) (b+1)) (bg (by rw[dS,gB 1];rfl))
theorem aAM {xs:List aa}{A B:Prop}(h:∀x∈xs,Kq 63 x)(k:B):am (dg .NotEq (.list xs) (.list xs)) fun b=>Br b A B:=
 ah (congrArg (gD fun c=> !c) (yc h h)) (by rw[rY h];exact k)
theorem aAN {c d:Bool}{A B:Prop}(e:c=d)(k:B):am (dg .NotEq (.bool c) (.bool d)) fun b=>Br b A B:=by
 subst e;cases c<;>exact k
theorem LR.row {d:aF}(G:aj b T)(h:LR T X d):∃y,az T d.t y∧big d=(d.s==3&&y.kind==6):=by
 by_cases hc:d.cs=[]
 ·refine h.1.elim fun C hC=>(hC.1 d.t hC.2.2).elim fun y hy=>⟨y,hy.1,?_⟩
  have hk:d.t=2∨d.t=13:=h.2.2.1.elim (fun k=>k.2.elim fun a k=>absurd (hc.symm.trans k.2) (cX _ _).symm) fun k=>k.2.elim (·.1) fun k=>k.elim (fun k=>k.elim fun c k=>absurd (hc.symm.trans k.2) (cX _ _).symm) fun k=>absurd (congrArg cI hc▸k.1:2≤([]:List ae).length) (by decide)
  have:y.kind=1:=hk.elim (fun e=>congrArg al.kind (hy.1.fn (show az T d.t (.key "never") from e.symm▸G.le ⟨by decide,rfl⟩))) fun e=>congrArg al.kind (hy.1.fn (show az T d.t (.key "error") from e.symm▸G.le ⟨by decide,rfl⟩))
  rw[this,big,hc];exact(Bool.and_false _).symm
 ·exact(h.rowR hc).elim fun c k=>(k.1.row G).imp fun y hy=>⟨hy.1,(congrArg (gE 2) k.2.2.symm).trans hy.2⟩
theorem LR.cut {d:aF}(h:LR T X d)(h3:d.s=3)(h1:d.cs.length=1):∃c p,hG T X d.t c p∧d.cs=[c]:=
 h.2.2.1.elim (fun k=>by rcases k.1 with w|w|w<;>exact absurd (h3.symm.trans w) (by decide)) fun k=>k.2.elim (fun k=>absurd (h1.symm.trans (congrArg cI k.2)) (by decide)) fun k=>k.elim (fun k=>k.imp fun c k=>k.1.1.imp fun p hp=>⟨hp,k.2⟩) fun k=>absurd (h1▸k.1) (by decide)
theorem aAO {d:aF}{N:L→O→Prop}{u:PV→O→Prop}{s1 s2 s3 s4 s5 s6 s11 s12 s13:Option Slot}(hr:Lv (m+8) r)(G:aj b T)(h:LR T X d)(k:N [some (.pv (.o 0)),s1,s2,s3,s4,s5,s6,some (.pv (.d (.int d.t))),some (.pv (.d (.int d.s))),some (.pv (.d (cn d.cs))),some (.pv (.d (.int d.held))),s11,s12,s13] (ob T)):
 DJ r [some (.pv (.o 0)),s1,s2,s3,s4,s5,s6,some (.pv (.d (.int d.t))),some (.pv (.d (.int d.s))),some (.pv (.d (cn d.cs))),some (.pv (.d (.int d.held))),s11,s12,s13] (ob T) N u:=by
 by_cases h3:d.s=3
 ·refine cu h3 ?_
  by_cases h1:(d.cs.map ce).length=1
  ·refine cu (congrArg fK h1) ?_
   refine(h.cut h3 ((aB ..).symm.trans h1)).elim fun f hk=>hk.elim fun p hk=>?_
   have hl:=(h.2.2.2 f (hk.2▸ .head _)).2
   have call:=fun {K}=>EL (m:=m+4) (K:=K) hr hk.1 (ai hl (by decide))
   rw[←h3] at call
   refine call fun q hq e=>Fl (m:=m+6) hr G rfl hq (by rw[iu e];exact ai hl (by decide)) ?_
   rw[e,hk.2]
   rw[hk.2] at k
   exact aAM (o9 f) k
  ·exact bW (fun z=>h1 (Int.ofNat.inj z)) k
 ·exact bW h3 k
theorem aAP {N:L→O→Prop}{u:PV→O→Prop}{s2 s3 s4 s5 s6 s11 s12 s13:Option Slot}(hr:Lv (m+8) r)(G:aj b T)(c:List aF):∀s7 s8 s9 s10:Option Slot,(∀d∈c,LR T X d)→(∀s7 s8 s9 s10,N [some (.pv (.o 0)),some (.pv (.o 1)),s2,s3,s4,s5,s6,s7,s8,s9,s10,s11,s12,s13] (ob T))→
 ba (cJ [7,8,9,10]) DK r N u (c.map a7) [some (.pv (.o 0)),some (.pv (.o 1)),s2,s3,s4,s5,s6,s7,s8,s9,s10,s11,s12,s13] (ob T):=by
 induction c with
 |nil=>exact fun _ _ _ _ _ k=>k _ _ _ _
 |cons d c ih=>
  intro s7 s8 s9 s10 h k
  have hd:=h d (.head _)
  refine EI (m:=m+5) hr hd.2.1 (jK rfl ?_)
  refine ET (m:=m) hr hd.1 (jK rfl ?_)
  exact aAO hr G hd (ih _ _ _ _ (fun x hx=>h x (.tail _ hx)) k)
theorem FQ {rows:List aF}{n:Nat}{whole:Int}{N:L→O→Prop}{s2 s5 s6 s7 s8 s9 s10 s11 s12 s13:Option Slot}(hr:Lv (m+9) r)(G:aj (b+600) T)(hX:d5 T X)(h:Rows T X rows)(hn:n≤6)(hw:bZ T X ro n whole (FS (bF rows)))(k:∀T',Le T T'→aj b T'→K (.d (.bool true)) (ob T')):
 DH r [some (.pv (.o 0)),some (.pv (.o 1)),s2,some (.pv (.d (.int ro))),some (.pv (.d (.int whole))),s5,s6,s7,s8,s9,s10,s11,s12,s13] (ob T) N K:=by
 refine hw.elim fun a ha=>?_
 have hat:rU T whole a:=(ha.2.2.2.1.pt G fun p hp=>(ha.2.2.2.2.1 p hp).elim fun f hf=>hf.2.list).2
 refine rV (m:=m+8) hr hat ?_
 refine aAI (m:=m) (F:=FS (bF rows)) hr (fun f hf=>⟨hf.elim fun g hg=>by rw[hg.2,Z6],ai (nx (iw h) hf) (by decide)⟩) a b T _ _ _ (G.mono (cy (y1 100 (ai ha.1 hn)) b)) hX ha.2.2.2.2.1 fun T' i j l l' G'=>k T' l' G'
theorem aAQ {rows:List aF}{n:Nat}{whole:Int}{N:L→O→Prop}{s2 s7 s8 s9 s10 s11 s12 s13:Option Slot}(hr:Lv (m+10) r)(G:aj (b+600+bP 1) T)(hX:d5 T X)(h:Rows T X rows)(hc:∀d∈rows,d.cs≠[])(hn:n≤6)(hw:bZ T X ro n whole (FS (bF rows)))(k:∀T',Le T T'→aj b T'→K (.d (.bool true)) (ob T')):
 DI r [some (.pv (.o 0)),some (.pv (.o 1)),s2,some (.pv (.d (.int ro))),some (.pv (.d (.int whole))),some (.pv (.d (.list (bO aF.el rows)))),some (.lst (aA (eT 0 rows))),s7,s8,s9,s10,s11,s12,s13] (ob T) N K:=by
 by_cases h1:(eT 0 rows).length=1
 ·refine cu (congrArg fK ((aB ..).trans h1)) ?_
  have hf:(rows.filter big).length=1:=(aAE rows 0).symm.trans h1
  refine(FN rows 0).elim (fun e=>absurd ((congrArg cI e.1).symm.trans h1) (by decide)) fun e=>e.elim fun j e=>e.elim fun q e=>?_
  have call:=fun {K}=>aAL (m:=m) (K:=K) hr G h hc hf hw
  rw[e.2] at call
  refine ah (congrArg (fun l=>cU (aA l) 0) e.1) ?_
  refine call fun T' l G'=>?_
  exact jK rfl (FQ (m:=m+1) hr G' (hX.le l) (h.le l) hn (hw.le l) fun T2 l2=>k T2 (l.trans l2))
 ·exact bW (fun z=>h1 ((aB ..).symm.trans (Int.ofNat.inj z))) (FQ (m:=m+1) hr (G.mono (aR _ _)) hX h hn hw k)
section
variable {rows:List aF}{k:List aa→L→O→Prop}{s0 s1 s2 s3 s4 s5 s6 s7 s8 s9 s10 s11 s12 s13 j:Option Slot}
theorem FT {α:Type}{enc v:α→aa}{e:EP PV}(q:List α)(hl:q.length≤300)(st:∀x∈q,∀kk:aa→L→O→Prop,kk (v x) [s0,s1,s2,s3,s4,s5,s6,s7,s8,s9,s10,s11,s12,s13,some (.pv (.d (enc x)))] o→eD e r [s0,s1,s2,s3,s4,s5,s6,s7,s8,s9,s10,s11,s12,s13,some (.pv (.d (enc x)))] o kk)(hk:∀j,k (q.map v) [s0,s1,s2,s3,s4,s5,s6,s7,s8,s9,s10,s11,s12,s13,j] o):
 bf (ay 14) tT e (q.map enc) [] r [s0,s1,s2,s3,s4,s5,s6,s7,s8,s9,s10,s11,s12,s13,j] o k:=
 eR q _ (I:=fun l=>∃j,l=[s0,s1,s2,s3,s4,s5,s6,s7,s8,s9,s10,s11,s12,s13,j]) (fun d h l hl A kk h'=>hl.elim fun j e=>by subst e;exact st d h kk (h' _ ⟨_,rfl⟩)) (aX hl (by decide)) ⟨_,rfl⟩ fun l hl=>hl.elim fun j e=>e▸hk j
end
theorem FU {rows:List aF}{whole:Int}{N:L→O→Prop}(hr:Lv (m+10) r)(G:aj (b+600+bP 1) T)(hX:d5 T X)(h:Rows T X rows)(hw:FB T X ro rows whole)(k:∀T',Le T T'→aj b T'→K (.d (.bool true)) (ob T')):
 DL r [some (.pv (.o 0)),some (.pv (.o 1)),some (.pv (.d (.list (rows.map a7)))),some (.pv (.d (.int ro))),some (.pv (.d (.int whole))),some (.pv (.d (.list (bO aF.el rows)))),some (.lst (aA (eT 0 rows))),none,none,none,none,none,none,none] (ob T) N K:=by
 refine aAP (m:=m+2) hr G rows _ _ _ _ h.lr fun s7 s8 s9 s10=>?_
 refine hw.elim (fun hw=>?_) fun hw=>?_
 ·refine nt (m:=m+9) hr hw.2.1 ?_
  refine ah rfl ?_
  exact aAQ hr G hX h hw.1 (kL hw.1▸h.six) hw.2.2 k
 ·refine nt (m:=m+9) hr hw.1 (o5 (yj hw.2.1) (k T (.refl T) (G.mono (ai (aR _ _) (aR _ _)))))
theorem aAR {rows:List aF}{whole:Int}{N:L→O→Prop}(hr:Lv (m+10) r)(G:aj (b+600+bP 1) T)(hX:d5 T X)(h:Rows T X rows)(hw:FB T X ro rows whole)(k:∀T',Le T T'→aj b T'→K (.d (.bool true)) (ob T')):
 DM r [some (.pv (.o 0)),some (.pv (.o 1)),some (.pv (.d (.list (rows.map a7)))),some (.pv (.d (.int ro))),some (.pv (.d (.int whole))),some (.lst (bO aF.el rows)),some (.lst (aA (eT 0 rows))),none,none,none,none,none,none,none] (ob T) N K:=by
 refine aAD (m:=m+9) hr ⟨rfl,FT (enc:=a7) rows (v:=fun d=>.bool (decide (d.s=3))) (ai h.len (by decide)) (fun d hd kk h=>h) fun j=>?_⟩
 have e:rows.map (fun d=>PyData.bool (decide (d.s=3)))=(rows.map fun d=>decide (d.s=3)).map .bool:=(cD ..).symm
 rw[e]
 refine ah rfl (ah rfl (ah (FG _) (ah rfl (aAN (List.any_map (f:=fun d:aF=>decide (d.s=3)) (p:=id) (l:=rows)).symm ?_))))
 refine xW (m:=m+9) (p:=big) hr (fun d hd=>(h.lr d hd).row G) (ai h.len (by decide)) ?_
 refine(FN rows 0).elim (fun e=>?_) fun e=>e.elim fun i e=>e.elim fun q e=>?_
 ·rw[e.2]
  refine kC (eX.mpr (bg ((aB ..).trans (congrArg cI e.1)))) ?_
  exact FU hr G hX h hw k
 ·rw[e.2]
  refine kJ (ib.mpr (Nat.lt_of_lt_of_eq (Nat.succ_pos q.length) ((aB ..).trans (congrArg cI e.1)).symm)) ?_
  refine ah (congrArg (fun l=>cU (aA l) 0) e.1) ?_
  refine jK (a:=i) rfl ?_
  exact FU hr G hX h hw k
theorem aAS {rows:List aF}{whole:Int}(hr:Lv (m+11) r)(G:aj (b+600+bP 1) T)(hX:d5 T X)(h:Rows T X rows)(hw:FB T X ro rows whole)(k:∀T',Le T T'→aj b T'→K (.d (.bool true)) (ob T')):
 r.call "_law_pieces" [.o 0,.o 1,.d (.list (rows.map a7)),.d (.int ro),.d (.int whole)] (ob T) K:=by
 refine hr.call Yb fun r hr=>⟨rfl,⟨rfl,FT (enc:=a7) rows (v:=fun d=>d4 d.el) (ai h.len (by decide)) (fun d hd kk h=>h) fun j=>?_⟩⟩
 refine ah (kE (f:=a7) (ai h.len (by decide))) ⟨rfl,?_⟩
 refine(i9 rows.length).symm.subst (motive:=fun z=>bf _ _ _ z _ _ _ _ _) (aAG rows 0 [] none rfl (ai (bg (bQ _)) (ai h.len (by decide))) fun j=>?_)
 exact aAR hr G hX h hw k
theorem kM {α:Type}{f:α→aa}{q:List α}{i:Int}(h0:0≤i)(h:i<q.length):∃x∈q,cU (q.map f) i=some (f x):=by
 have hl:i.toNat<q.length:=(Int.toNat_lt h0).mpr h
 refine⟨q[i.toNat],List.getElem_mem hl,?_⟩
 unfold cU;rw[if_pos h0,f9,iB hl];rfl
theorem gO (x:Int){k:Int}(h:0<k):0≤x.fmod k∧x.fmod k<k:=⟨Int.fmod_nonneg_of_pos x h,Int.fmod_lt_of_pos x h⟩
noncomputable def pb:List (Int×List Int):=[(16,[16]),(17,[17]),(18,[18]),(20,[16,18]),(21,[4,17]),(19,[19])]
noncomputable def ny (p:Int×List Int):aa:=.tuple [.int p.1,be p.2]
noncomputable def c8:aa:=.list (pb.map ny)
theorem pc {a:List Int}(h:a≠[])(h1:(a.all fun x=>dE.contains x)=true)(h2:norm a=a):dO a:=⟨h,fun x hx=>kU.mp (dn.mp h1 x hx),h2⟩
theorem FV (G:aj b T):∀p∈pb,EK T p.1 p.2:=by
 refine cx.mpr ⟨⟨pc (cX _ _) rfl rfl,.inl rfl⟩,cx.mpr ⟨⟨pc (cX _ _) rfl rfl,.inl rfl⟩,cx.mpr ⟨⟨pc (cX _ _) rfl rfl,.inl rfl⟩,
  cx.mpr ⟨⟨pc (cX _ _) rfl rfl,.inr ⟨by decide,G.le ⟨by decide,rfl⟩⟩⟩,dD ⟨pc (cX _ _) rfl rfl,.inr ⟨by decide,G.le ⟨by decide,rfl⟩⟩⟩ lU⟩⟩⟩⟩
noncomputable def FW:List (List Int):=[[],[0],[1],[0,1],[0,2],[2,0],[1,2],[0,2,0],[0,0],[3,0],[2]]
theorem aAT:∀m∈FW,m.length≤3∧∀s∈m,s=0∨s=1∨s=2∨s=3:=by decide
theorem yk {a c:List Int}(h:aA a=aA c):a=c:=(rn a).symm.trans ((congrArg (fun l=>rj (.tuple l)) h).trans (rn c))
theorem iy (a:List Int):∀d∈aA a,Kq 63 d:=fun d hd=>(aS.mp hd).elim fun i h=>h.2▸ .int
theorem aAU {a c:List Int}{A B:Prop}(e:a=c)(k:A):am (dg .Eq (be a) (be c)) fun b=>Br b A B:=by
 subst e;exact ah (yd (iy a) (iy a)) (fy (rY (iy a)) k)
theorem aAV {a c:List Int}{A B:Prop}(e:a≠c)(k:B):am (dg .Eq (be a) (be c)) fun b=>Br b A B:=
 ah (yd (iy a) (iy c)) (fX (gz.mpr fun z=>e (yk ((eqvAll_key _ _ (Kq.all (iy a)).1 (Kq.all (iy c)).1).mp z))) k)
theorem aAW (x z:Int):ie .Mult (.int x) (.int (1+z.fmod 5))=some (.int (x*(1+z.fmod 5))):=by
 have h:=gO z (k:=5) (by decide)
 exact if_pos ⟨Int.le_trans (by decide:(-1000:Int)≤1+0) (Int.add_le_add_left h.1 1),Int.le_trans (Int.add_le_add_left (Int.le_of_lt h.2) 1) (by decide:(1:Int)+5≤1000)⟩
noncomputable def ej (T:List al)(t:Int)(c:ae):Prop:=(∃ro,cw T [] t c ro)∧c.length≤3
theorem ej.le {c:ae}(h:ej T t c)(l:Le T T'):ej T' t c:=⟨h.1.imp fun _ h=>h.le l,h.2⟩
theorem yl (G:aj b T):gN T 19:=⟨.one (x:=.param 0) (G.le ⟨by decide,rfl⟩) rfl,.param 0,G.le ⟨by decide,rfl⟩,rfl,(by decide:(10:Int)≠6)⟩
theorem FX {mk a:List Int}{xs ys:List aa}{p s:Int}{i:Nat}{N:L→O→Prop}{u:PV→O→Prop}{s0 s1 s2 s3 s10:Option Slot}(hm:cU (aA mk) (fK i)=some (.int s))(hn:xs.length<aH∧ys.length<aH∧N [s0,s1,s2,s3,some (.pv (.d (be mk))),some (.lst (xs++[.tuple [.int p,.int s]])),some (.lst (ys++[.tuple [be a,.int s]])),some (.pv (.d (.int (fK i)))),some (.pv (.d (.int p))),some (.pv (.d (be a))),s10] o):
 Dr r [s0,s1,s2,s3,some (.pv (.d (be mk))),some (.lst xs),some (.lst ys),some (.pv (.d (.int (fK i)))),some (.pv (.d (.int p))),some (.pv (.d (be a))),s10] o N u:=
 ah hm ⟨hn.1,ah rfl (ah rfl (ah hm hn.2))⟩
theorem aAX {x:Int}{mk:List Int}{N:L→O→Prop}{u:PV→O→Prop}{s1 s3 s10:Option Slot}(G:aj b T)(c:List Int):∀(i:Nat) (q:List El) (xs ys:List aa) (s7 s8 s9:Option Slot),mk.drop i=c→bm T [] q→xs=aW q→ys=en (fm q)→(∀s∈c,s=0∨s=1∨s=2∨s=3)→q.length+c.length≤3→
 (∀q' s7 s8 s9,bm T [] q'→(fm q').map (·.2)=(fm q).map (·.2)++c→q'.length≤3→N [some (.pv (.d (.int x))),s1,some (.pv (.d c8)),s3,some (.pv (.d (be mk))),some (.lst (aW q')),some (.lst (en (fm q'))),s7,s8,s9,s10] o)→
 ba (ay 7) re r N u (fY (gT i c.length)) [some (.pv (.d (.int x))),s1,some (.pv (.d c8)),s3,some (.pv (.d (be mk))),some (.lst xs),some (.lst ys),s7,s8,s9,s10] o:=by
 induction c with
 |nil=>exact fun i q xs ys s7 s8 s9 _ hq ex ey _ hl k=>ex▸ey▸k q s7 s8 s9 hq (ck _).symm hl
 |cons s c ih=>
  intro i q xs ys s7 s8 s9 h hq ex ey hs hl k
  have hl':q.length+c.length+1≤3:=hl
  have next:∀y:El,ER T [] y→y.2.2=s→∀v w,v=i7 y→w=dw y.2→xs.length<aH∧ys.length<aH∧∀s7 s8 s9,ba (ay 7) re r N u (fY (gT (i+1) c.length)) [some (.pv (.d (.int x))),s1,some (.pv (.d c8)),s3,some (.pv (.d (be mk))),some (.lst (xs++[v])),some (.lst (ys++[w])),s7,s8,s9,s10] o:=fun y hy es v w ev ew=>by
   have hql:q.length≤3:=ai (aR _ _) hl
   refine⟨by rw[ex,aW,aB];exact aX hql (by decide),by rw[ey,hJ,fm,aB];exact aX hql (by decide),fun s7 s8 s9=>?_⟩
   refine ih (i+1) (q++[y]) _ _ s7 s8 s9 (fZ h) (ja hq hy) (by rw[ex,ev];exact Es) (by rw[ey,ew,lQ];exact nj (fm q) [y.2]) (fun z hz=>hs z (.tail _ hz)) (by rw[aG,c9];exact hl') fun q' s7 s8 s9 h1 h2=>k q' s7 s8 s9 h1 (h2.trans ?_)
   rw[lQ,bJ,cz]
   exact congrArg ((fm q).map (·.2)++·) (congrArg (·::c) es)
  have hi:=gO (x+fK i*(1+(x.fdiv 6).fmod 5)) (k:=6) (by decide)
  have hm:cU (aA mk) (fK i)=some (.int s):=jG (i8 h)
  refine(kM (f:=ny) (q:=pb) hi.1 hi.2).elim fun p hp=>?_
  refine ah (aAW _ _) ?_
  refine ah rfl (ah rfl (ah rfl ?_))
  refine ah hp.2 ?_
  refine ah rfl (ah rfl (ah rfl ?_))
  refine ah hm ?_
  by_cases h3:s=3
  ·refine cu h3 ?_
   have hn:=next (19,[19],3) (.inr ⟨rfl,rfl,yl G,.inl rfl⟩) h3.symm (.tuple [.int 19,.int s]) (.tuple [be [19],.int s]) (by rw[h3];rfl) (by rw[h3];rfl)
   exact FX hm ⟨hn.1,hn.2.1,hn.2.2 _ _ _⟩
  ·refine bW h3 ?_
   have hsg:s=0∨s=1∨s=2:=(hs s (.head _)).imp_right fun z=>z.imp_right fun z=>z.resolve_right h3
   have hn:=next (p.1,p.2,s) (.inl ⟨hsg,FV G p hp.1⟩) rfl (.tuple [.int p.1,.int s]) (.tuple [be p.2,.int s]) rfl rfl
   exact FX hm ⟨hn.1,hn.2.1,hn.2.2 _ _ _⟩
theorem ej.mk {q:List El}(hq:bm T [] q)(h:az T t (d9 q ro))(hl:q.length≤3):ej T t (fm q):=⟨⟨ro,q,hq,rfl,h⟩,ai (bg (aB ..)) hl⟩
theorem aAY {q:List El}(h:one q):(fm q).map (·.2)=[2]:=h.elim fun y h=>h.1▸congrArg (fun z=>[z]) h.2
theorem aAZ {q:List El}(h:(fm q).map (·.2)=[2]):∃y,q=[y]∧y.2.2=2:=by
 cases q with
 |nil=>cases h
 |cons y q=>exact⟨y,congrArg (y::·) (jR.mp (jR.mp (eH h).2)),(eH h).1⟩
theorem aBa {x:Int}{mk:List Int}{q:List El}{N:L→O→Prop}{s2 s3 s7 s8 s9 s10:Option Slot}(hr:Lv (m+1) r)(G:aj (b+1) T)(hq:bm T [] q)(e:(fm q).map (·.2)=mk)(hl:q.length≤3)(k:∀t T' c,Le T T'→aj b T'→ej T' t c→K (.d (.tuple [.int t,.list [ce c]])) (ob T')):
 Dq r [some (.pv (.d (.int x))),some (.pv (.o 0)),s2,s3,some (.pv (.d (be mk))),some (.lst (aW q)),some (.lst (en (fm q))),s7,s8,s9,s10] (ob T) N K:=by
 by_cases h:mk=[2]
 ·refine aAU h ?_
  refine(aAZ (e.trans h)).elim fun y hy=>?_
  have hy1:=hy.1
  subst hy1
  refine⟨rfl,i4 (m:=m) (x:=.arr y.1 ((x.fdiv 30).fmod 2)) hr G (EC _ _) fun t T' l G' h=>k t T' _ l G' (.mk (bm.le hq l) ((kG hy.2).symm▸h) hl)⟩
 ·refine aAV h ?_
  have k:r.meth 0 "put" [.o 0,.d (.tuple [.int 12,.tuple (aW q),.int ((x.fdiv 30).fmod 2)])] (ob T) fun v o=>am (j8 v) fun d=>K (.d (.tuple [d,.list [ce (fm q)]])) o:=
   oZ q▸i4 (m:=m) (x:=.tup (es q) ((x.fdiv 30).fmod 2)) hr G (EB _ _) fun t T' l G' h'=>k t T' _ l G' (.mk (bm.le hq l) ((kH fun z=>h (e.symm.trans (aAY z))).symm▸h') hl)
  exact⟨rfl,k⟩
theorem r9 {x:Int}(hr:Lv (m+2) r)(G:aj (b+1) T)(k:∀t T' c,Le T T'→aj b T'→ej T' t c→K (.d (.tuple [.int t,.list [ce c]])) (ob T')):
 r.call "_law_list" [.d (.int x),.o 0,.d c8] (ob T) K:=by
 refine hr.call X3 fun r hr=>⟨rfl,?_⟩
 have hi:=gO x (k:=11) (by decide)
 refine(kM (f:=be) (q:=FW) hi.1 hi.2).elim fun mk hp=>?_
 refine ah hp.2 ?_
 have hs:=aAT mk hp.1
 refine ah (kE (f:=bv) (ai hs.1 (by decide))) ?_
 exact(i9 mk.length).symm.subst (motive:=fun z=>ba (ay 7) re r _ _ z _ (ob T)) (aAX G mk 0 [] _ _ none none none rfl (fun _ h=>(aJ h).elim) rfl rfl hs.2 (ai (bg (bQ _)) hs.1) fun q s7 s8 s9 h1 h2 h3=>aBa hr G h1 h2 h3 k)
variable {X':List Int}
theorem ER.sub {x:El}(h:ER T X x)(s:∀t∈X,t∈X'):ER T X' x:=h.imp_right fun h=>⟨h.1,h.2.1,h.2.2.1,h.2.2.2.imp_right fun h=>h.imp_right (s _)⟩
theorem bm.sub {q:List El}(h:bm T X q)(s:∀t∈X,t∈X'):bm T X' q:=fun x hx=>(h x hx).sub s
theorem hG.sub {c:ae}{h:Int}(p:hG T X t c h)(s:∀t∈X,t∈X'):hG T X' t c h:=
 ⟨p.1,p.2.imp fun r p=>⟨p.1,p.2.imp (fun p=>⟨p.1,p.2.imp fun q p=>⟨p.1.sub s,p.2⟩⟩) fun p=>⟨p.1,p.2.imp_right fun p=>⟨p.1,p.2.imp_left fun p=>⟨p.1,p.2.1,p.2.2.sub s⟩⟩⟩⟩⟩
theorem gr.sub {w:Int×ae}(h:gr T X w)(s:∀t∈X,t∈X'):gr T X' w:=⟨h.1.imp fun _ h=>h.sub s,h.2⟩
theorem LR.sub {d:aF}(h:LR T X d)(s:∀t∈X,t∈X'):LR T X' d:=
 ⟨h.1,h.2.1,h.2.2.1.imp_right fun h=>⟨h.1,h.2.imp_right fun h=>h.imp (fun h=>h.imp fun c h=>⟨h.1.sub s,h.2⟩) fun h=>⟨h.1,h.2.imp fun z h=>⟨h.1,fun w hw=>(h.2.1 w hw).sub s,h.2.2⟩⟩⟩,h.2.2.2⟩
theorem KX.sub {k:Int}(h:KX T X k)(s:∀t∈X,t∈X'):KX T X' k:=h.imp_right fun h=>h.imp_right (s _)
noncomputable def XK (T:List al)(X:List Int):Prop:=∀x∈X,∃y,az T x y∧(aY y).length≤300∧∀k∈aY y,KX T X k
theorem XK.le (h:XK T X)(l:Le T T'):XK T' X:=fun x hx=>(h x hx).imp fun y h=>⟨h.1.le l,h.2.1,fun k hk=>(h.2.2 k hk).le l⟩
theorem XK.more {t:Int}(h:XK T X)(e:∃y,az T t y∧(aY y).length≤300∧∀k∈aY y,KX T X k):XK T (t::X):=
 have f:∀x:Int,(∃y,az T x y∧(aY y).length≤300∧∀k∈aY y,KX T X k)→∃y,az T x y∧(aY y).length≤300∧∀k∈aY y,KX T (t::X) k:=fun x h=>h.imp fun y h=>⟨h.1,h.2.1,fun k hk=>(h.2.2 k hk).sub fun _=>.tail _⟩
 cx.mpr ⟨f t e,fun x hx=>f x (h x hx)⟩
structure fF (T:List al)(X X':List Int)(d:aF):Prop where
 lr:LR T X' d
 sub:∀t∈X,t∈X'
 len:X'.length≤X.length+2
 xk:XK T X'
theorem fF.mk0 {d:aF}(h:LR T X d)(hX:XK T X):fF T X X d:=⟨h,fun _ h=>h,aR _ _,hX⟩
theorem nz:d5 T []:=⟨bz _,fun _ h=>(aJ h).elim⟩
theorem nC (G:aj b T)(h:KX T [] t):bE T t:=jM (q:=[]) G nz (bz _) (fun _ h=>(aJ h).elim) (.inr h)
theorem pd {x:al}(G:aj b T)(h:az T t x)(hk:x.kind≠1):t≠0∧t≠2∧t≠13:=
 have f:∀{s:Int} {y:al},az aZ s y→y.kind=1→t≠s:=fun h' e z=>hk ((congrArg al.kind (h.fn (z▸G.le h'))).trans e)
 ⟨f (y:=.key "any") ⟨by decide,rfl⟩ rfl,f (y:=.key "never") ⟨by decide,rfl⟩ rfl,f (y:=.key "error") ⟨by decide,rfl⟩ rfl⟩
theorem ym {a:List Int}{s:Int}(h:dO a)(hs:s=0∨s=1∨s=2):bu [(a,s)]:=fun x hx=>aM.mp hx▸ .inl ⟨hs,h⟩
theorem aBb:bu [([t],3)]:=fun x hx=>aM.mp hx▸ .inr rfl
theorem pe {c:ae}{h:Int}{x:al}(hs:bE T t)(hc:hG T X t c h)(hx:az T t x)(h6:x.kind≠6)(hn:t≠2∧t≠13)(hf:bu c)(hl:c.length≤3):LR T X ⟨t,3,[c],h⟩:=
 ⟨hs,hc.1,.inr ⟨rfl,.inr (.inl ⟨c,⟨⟨h,hc⟩,hn.1,hn.2,x,hx,h6⟩,rfl⟩)⟩,fun d hd=>aM.mp hd▸⟨hf,hl⟩⟩
theorem FY {x:al}(hs:bE T t)(p:f1 T t t)(h:az T t x)(hl:bY x=false)(h6:x.kind≠6)(ho:eS T t false)(h0:t≠0)(hn:t≠2∧t≠13):LR T X ⟨t,3,[[([1],2)]],t⟩:=
 pe hs ⟨p,x,h,.inr ⟨hl,.inr ⟨h0,.inr ⟨ho,rfl⟩⟩⟩⟩ h h6 hn (ym (xS (T:=T)).1 (.inr (.inr rfl))) (gc 1 2)
theorem pf (hs:bE T t)(ho:gN T t)(hX:t=19∨t=24∨t∈X)(hn:t≠0∧t≠2∧t≠13):LR T X ⟨t,3,[[([t],3)]],t⟩:=ho.2.elim fun x h=>
 pe hs ⟨.self h.1 (.inr ho.1),x,h.1,.inr ⟨h.2.1,.inr ⟨hn.1,.inl ⟨ho.1,rfl,fun y hy=>aM.mp hy▸ .inr ⟨rfl,rfl,ho,hX⟩⟩⟩⟩⟩ h.1 h.2.2 hn.2 aBb (gc 1 2)
theorem aBc {x:al}(hs:bE T t)(h:az T t x)(h7:x.kind≠7)(e:t=2∨t=13):LR T X ⟨t,3,[],t⟩:=⟨hs,.self h (.inl h7),.inr ⟨rfl,.inl ⟨e,rfl⟩⟩,fun _ h=>(aJ h).elim⟩
theorem aBd {x:al}(h:bY x=true):x.kind≠1∧x.kind≠6∧x.kind≠7:=
 (rK h).elim (fun h=>h.elim fun e h=>h.elim fun ro h=>h▸(by decide:(11:Int)≠1∧(11:Int)≠6∧(11:Int)≠7)) fun h=>h.elim fun e h=>h.elim fun ro h=>h▸(by decide:(12:Int)≠1∧(12:Int)≠6∧(12:Int)≠7)
theorem se (q:List El):bY (d9 q ro)=true:=by
 by_cases h:one q
 ·exact h.elim fun y h=>by rw[h.1,kG h.2];rfl
 ·rw[kH h];rfl
theorem yn {c:ae}(G:aj b T)(h:ej T t c):LR T X ⟨t,3,[c],t⟩:=h.1.elim fun ro h1=>by
 have hs:bE T t:=jM (X:=[]) (q:=[t]) G nz (by decide:1≤11) (fun z hz=>aM.mp hz▸h1.kd (ai h.2 (by decide))) (.inl (.head _))
 refine h1.elim fun q hq=>?_
 have hk:=aBd (se (ro:=ro) q)
 exact pe hs ⟨.self hq.2.2 (.inl hk.2.2),_,hq.2.2,.inl ⟨se q,q,hq.1.sub fun _ h=>(aJ h).elim,hq.2.1,o0 q⟩⟩ hq.2.2 hk.2.1 (pd G hq.2.2 hk.1).2 (hq.2.1▸fun x hx=>(aS.mp hx).elim fun y hy=>hy.2▸(hq.1 y hy.1).imp (fun z=>⟨z.1,z.2.1⟩) fun z=>z.1) h.2
theorem yo {q:List Int}{i j:Int}(h0:j≤i)(h:i<q.length+j):∃x∈q,cU (q.map bv) (i - j)=some (.int x):=
 kM (f:=bv) (Int.sub_nonneg.mpr h0) (Int.sub_right_lt_of_lt_add h)
theorem yq {x:al}(G:aj b T)(hk:KX T [] t)(h:az aZ t x)(hs:x.simple=true)(hl:bY x=false)(ho:gq x=false)(h6:x.kind≠6)(h7:x.kind≠7)(hn:t≠0∧t≠2∧t≠13):LR T X ⟨t,3,[[([1],2)]],t⟩:=
 FY (nC G hk) (.self (G.le h) (.inl h7)) (G.le h) hl h6 (ho▸ .one (G.le h) hs) hn.1 hn.2
theorem aBe (G:aj b T):LR T X ⟨0,3,[[([0],2)]],0⟩:=
 have h:az T 0 (.key "any"):=G.le ⟨by decide,rfl⟩
 pe (nC G (.inl ⟨_,xT⟩)) ⟨.self h (.inl (by decide:(1:Int)≠7)),_,h,.inr ⟨rfl,.inl ⟨rfl,rfl⟩⟩⟩ h (by decide:(1:Int)≠6) (by decide) (ym (xT (T:=T)).1 (.inr (.inr rfl))) (by decide:1≤3)
theorem FZ (G:aj b T):∀t∈[(1:Int),6,22],LR T X ⟨t,3,[[([1],2)]],t⟩:=
 cx.mpr ⟨yq (x:=.key "unknown") G (.inl ⟨_,xS⟩) ⟨by decide,rfl⟩ rfl rfl rfl (by decide:(1:Int)≠6) (by decide:(1:Int)≠7) (by decide),
  dD (yq (x:=.key "string") G (.inr (.inl (.head _))) ⟨by decide,rfl⟩ rfl rfl rfl (by decide:(1:Int)≠6) (by decide:(1:Int)≠7) (by decide))
   (yq (x:=.obj [("brand",6)]) G (.inr (.inl (.tail _ (.head _)))) ⟨by decide,rfl⟩ rfl rfl rfl (by decide:(8:Int)≠6) (by decide:(8:Int)≠7) (by decide))⟩
theorem aBf (G:aj b T):gN T 24:=⟨.one (x:=.param 1) (G.le ⟨by decide,rfl⟩) rfl,.param 1,G.le ⟨by decide,rfl⟩,rfl,(by decide:(10:Int)≠6)⟩
theorem F0 {x:al}(G:aj b T)(h:az T t x)(hl:(aY x).length≤300)(hk:∀k∈aY x,KX T [] k):bE T t:=
 jM (X:=[]) (q:=[t]) G nz (by decide:1≤11) (fun z hz=>(aM.mp hz).symm▸⟨x,h,hl,fun k hk'=>.inr (hk k hk')⟩) (.inl (.head _))
theorem aBg (G:aj b T)(h:az T t (.keyof 19)):∀x∈[19,24,t],LR T (t::X) ⟨x,3,[[([x],3)]],x⟩:=by
 refine cx.mpr ⟨pf (nC G (.inl ⟨_,lU⟩)) (yl G) (.inl rfl) (by decide),dD (pf (nC G (.inr (.inl (.tail _ (.tail _ (.head _)))))) (aBf G) (.inr (.inl rfl)) (by decide)) (pf ?_ ⟨.one h rfl,_,h,rfl,(by decide:(14:Int)≠6)⟩ (.inr (.inr (.head _))) (pd G h (by decide:(14:Int)≠1)))⟩
 exact F0 G h (by decide:1≤300) fun k hk=>aM.mp hk▸ .inl ⟨_,lU⟩
theorem aBh (G:aj b T):∀t∈[(2:Int),13],LR T X ⟨t,3,[],t⟩:=
 have f:∀{t:Int} {s:Str},az T t (.key s)→t=2∨t=13→LR T X ⟨t,3,[],t⟩:=fun h e=>aBc (F0 G h (bz _) fun _ h=>(aJ h).elim) h (by decide:(1:Int)≠7) e
 dD (f (s:="never") (G.le ⟨by decide,rfl⟩) (.inl rfl)) (f (s:="error") (G.le ⟨by decide,rfl⟩) (.inr rfl))
theorem aBi {x:Int}(hr:Lv (m+2) r)(G:aj (b+1) T)(hX:XK T X)(k:∀t cs T' X',Le T T'→aj b T'→fF T' X X' ⟨t,3,cs,t⟩→cs.length≤1→K (.d (.tuple [.int t,cn cs])) (ob T')):
 r.call "_law_single" [.d (.int x),.o 0,.d c8,.d (.int 22),.d (.int 24)] (ob T) K:=by
 refine hr.call X6 fun r hr=>⟨rfl,?_⟩
 have G':=G.mono (aR b 1)
 have hi:=gO x (k:=9) (by decide)
 by_cases h0:x.fmod 9=0
 ·exact cu h0 (k 0 _ T X (.refl T) G' (.mk0 (aBe G) hX) (aT 1))
 ·refine bW h0 ?_
  have h1:1≤x.fmod 9:=Int.add_one_le_of_lt (Int.lt_iff_le_and_ne.mpr ⟨hi.1,gW h0⟩)
  by_cases h4:x.fmod 9<4
  ·refine jI h4 ((yo (q:=[1,6,22]) h1 h4).elim fun t ht=>ah ht.2 (k t _ T X (.refl T) G' (.mk0 (FZ G t ht.1) hX) (aT 1)))
  ·refine f0 h4 ?_
   by_cases h7:x.fmod 9<7
   ·refine jI h7 ?_
    refine⟨rfl,i4 (m:=m) (x:=.keyof 19) hr G rfl fun t T' l G' h=>?_⟩
    refine ah rfl ((yo (q:=[19,24,t]) (jW.mp h4) h7).elim fun t ht=>ah ht.2 (k t _ T' _ l G' ⟨aBg G' h t ht.1,fun _=>.tail _,aR _ 1,(hX.le l).more ⟨_,h,(by decide:1≤300),fun k hk=>aM.mp hk▸ .inl ⟨_,lU⟩⟩⟩ (aT 1)))
   ·refine f0 h7 ((yo (q:=[2,13]) (jW.mp h7) hi.2).elim fun t ht=>ah ht.2 (k t [] T X (.refl T) G' (.mk0 (aBh G t ht.1) hX) (bz 1)))
end Mine.V
namespace Mine.V
variable {r:R}{T T' T'':List al}{x:al}{t t' ro:Int}{b m:Nat}{K:PV→O→Prop}{o:O}{a a' l X:List Int}
variable {X':List Int}{u p q:Int}{c:ae}
theorem yr (h:ej T t c):Kd T X [] t:=h.1.elim fun ro h1=>(h1.kd (q:=[]) (ai h.2 (by decide))).imp fun y h=>⟨h.1,h.2.1,fun k hk=>.inr ((h.2.2 k hk).elim (fun z=>(aJ z).elim) fun z=>z.sub fun _ h=>(aJ h).elim)⟩
theorem F1 {k:Int}(h:k=22∨k=19):KX T X k:=h.elim (fun e=>.inr (.inl (e▸ .tail _ (.head _)))) fun e=>.inl ⟨_,e▸lU⟩
theorem F2 {q:List Int}(h:Kd T X [] t):Kd T X q t:=h.imp fun y h=>⟨h.1,h.2.1,fun k hk=>(h.2.2 k hk).elim (fun z=>(aJ z).elim) .inr⟩
theorem aBj (h:Kd T X [] t):∃y,az T t y∧(aY y).length≤300∧∀k∈aY y,KX T X k:=h.imp fun y h=>⟨h.1,h.2.1,fun k hk=>(h.2.2 k hk).resolve_left aJ⟩
theorem aBk (hX:XK T X)(hl:ej T t c)(hm:az T u (.inter [p,q]))(kk:∀k∈[p,q],k=t∨k=22∨k=19):XK T (u::t::X):=
 XK.more (hX.more (aBj (yr hl))) ⟨_,hm,(by decide:2≤300),fun k hk=>(kk k hk).elim (fun e=>.inr (.inr (e▸ .head _))) F1⟩
theorem F3 (G:aj b T)(hl:ej T t c)(hm:az T u (.inter [p,q]))(kk:∀k∈[p,q],k=t∨k=22∨k=19):bE T u:=
 jM (X:=[]) (q:=[u,t]) G nz (by decide:2≤11) (dD ⟨_,hm,(by decide:2≤300),fun k hk=>(kk k hk).elim (fun e=>.inl (e.symm▸ .tail _ (.head _))) fun z=>.inr (F1 z)⟩ (F2 (yr hl))) (.inl (.head _))
theorem aBl (G:aj b T)(hl:ej T t c)(hm:az T u (.inter [p,q]))(kk:∀k∈[p,q],k=t∨k=22∨k=19)(ho:eS T u true):LR T (u::X) ⟨u,3,[[([u],3)]],u⟩:=
 pf (F3 G hl hm kk) ⟨ho,_,hm,rfl,(by decide:(7:Int)≠6)⟩ (.inr (.inr (.head _))) (pd G hm (by decide:(7:Int)≠1))
theorem aBm {x:al}(h:bY x=true):x.simple=true:=
 (rK h).elim (fun h=>h.elim fun e h=>h.elim fun ro h=>h▸rfl) fun h=>h.elim fun e h=>h.elim fun ro h=>h▸rfl
theorem aBn (q:List El):gq (d9 q ro)=decide (3∈(fm q).map (·.2)):=by
 have e:gq (d9 q ro)=(es q).any fun e=>e.2==3:=by
  by_cases h:one q
  ·exact h.elim fun y h=>by rw[h.1,kG h.2];exact(congrArg (fun z:Int=>(z==3)||false) h.2).symm
  ·rw[kH h];rfl
 rw[e,es,List.any_map,fm,cD]
 exact jU.mpr (mj.trans (gU ⟨fun h=>h.elim fun y h=>aS.mpr ⟨y,h.1,aN h.2⟩,fun h=>(aS.mp h).elim fun y h=>⟨y,h.1,beq_iff_eq.mpr h.2⟩⟩ decide_eq_true_iff.symm))
theorem aBo {q:List El}(h:bm T X q):bu (fm q):=fun x hx=>(aS.mp hx).elim fun y hy=>hy.2▸(h y hy.1).imp (fun z=>⟨z.1,z.2.1⟩) fun z=>z.1
theorem ej.row (h:ej T t c):∃x,az T t x∧bY x=true∧x.simple=true∧gq x=decide (3∈c.map (·.2))∧bu c∧∀X,∃q,bm T X q∧fm q=c∧x.els=es q:=
 h.1.elim fun ro h=>h.elim fun q hq=>⟨d9 q ro,hq.2.2,se q,aBm (se q),hq.2.1▸aBn q,hq.2.1▸aBo hq.1,fun X=>⟨q,hq.1.sub fun _ h=>(aJ h).elim,hq.2.1,o0 q⟩⟩
theorem aBp (G:aj b T)(hl:ej T t c)(hm:az T u (.inter [p,q]))(kk:∀k∈[p,q],k=t∨k=22∨k=19)(hp:f1 T u t):LR T X ⟨u,3,[c],t⟩:=
 hl.row.elim fun x h=>pe (F3 G hl hm kk) ⟨hp,x,h.1,.inl ⟨h.2.1,h.2.2.2.2.2 X⟩⟩ hm (by decide:(7:Int)≠6) (pd G hm (by decide:(7:Int)≠1)).2 h.2.2.2.2.1 hl.2
theorem yt {x:Int}{N:L→O→Prop}{s3 s6:Option Slot}(hr:Lv (m+1) r)(G:aj (b+1) T)(hX:XK T X)(hl:ej T t c)(kk:∀k∈[p,q],k=t∨k=22∨k=19)
 (h1:x.fmod 4=2∨3∈c.map (·.2)→∀T' u,Le T T'→az T' u (.inter [p,q])→eS T' u true) (h2:¬(x.fmod 4=2∨3∈c.map (·.2))→∀T' u,Le T T'→az T' u (.inter [p,q])→f1 T' u t)
 (k:∀t cs h T' X',Le T T'→aj b T'→fF T' X X' ⟨t,3,cs,h⟩→cs.length≤1→K (.d (.tuple [.int t,cn cs,.int h])) (ob T')):
 xn r [some (.pv (.d (.int x))),some (.pv (.o 0)),some (.pv (.d c8)),s3,some (.pv (.d (.int t))),some (.pv (.d (.list [ce c]))),s6,none,some (.pv (.d (.tuple [.int p,.int q])))] (ob T) N K:=by
 refine⟨rfl,i4 (m:=m) (x:=.inter [p,q]) hr G rfl fun u T' l G' h=>?_⟩
 have fin:∀d:aF,LR T' (u::t::X) d→fF T' X (u::t::X) d:=fun d h'=>⟨h',fun _ h=>.tail _ (.tail _ h),aT _,aBk (hX.le l) (hl.le l) h kk⟩
 have c1:(x.fmod 4=2∨3∈c.map (·.2))→K (.d (.tuple [.int u,cn [[([u],3)]],.int u])) (ob T'):=fun z=>k _ _ _ T' _ l G' (fin _ ((aBl (X:=X) G' (hl.le l) h kk (h1 z T' u l h)).sub (cx.mpr ⟨.head _,fun _ h=>.tail _ (.tail _ h)⟩))) (aT 1)
 by_cases he:x.fmod 4=2
 ·exact cu he (c1 (.inl he))
 ·refine bW he ?_
  refine ah rfl (ah rfl (ah rfl (ah rfl ?_)))
  refine⟨rfl,eR c _ (enc:=dw) (v:=fun y=>.int y.2) (I:=fun l=>∃i j,l=[some (.pv (.d (.int x))),some (.pv (.o 0)),some (.pv (.d c8)),s3,some (.pv (.d (.int t))),some (.pv (.d (.list [ce c]))),s6,some (.pv (.d (.int u))),some (.pv (.d (.tuple [.int p,.int q]))),i,j]) (fun y h l hl A kk h'=>hl.elim fun i e=>e.elim fun j e=>?_) (aX hl.2 (by decide)) ⟨_,_,rfl⟩ fun l hl'=>hl'.elim fun i e=>e.elim fun j e=>?_⟩
  ·subst e;exact h' _ ⟨_,_,rfl⟩
  ·subst e
   have em:c.map (fun y=>bv y.2)=aA (c.map (·.2)):=(cD ..).symm
   rw[em]
   by_cases h3:3∈c.map (·.2)
   ·exact rS h3 (c1 (.inr h3))
   ·exact rT h3 (k _ _ _ T' _ l G' (fin _ (aBp G' (hl.le l) h kk (h2 (fun z=>z.elim he h3) T' u l h))) (aT 1))
theorem aBq:cq (bh (.obj [("other",6)]))=true:=by kernel_rfl
theorem aBr {x:Int}{N:L→O→Prop}{s4 s5 s6 s8:Option Slot}(hr:Lv (m+1) r)(G:aj (b+2) T)(hX:XK T X)
 (k:∀t cs h T' X',Le T T'→aj b T'→fF T' X X' ⟨t,3,cs,h⟩→cs.length≤1→K (.d (.tuple [.int t,cn cs,.int h])) (ob T')):
 Dw r [some (.pv (.d (.int x))),some (.pv (.o 0)),some (.pv (.d c8)),some (.pv (.d (.int 22))),s4,s5,s6,none,s8] (ob T) N K:=by
 refine⟨rfl,i4 (m:=m) (x:=.obj [("other",6)]) hr G aBq fun w T' l G' h=>?_⟩
 refine⟨rfl,i4 (m:=m) (x:=.inter [22,w]) hr G' rfl fun u T2 l2 G2 h2=>?_⟩
 have hw:=h.le l2
 have hb:az T2 22 (.obj [("brand",6)]):=G2.le ⟨by decide,rfl⟩
 have ho:eS T2 u false:=.two h2 hb hw rfl rfl
 have hs:bE T2 u:=jM (X:=[]) (q:=[u,w]) G2 nz (by decide:2≤11) (dD ⟨_,h2,(by decide:2≤300),dD (.inr (.inr (.inl (.tail _ (.head _))))) (.inl (.tail _ (.head _)))⟩ ⟨_,hw,(by decide:1≤300),fun k hk=>aM.mp hk▸ .inr (.inr (.inl (.head _)))⟩) (.inl (.head _))
 have hn:=pd G2 h2 (by decide:(7:Int)≠1)
 exact k u _ u T2 X (l.trans l2) G2 (.mk0 (FY hs (.met h2 ho hb hw) h2 rfl (by decide:(7:Int)≠6) ho hn.1 hn.2) (hX.le (l.trans l2))) (aT 1)
theorem sf {i k:Int}(h:i<k+1)(n:i≠k):i<k:=Int.lt_iff_le_and_ne.mpr ⟨nQ h,n⟩
theorem aBs {i:Int}(h:0≤i∧i<4)(h1:i≠1)(h2:i≠2)(h3:i≠3):i=0:=Int.le_antisymm (nQ (sf (k:=1) (sf (k:=2) (sf (k:=3) h.2 h3) h2) h1)) h.1
theorem aBt {y z:al}(h:az T u (.inter [t,q]))(ho:eS T u false)(hy:az T t y)(hz:az T q z)(l:bY y=true):f1 T u t:=by
 have p:=f1.met h ho hy hz
 rwa [if_pos l] at p
theorem aBu {y z:al}(h:az T u (.inter [q,t]))(ho:eS T u false)(hz:az T q z)(hy:az T t y)(n:bY z≠true)(l:bY y=true):f1 T u t:=by
 have p:=f1.met h ho hz hy
 rwa [if_neg n,if_pos l] at p
noncomputable def sg (t:Int):List aa:=[.tuple [.int t,.int 22],.tuple [.int 22,.int t],.tuple [.int t,.int 19]]
theorem yu {x:Int}{N:L→O→Prop}{s5 s6 s7 s8:Option Slot}{o:O}(e:cU (sg t) (x.fmod 4)=some (.tuple [.int p,.int q]))
 (k:xn r [some (.pv (.d (.int x))),some (.pv (.o 0)),some (.pv (.d c8)),some (.pv (.d (.int 22))),some (.pv (.d (.int t))),s5,s6,s7,some (.pv (.d (.tuple [.int p,.int q])))] o N K):
 xo r [some (.pv (.d (.int x))),some (.pv (.o 0)),some (.pv (.d c8)),some (.pv (.d (.int 22))),some (.pv (.d (.int t))),s5,s6,s7,s8] o N K:=ah e k
theorem aBv {x:Int}{N:L→O→Prop}(hr:Lv (m+1) r)(G:aj (b+1) T)(hX:XK T X)(hl:ej T t c)(h3:x.fmod 4≠3)
 (k:∀t cs h T' X',Le T T'→aj b T'→fF T' X X' ⟨t,3,cs,h⟩→cs.length≤1→K (.d (.tuple [.int t,cn cs,.int h])) (ob T')):
 xo r [some (.pv (.d (.int x))),some (.pv (.o 0)),some (.pv (.d c8)),some (.pv (.d (.int 22))),some (.pv (.d (.int t))),some (.pv (.d (.list [ce c]))),none,none,none] (ob T) N K:=by
 have hi:=gO x (k:=4) (by decide)
 refine hl.row.elim fun y hy=>?_
 have hb:∀{T2},Le T T2→az T2 22 (.obj [("brand",6)]):=fun l=>(G.le ⟨by decide,rfl⟩).le l
 by_cases h2:x.fmod 4=2
 ·exact yu (p:=t) (q:=19) (congrArg (cU (sg t)) h2) (yt hr G hX hl (dD (.inl rfl) (.inr (.inr rfl))) (fun _ T2 u l2 h=>(Bool.or_true (gq y))▸ .two h (hy.1.le l2) ((G.le (t:=19) (x:=.param 0) ⟨by decide,rfl⟩).le l2) hy.2.2.1 rfl) (fun z=>(z (.inl h2)).elim) k)
 ·have w:(x.fmod 4=2∨3∈c.map (·.2))→(gq y||false)=true:=fun h=>(Bool.or_false _).trans (hy.2.2.2.1.trans (decide_eq_true (h.resolve_left h2)))
  have w':¬(x.fmod 4=2∨3∈c.map (·.2))→(gq y||false)=false:=fun h=>(Bool.or_false _).trans (hy.2.2.2.1.trans (decide_eq_false fun z=>h (.inr z)))
  by_cases h1:x.fmod 4=1
  ·exact yu (p:=22) (q:=t) (congrArg (cU (sg t)) h1) (yt hr G hX hl (dD (.inr (.inl rfl)) (.inl rfl)) (fun h T2 u l2 hu=>(w h)▸(Bool.or_comm ..).symm▸ .two hu (hb l2) (hy.1.le l2) rfl hy.2.2.1) (fun h T2 u l2 hu=>aBu hu ((w' h)▸(Bool.or_comm ..).symm▸ .two hu (hb l2) (hy.1.le l2) rfl hy.2.2.1) (hb l2) (hy.1.le l2) cT hy.2.1) k)
  ·have h0:x.fmod 4=0:=aBs hi h1 h2 h3
   exact yu (p:=t) (q:=22) (congrArg (cU (sg t)) h0) (yt hr G hX hl (dD (.inl rfl) (.inr (.inl rfl))) (fun h T2 u l2 hu=>(w h)▸ .two hu (hy.1.le l2) (hb l2) hy.2.2.1 rfl) (fun h T2 u l2 hu=>aBt hu ((w' h)▸ .two hu (hy.1.le l2) (hb l2) hy.2.2.1 rfl) (hy.1.le l2) (hb l2) hy.2.1) k)
set_option maxHeartbeats 2000000 in
theorem aBw {x:Int}{N:L→O→Prop}(hr:Lv (m+2) r)(G:aj (b+2) T)(hX:XK T X)(hl:ej T t c)
 (k:∀t cs h T' X',Le T T'→aj b T'→fF T' X X' ⟨t,3,cs,h⟩→cs.length≤1→K (.d (.tuple [.int t,cn cs,.int h])) (ob T')):
 Dx r [some (.pv (.d (.int x))),some (.pv (.o 0)),some (.pv (.d c8)),some (.pv (.d (.int 22))),some (.pv (.d (.int t))),some (.pv (.d (.list [ce c]))),none,none,none] (ob T) N K:=by
 by_cases h3:x.fmod 4=3
 ·refine cu h3 ?_
  exact aBr (m:=m+1) hr G hX k
 ·refine bW h3 ?_
  exact aBv (m:=m+1) hr (G.mono (dI (b+1))) hX hl h3 k
theorem aBx {x:Int}(hr:Lv (m+3) r)(G:aj (b+3) T)(hX:XK T X)
 (k:∀t cs h T' X',Le T T'→aj b T'→fF T' X X' ⟨t,3,cs,h⟩→cs.length≤1→K (.d (.tuple [.int t,cn cs,.int h])) (ob T')):
 r.call "_law_met" [.d (.int x),.o 0,.d c8,.d (.int 22)] (ob T) K:=by
 refine hr.call X5 fun r hr=>⟨rfl,?_⟩
 refine r9 (m:=m) hr G fun t T' c l G' hl=>?_
 exact ah rfl (ah rfl (aBw hr G' (hX.le l) hl fun u cs h T2 X' l2=>k u cs h T2 X' (l.trans l2)))
end Mine.V
namespace Mine.V
variable {r:R}{T T' T'':List al}{x:al}{t t' ro:Int}{b m:Nat}{K:PV→O→Prop}{o:O}{a a' l X:List Int}
variable {c:ae}
noncomputable def cf (p:Int×ae):Int×aa:=(p.1,.list [ce p.2])
noncomputable def jb (T:List al)(w:Int×ae):Prop:=gr T [] w∧Kd T [] [] w.1∧bu w.2∧w.2.length≤3
theorem Kd.le' (h:Kd T X l t)(e:Le T T'):Kd T' X l t:=h.imp fun y h=>⟨h.1.le e,h.2.1,fun k hk=>(h.2.2 k hk).imp_right fun h=>h.le e⟩
theorem jb.le {w:Int×ae}(h:jb T w)(l:Le T T'):jb T' w:=⟨h.1.le l,h.2.1.le' l,h.2.2⟩
noncomputable def er (T:List al)(n:Nat)(q:List (Int×ae)):Prop:=(∀w∈q,jb T w)∧(q.map (·.1)).Nodup∧q.length≤n
theorem er.le {q:List (Int×ae)}{n:Nat}(h:er T n q)(l:Le T T'):er T' n q:=⟨fun w hw=>(h.1 w hw).le l,h.2⟩
noncomputable def kO (t:Int)(c:ae)(w:Int×ae):Int×ae:=if w.1==t then (w.1,c) else w
theorem yv {w:Int×ae}(h:(w.1==t)=true):kO t c w=(w.1,c):=if_pos h
theorem yw {w:Int×ae}(h:¬(w.1==t)=true):kO t c w=w:=if_neg h
theorem aBy (w:Int×ae):kO t c w=(t,c)∨kO t c w=w:=by
 by_cases h:(w.1==t)=true
 ·exact .inl ((yv h).trans (congrArg (·,c) (aN h)))
 ·exact .inr (yw h)
theorem aBz (w:Int×ae):(kO t c w).1=w.1:=by
 by_cases h:(w.1==t)=true
 ·exact(congrArg gV (yv (c:=c) h)).trans rfl
 ·exact congrArg gV (yw (c:=c) h)
theorem aBA (w:Int×ae):(if (cf w).1==t then ((cf w).1,.list [ce c]) else cf w)=cf (kO t c w):=by
 by_cases h:(w.1==t)=true
 ·exact(if_pos h).trans (congrArg cf (yv h)).symm
 ·exact(if_neg h).trans (congrArg cf (yw h)).symm
theorem er.put {q:List (Int×ae)}{n:Nat}(h:er T n q)(hc:jb T (t,c))(hn:n<aH):∃q',iJ (.dct (q.map cf)) (.int t) (.list [ce c])=some (.dct (q'.map cf))∧er T (n+1) q'∧q'≠[]:=by
 have e:∀q':List (Int×ae),j0 (q.map cf) t (.list [ce c])=q'.map cf→iJ (.dct (q.map cf)) (.int t) (.list [ce c])=some (.dct (q'.map cf)):=fun q' e=>(if_pos (aX ((aB ..).symm▸h.2.2) hn)).trans (congrArg (fun l=>some (Slot.dct l)) e)
 have ha:(q.map cf).any (fun w=>w.1==t)=decide (t∈q.map (·.1)):=by
  rw[List.any_map];exact jU.mpr (mj.trans (gU ⟨fun h=>h.elim fun y h=>aS.mpr ⟨y,h.1,aN h.2⟩,fun h=>(aS.mp h).elim fun y h=>⟨y,h.1,beq_iff_eq.mpr h.2⟩⟩ decide_eq_true_iff.symm))
 unfold j0 at e
 rw[ha] at e
 by_cases ht:t∈q.map (·.1)
 ·refine⟨q.map (kO t c),e _ ((if_pos (decide_eq_true ht)).trans ?_),⟨fun w hw=>(aS.mp hw).elim fun y hy=>hy.2▸(aBy (t:=t) (c:=c) y).elim (fun e=>e.symm▸hc) fun e=>e.symm▸h.1 y hy.1,?_,(aB ..).symm▸nY h.2.2⟩,fun z=>?_⟩
  ·rw[cD,cD]
   exact me fun w _=>aBA w
  ·rw[cD]
   exact(me fun w _=>aBz w:q.map ((·.1)∘kO t c)=q.map (·.1)).symm▸h.2.1
  ·rw[jR.mp z] at ht;exact aJ ht
 ·refine⟨q++[(t,c)],e _ ((if_neg fun z=>ht (of_decide_eq_true z)).trans (bJ (l₂:=[(t,c)])).symm),⟨ja h.1 hc,?_,by rw[aG];exact gS h.2.2⟩,fun z=>by cases (sM.mp z).2⟩
  rw[bJ]
  exact pE.mpr ⟨h.2.1,eU.mpr ⟨aJ,.nil⟩,fun a ha d hd e=>ht ((e.trans (aM.mp hd):a=t)▸ha)⟩
theorem aBB (q:List (Int×ae)):(q.map (·.1)).Nodup→∀w∈q,fj (q.map cf) w.1=some (.list [ce w.2]):=by
 induction q with
 |nil=>exact fun _ w h=>(aJ h).elim
 |cons y q ih=>
  intro h w hw
  have h:=eU.mp h
  unfold fj at ih ⊢
  rw[mm,List.find?_cons]
  refine(bC.mp hw).elim (fun e=>?_) fun hw=>?_
  ·rw[e,show ((cf y).1==y.1)=true from beq_iff_eq.mpr rfl];rfl
  ·rw[show ((cf y).1==w.1)=false from beq_eq_false_iff_ne.mpr fun z=>h.1 (aS.mpr ⟨w,hw,z.symm⟩)]
   exact ih h.2 w hw
theorem aBC {α β:Type}{f:α→β}{le:β→β→Bool}(x:α)(l:List α):(jo (fun a c=>le (f a) (f c)) x l).map f=jo le (f x) (l.map f):=by
 induction l with
 |nil=>rfl
 |cons y l ih=>
  by_cases h:le (f x) (f y)=true
  ·exact(congrArg (jY f) (if_pos h)).trans (if_pos h).symm
  ·exact(congrArg (jY f) (if_neg h)).trans ((congrArg (f y::·) ih).trans (if_neg h).symm)
theorem aBD {α β:Type}{f:α→β}{le:β→β→Bool}(l:List α):(a9 (fun a c=>le (f a) (f c)) l).map f=a9 le (l.map f):=by
 induction l with
 |nil=>rfl
 |cons y l ih=>exact(aBC y _).trans (congrArg (jo le (f y)) ih)
theorem aBE {q:List (Int×ae)}{n:Nat}(G:aj b T)(h:er T n q)(hn:n≤3)(h2:2≤q.length)(hu:az T t (.union (a9 bn (q.map (·.1))))):LR T X ⟨t,3,q.map (·.2),t⟩:=by
 have hl:q.length≤3:=ai h.2.2 hn
 have hl':(a9 bn (q.map (·.1))).length≤3:=ai (bg ((dy bn _).length_eq.trans (aB ..))) hl
 have hp:=dy (fun a c:Int×ae=>bn a.1 c.1) q
 refine⟨jM (X:=[]) (q:=t::q.map gV) G nz (gS (ai ((aB ..).symm▸hl) (by decide:3≤10))) (cx.mpr ⟨⟨_,hu,ai hl' (by decide),fun k (hk:k∈a9 bn (q.map gV))=>.inl (.tail _ ((dy bn _).mem_iff.mp hk))⟩,fun y hy=>(aS.mp hy).elim fun w hw=>hw.2▸F2 (h.1 w hw.1).2.1⟩) (.inl (.head _)),
  .self hu (.inl (by decide:(6:Int)≠7)),.inr ⟨rfl,.inr (.inr ⟨(aB ..).symm▸h2,a9 (fun a c=>bn a.1 c.1) q,(aBD q).symm▸hu,fun w hw=>(h.1 w (hp.mem_iff.mp hw)).1.sub fun _ h=>(aJ h).elim,fun c=>(hp.map (·.2)).mem_iff,hp.length_eq.trans (aB ..).symm⟩)⟩,fun c hc=>(aS.mp hc).elim fun w hw=>hw.2▸(h.1 w hw.1).2.2⟩
end Mine.V
namespace Mine.V
variable {r:R}{T T' T'':List al}{x:al}{t t' ro:Int}{b m:Nat}{K:PV→O→Prop}{o:O}{a a' l X:List Int}
variable {c:ae}{q:List (Int×ae)}{n:Nat}{u:PV→O→Prop}{N:L→O→Prop}{s6 s7 s8 s9:Option Slot}
theorem LR.cutS {h:Int}(p:LR T X ⟨t,3,[c],h⟩):gr T X (t,c)∧bu c∧c.length≤3:=
 ⟨p.2.2.1.elim (fun k=>k.1.elim (fun z=>absurd z (by decide:¬(3:Int)=0)) fun z=>z.elim (fun z=>absurd z (by decide:¬(3:Int)=1)) fun z=>absurd z (by decide:¬(3:Int)=2)) fun k=>k.2.elim (fun k=>absurd k.2 (cX _ _)) fun k=>k.elim (fun k=>k.elim fun c' k=>(eH k.2).1▸k.1) fun k=>absurd k.1 (by decide:¬2≤1),p.2.2.2 c (.head _)⟩
theorem yx {h:Int}(p:LR T [] ⟨t,3,[c],h⟩)(hk:Kd T [] [] t):jb T (t,c):=⟨p.cutS.1,hk,p.cutS.2⟩
theorem aBF (G:aj b T)(h:ej T t c):jb T (t,c):=yx (yn G h) (yr h)
theorem aBG (G:aj b T):jb T (19,[([19],3)]):=yx (pf (nC G (.inl ⟨_,lU⟩)) (yl G) (.inl rfl) (by decide)) ⟨_,G.le (x:=.param 0) ⟨by decide,rfl⟩,bz _,fun _ h=>(aJ h).elim⟩
theorem aBH (G:aj b T):jb T (22,[([1],2)]):=yx (FZ G 22 (.tail _ (.tail _ (.head _)))) ⟨_,G.le (x:=.obj [("brand",6)]) ⟨by decide,rfl⟩,(by decide:1≤300),fun k hk=>aM.mp hk▸ .inr (.inr (.inl (.head _)))⟩
noncomputable abbrev jL (x:Int)(s4:Slot)(s5 s6 s7 s8 s9:Option Slot):L:=[some (.pv (.d (.int x))),some (.pv (.o 0)),some (.pv (.d c8)),some (.pv (.d (.int 22))),some s4,s5,s6,s7,s8,s9]
noncomputable abbrev jS (x:Int)(s4:Slot)(i:Nat)(s6 s7 s8 s9:Option Slot):L:=jL x s4 (some (.pv (.d (.int (fK i))))) s6 s7 s8 s9
theorem yy {x:Int}{i:Nat}(hq:er T n q)(hc:jb T (t,c))(hn:n<aH)(k:∀q' s7 s8,er T (n+1) q'→q'≠[]→N (jS x (.dct (q'.map cf)) i s6 s7 s8 s9) o):
 (ik (.n 4) (eV 7) (eV 8)) r (jS x (.dct (q.map cf)) i s6 (some (.pv (.d (.int t)))) (some (.pv (.d (.list [ce c])))) s9) o N u:=
 (hq.put hc hn).elim fun q' h=>ah h.1 (k q' _ _ h.2.1 h.2.2)
theorem F4 {x y:Int}{i:Nat}(hr:Lv (m+2) r)(G:aj (b+1) T)(hq:er T n q)(hn:n<aH)(k:∀T' q' s7 s8,Le T T'→aj b T'→er T' (n+1) q'→q'≠[]→N (jS x (.dct (q'.map cf)) i (some (.pv (.d (.int y)))) s7 s8 s9) (ob T')):
 Du r (jS x (.dct (q.map cf)) i (some (.pv (.d (.int y)))) s7 s8 s9) (ob T) (fun l o=>(ik (.n 4) (eV 7) (eV 8)) r l o N u) u:=by
 refine r9 (m:=m) hr G fun t T' c l G' hl=>?_
 exact ah rfl (ah rfl (yy (u:=u) (hq.le l) (aBF G' hl) hn fun q' s7 s8=>k T' q' s7 s8 l G'))
theorem aBI {x y:Int}{i:Nat}(hr:Lv (m+2) r)(G:aj (b+1) T)(hq:er T n q)(hn:n<aH)(k:∀T' q' s7 s8,Le T T'→aj b T'→er T' (n+1) q'→q'≠[]→N (jS x (.dct (q'.map cf)) i (some (.pv (.d (.int y)))) s7 s8 s9) (ob T')):
 Dv r (jS x (.dct (q.map cf)) i (some (.pv (.d (.int y)))) s7 s8 s9) (ob T) N u:=by
 have G':=G.mono (aR b 1)
 by_cases h0:(0:Int)<fK i
 ·refine kJ h0 ?_
  by_cases h3:y.fmod 5=3
  ·refine cu h3 ?_
   exact yy (u:=u) hq (aBG G') hn fun q' s7 s8=>k T q' s7 s8 (.refl T) G'
  ·refine bW h3 (kJ h0 ?_)
   by_cases h4:y.fmod 5=4
   ·refine cu h4 ?_
    exact yy (u:=u) hq (aBH G') hn fun q' s7 s8=>k T q' s7 s8 (.refl T) G'
   ·refine bW h4 ?_
    exact F4 hr G hq hn k
 ·refine kC (jW.mp h0) (kC (jW.mp h0) ?_)
  exact F4 hr G hq hn k
theorem qi {x d:Int}(h:1≤d∧d≤1000000):ie .FloorDiv (.int x) (.int d)=some (.int (x.fdiv d)):=if_pos h
theorem aBJ {x:Int}{i:Nat}(hr:Lv (m+2) r)(G:aj (b+1) T)(hq:er T n q)(hn:n<aH)(hi:i<3)(k:∀T' q' s6 s7 s8,Le T T'→aj b T'→er T' (n+1) q'→q'≠[]→N (jS x (.dct (q'.map cf)) i s6 s7 s8 s9) (ob T')):
 rf r (jS x (.dct (q.map cf)) i s6 s7 s8 s9) (ob T) N u:=by
 refine(kM (f:=bv) (q:=[1,7,5]) (gy i) (ib.mpr hi)).elim fun d hd=>?_
 refine ah hd.2 ?_
 have hz:=(by decide:∀d∈[(1:Int),7,5],1≤d∧d≤1000000) d hd.1
 refine ah rfl (ah (qi hz) ?_)
 exact aBI hr G hq hn fun T' q' s7 s8=>k T' q' _ s7 s8
end Mine.V
namespace Mine.V
variable {r:R}{T T' T'':List al}{x:al}{t t' ro:Int}{b m:Nat}{K:PV→O→Prop}{o:O}{a a' l X:List Int}
variable {c:ae}{q:List (Int×ae)}{u:PV→O→Prop}{N:L→O→Prop}{s5 s6 s7 s8 s9:Option Slot}
theorem aBK {y:Int}(hr:Lv (m+2) r)(n:Nat):∀(i:Nat) (T:List al) (q:List (Int×ae)) (xs:List (Int×aa)) (s5 s6 s7 s8:Option Slot),xs=q.map cf→aj (b+n) T→er T i q→i+n≤3→(q≠[]∨0<n)→
 (∀T' q' s5 s6 s7 s8,Le T T'→aj b T'→er T' (i+n) q'→q'≠[]→N (jL y (.dct (q'.map cf)) s5 s6 s7 s8 s9) (ob T'))→
 ba (ay 5) rf r N u (fY (gT i n)) (jL y (.dct xs) s5 s6 s7 s8 s9) (ob T):=by
 induction n with
 |zero=>exact fun i T q xs s5 s6 s7 s8 e G hq _ h0 k=>e▸k T q s5 s6 s7 s8 (.refl T) G hq (h0.resolve_right (gA 0))
 |succ n ih=>
  intro i T q xs s5 s6 s7 s8 e G hq hi _ k
  have hi':i+1+n≤3:=(c9 i n 1)▸hi
  subst e
  exact aBJ hr G hq (aX (ai (aR _ _) hi) (by decide)) (fc (fc (dm i) (aR _ _)) hi') fun T' q' s6 s7 s8 l G' h hne=>
   ih (i+1) T' q' _ _ s6 s7 s8 rfl G' h hi' (.inl hne) fun T2 q2 s5 s6 s7 s8 l2 G2 h2=>k T2 q2 s5 s6 s7 s8 (l.trans l2) G2 (c9 i 1 n▸h2)
theorem F5 (q:List (Int×ae)):(q.map cf).map (fun p=>bv p.1)=aA (q.map (·.1)):=(cD ..).trans (cD (g:=bv) (f:=gV) (l:=q)).symm
theorem aBL {y:Int}(hq:∀w∈q,fj (q.map cf) w.1=some (.list [ce w.2]))(p:List (Int×ae)):∀(acc:List ae) (s:Slot) (s7:Option Slot),still s=some (.d (cn acc))→(∀w∈p,w∈q)→acc.length+p.length≤3→
 (∀s s7,still s=some (.d (cn (acc++p.map (·.2))))→N (jL y (.pv (.kd (q.map cf))) s5 s6 s7 s8 (some s)) o)→ba (ay 7) xm r N u (aA (p.map (·.1))) (jL y (.pv (.kd (q.map cf))) s5 s6 s7 s8 (some s)) o:=by
 induction p with
 |nil=>exact fun acc s s7 hs _ _ k=>k s s7 ((ck acc).symm▸hs)
 |cons w p ih=>
  intro acc s s7 hs hp hl k
  refine ah hs (ah rfl (ah (hq w (hp w (.head _))) (ah rfl (ah (lP ?_) ?_))))
  ·exact ai (je (bg (aB ..)) 1) (ai (ai (cy (gS (bz p.length)) _) hl) (by decide))
  ·exact ih (acc++[w.2]) _ _ (congrArg (fun l=>some (PV.d (.list l))) (bJ (l₂:=[w.2])).symm) (fun z hz=>hp z (.tail _ hz)) (by rw[aG,dS,gB [w.2].length];exact hl) fun s s7 h=>k s s7 (by rw[cz] at h;exact h)
theorem aBM {y:Int}{n:Nat}{s:Slot}(hr:Lv (m+1) r)(G:aj (b+1) T)(hX:XK T X)(hq:er T n q)(hn:n≤3)(h2:2≤q.length)(hs:still s=some (.d (cn (q.map (·.2)))))
 (k:∀t cs T',Le T T'→aj b T'→fF T' X X ⟨t,3,cs,t⟩→cs.length≤n→K (.d (.tuple [.int t,cn cs])) (ob T')):
 Ds r (jL y (.pv (.kd (q.map cf))) s5 s6 s7 s8 (some s)) (ob T) N K:=by
 have hl:(q.map (·.1)).length≤3:=(aB ..).symm▸ai hq.2.2 hn
 refine⟨rfl,rfl,(F5 q).symm.subst (motive:=fun z=>bf (ay 10) tT (eV 10) z [] r _ _ _) (eR (q.map (·.1)) _ (enc:=bv) (v:=bv) (I:=fun l=>∃j,l=[some (.pv (.d (.int y))),some (.pv (.o 0)),some (.pv (.d c8)),some (.pv (.d (.int 22))),some (.pv (.kd (q.map cf))),s5,s6,s7,s8,some s,j]) (fun y h l hl A kk h'=>?_) (aX hl (by decide)) ⟨_,rfl⟩ fun l hl'=>?_)⟩
 ·obtain⟨j,rfl⟩:=hl;exact h' _ ⟨_,rfl⟩
 ·obtain⟨j,rfl⟩:=hl'
  refine ah rfl (ah (oU (aX hl (by decide))) ?_)
  refine i4 (m:=m) (x:=.union (a9 bn (q.map (·.1)))) hr G (Eh _) fun t T' l G' h=>?_
  exact ah rfl (ah hs (k t _ T' l G' (.mk0 (aBE G' (hq.le l) hn h2 h) (hX.le l)) (ai (bg (aB ..)) hq.2.2)))
theorem aBN {y:Int}{n:Nat}(hr:Lv (m+2) r)(G:aj (b+1) T)(hX:XK T X)(hq:er T n q)(hn:n≤3)(hne:q≠[])(h1:1≤n)
 (k:∀t cs T',Le T T'→aj b T'→fF T' X X ⟨t,3,cs,t⟩→cs.length≤n→K (.d (.tuple [.int t,cn cs])) (ob T')):
 Dt r (jL y (.dct (q.map cf)) s5 s6 s7 s8 s9) (ob T) N K:=by
 have hl:q.length≤3:=ai hq.2.2 hn
 have e:og (.dct (q.map cf))=some q.length:=(if_pos (ai (bg (aB ..)) (ai hl (by decide:3≤aH)))).trans (congrArg some (aB ..))
 refine ah e ?_
 by_cases h:(q.length:Int)=1
 ·refine cu h ?_
  refine r9 (m:=m) hr G fun t T' c l G' hl=>?_
  exact k t [c] T' l G' (.mk0 (yn G' hl) (hX.le l)) h1
 ·refine bW h ?_
  have h2:2≤q.length:=Nat.lt_of_le_of_ne (gx.mpr hne) fun z=>h (congrArg Nat.cast z.symm)
  refine(F5 q).symm.subst (motive:=fun z=>ba (ay 7) xm r _ _ z _ _) (aBL (aBB q hq.2.1) q [] (.lst []) _ rfl (fun _ h=>h) (ai (bg (bQ _)) hl) fun s s7 hs=>?_)
  exact aBM (m:=m+1) hr G hX hq hn h2 hs k
theorem F6 {z:Int}{n:Nat}(h:z=n)(hl:n≤aH):pQ (.int z)=some n:=by
 rw[h];exact if_pos ⟨gy _,eX.mpr hl⟩
theorem aBO {x:Int}{n:Nat}(hr:Lv (m+3) r)(G:aj (b+4) T)(hX:XK T X)(hn:2+x.fmod 2=n)
 (k:∀t cs T',Le T T'→aj b T'→fF T' X X ⟨t,3,cs,t⟩→cs.length≤n→K (.d (.tuple [.int t,cn cs])) (ob T')):
 r.call "_law_joined" [.d (.int x),.o 0,.d c8,.d (.int 22)] (ob T) K:=by
 refine hr.call X4 fun r hr=>⟨rfl,?_⟩
 have hi:=gO x (k:=2) (by decide)
 have h3:n≤3:=eX.mp (hn▸nQ (Int.add_lt_add_left hi.2 2))
 have h2:2≤n:=eX.mp (hn▸Int.add_le_add_left hi.1 2)
 refine ah (F6 hn (ai h3 (by decide))) ?_
 exact(i9 n).symm.subst (motive:=fun z=>ba (ay 5) rf r _ _ z _ (ob T)) (aBK (b:=b+1) hr n 0 T [] [] none none none none rfl (G.mono (cy (gS h3:n+1≤4) b |> fun h=>(c9 b 1 n).symm▸h)) ⟨fun _ h=>(aJ h).elim,.nil,aT 0⟩ (ai (bg (bQ n)) h3) (.inr (fc (by decide) h2)) fun T' q' s5 s6 s7 s8 l G' hq hne=>
  aBN hr G' (hX.le l) ((bQ n)▸hq) h3 hne (ai (by decide) h2) fun t cs T2 l2=>k t cs T2 (l.trans l2))
end Mine.V
namespace Mine.V
variable {r:R}{T T' T'':List al}{x:al}{t t' ro:Int}{b m:Nat}{K:PV→O→Prop}{o:O}{a a' l X:List Int}
variable {X':List Int}{c:ae}{u:PV→O→Prop}{N:L→O→Prop}{s1 s2 s3 s4 s5 s6 s7 s8 s9:Option Slot}
theorem aBP {x:al}(h:oV x=true):x.kind≠7:=by
 cases x<;>first|exact k7 h|exact(by decide:(1:Int)≠7)|exact(by decide:(3:Int)≠7)|exact(by decide:(4:Int)≠7)|exact(by decide:(10:Int)≠7)
theorem aBQ (G:aj b T)(h:EK T t a):∃x,az T t x∧x.kind≠7:=h.2.elim (fun e=>(rr t (h.1.2.1 t (e▸ .head _))).imp fun x hx=>⟨G.le hx.1,aBP hx.2⟩) fun h=>⟨_,h.2,(by decide:(6:Int)≠7)⟩
theorem aBR {s:Int}(G:aj b T)(h:EK T t a)(hs:s=0∨s=1∨s=2):LR T X ⟨t,s,[[(a,s)]],t⟩:=(aBQ G h).elim fun x hx=>
 ⟨nC G (.inl ⟨a,h⟩),.self hx.1 (.inl hx.2),.inl ⟨hs,a,h,rfl⟩,fun c hc=>aM.mp hc▸⟨ym h.1 hs,(by decide:1≤3)⟩⟩
theorem aBS {y s:Int}(G:aj b T)(hs:s=0∨s=1∨s=2)(k:∀d,LR T X d→d.cs.length≤1→K (.d (a7 d)) (ob T)):
 DB r [some (.pv (.d (.int y))),s1,some (.pv (.d c8)),s3,s4,s5,some (.pv (.d (.int s))),s7,s8,s9] (ob T) N K:=by
 have hi:=gO y (k:=6) (by decide)
 refine(kM (f:=ny) (q:=pb) hi.1 hi.2).elim fun p hp=>?_
 have k:=k ⟨p.1,s,[[(p.2,s)]],p.1⟩ (aBR G (FV G p hp.1) hs) (aT 1)
 exact ah hp.2 (ah hp.2 (ah hp.2 k))
theorem aBT (i:Int)(h0:0≤i)(h:i<3):∃s,cU [.int 0,.int 1,.int 2] i=some (.int s)∧(s=0∨s=1∨s=2):=
 (kM (f:=bv) (q:=[0,1,2]) h0 h).elim fun s hs=>⟨s,hs.2,(bC.mp hs.1).imp_right fun h=>(bC.mp h).imp_right aM.mp⟩
theorem aBU {x s:Int}{n:Nat}(hr:Lv (m+3) r)(G:aj (b+4) T)(hX:XK T X)(h5:¬s<5)(e5:s≠5)(hn:2+x.fmod 2=n)
 (k:∀T' X' d,Le T T'→aj b T'→fF T' X X' d→(s=6∨s=7)∧d.cs.length≤n∨d.cs.length≤1→K (.d (a7 d)) (ob T')):
 Dz r [some (.pv (.d (.int x))),some (.pv (.o 0)),some (.pv (.d c8)),some (.pv (.d (.int 22))),some (.pv (.d (.int 24))),some (.pv (.d (.int s))),none,none,none,none] (ob T) (fun l o=>Dy r l o N K) K:=by
 have G1:aj (b+1) T:=G.mono (cy (by decide:1≤4) b)
 by_cases h8:s<8
 ·refine jI h8 ?_
  refine aBO (m:=m) hr G hX hn fun t cs T' l G' he hc=>?_
  refine ah rfl (ah rfl (k T' X ⟨t,3,cs,t⟩ l G' he (.inl ⟨?_,hc⟩)))
  by_cases h7:s=7
  ·exact .inr h7
  ·exact .inl (Int.le_antisymm (nQ (sf (k:=7) h8 h7)) (Int.add_one_le_of_lt (Int.lt_iff_le_and_ne.mpr ⟨jW.mp h5,gW e5⟩)))
 ·refine f0 h8 ?_
  refine aBi (m:=m+1) hr G1 hX fun t cs T' X' l G' he hc=>?_
  exact ah rfl (ah rfl (k T' X' ⟨t,3,cs,t⟩ l G' he (.inr hc)))
theorem aBV {x s:Int}{n:Nat}(hr:Lv (m+3) r)(G:aj (b+4) T)(hX:XK T X)(h9:s<9)(hn:2+x.fmod 2=n)
 (k:∀T' X' d,Le T T'→aj b T'→fF T' X X' d→(s=6∨s=7)∧d.cs.length≤n∨d.cs.length≤1→K (.d (a7 d)) (ob T')):
 DA r [some (.pv (.d (.int x))),some (.pv (.o 0)),some (.pv (.d c8)),some (.pv (.d (.int 22))),some (.pv (.d (.int 24))),some (.pv (.d (.int s))),none,none,none,none] (ob T) N K:=by
 have G1:aj (b+1) T:=G.mono (cy (by decide:1≤4) b)
 by_cases h5:s<5
 ·refine jI h5 ?_
  refine r9 (m:=m+1) hr G1 fun t T' c l G' hl=>?_
  exact ah rfl (ah rfl (k T' X ⟨t,3,[c],t⟩ l G' (.mk0 (yn G' hl) (hX.le l)) (.inr (aT 1))))
 ·refine f0 h5 ?_
  by_cases e5:s=5
  ·refine cu e5 ?_
   refine aBx (m:=m) hr (G.mono (cy (by decide:3≤4) b)) hX fun t cs h T' X' l G' he hc=>?_
   exact ah rfl (ah rfl (k T' X' ⟨t,3,cs,h⟩ l G' he (.inr hc)))
  ·refine bW e5 ?_
   exact aBU hr G hX h5 e5 hn k
theorem aBW {x:Int}{n:Nat}(hr:Lv (m+4) r)(G:aj (b+4) T)(hX:XK T X)(hn:2+(x.fdiv 9).fmod 2=n)
 (k:∀T' X' d,Le T T'→aj b T'→fF T' X X' d→(x.fmod 9=6∨x.fmod 9=7)∧d.cs.length≤n∨d.cs.length≤1→K (.d (a7 d)) (ob T')):
 r.call "_law_element" [.d (.int x),.o 0,.d c8,.d (.int 22),.d (.int 24)] (ob T) K:=by
 refine hr.call X7 fun r hr=>⟨rfl,?_⟩
 have hi:=gO x (k:=9) (by decide)
 by_cases h3:x.fmod 9<3
 ·refine jI h3 ?_
  refine(aBT _ hi.1 h3).elim fun s hs=>ah hs.1 ?_
  have G0:=G.mono (aR b 4)
  exact aBS G0 hs.2 fun d h1 h2=>k T X d (.refl T) G0 (.mk0 h1 hX) (.inr h2)
 ·refine f0 h3 ?_
  exact aBV hr G hX hi.2 hn k
end Mine.V
namespace Mine.V
variable {r:R}{T T' T'':List al}{x:al}{t t' ro:Int}{b m:Nat}{K:PV→O→Prop}{o:O}{a a' l X:List Int}
variable {b' d' n':List aa}{os:O}{u:PV→O→Prop}{N:L→O→Prop}
noncomputable def code:al→Int×List Int×List Str
 | .key s=>(1,[],[s])
 | .bool v f=>(2,[v,f],[])
 | .str s=>(3,[],[s])
 | .num n=>(4,[n],[])
 | .union l=>(6,l,[])
 | .obj l=>(8,l.map (·.2),l.map (·.1))
 | .param p=>(10,[p],[])
 | .arr e ro=>(11,[e,ro],[])
 | _=>(0,[],[])
theorem F7:aZ.Nodup:=by
 have h:(aZ.map code).Nodup:=by decide +kernel
 exact List.Pairwise.imp (fun h e=>h (congrArg code e)) (List.pairwise_map.mp h)
theorem aBX:aZ.all (fun x=>cq (bh x))=true:=by kernel_rfl
theorem lW {k:Nat}(hr:Lv (m+1) r)(hk:aZ[k]? =some x)(h:K (.d (.int k)) (ct (aZ.take (k+1)) b' d' n'::os)):
 r.meth 0 "put" [.o 0,.d (bh x)] (ct (aZ.take k) b' d' n'::os) K:=by
 have hm:=pC hk
 have hl:=(fG.mp hk).1
 have e:(aZ.take k).length=k:=(List.length_take ..).trans (Nat.min_eq_left (eW hl))
 have hn:=pE.mp ((pz k aZ).symm▸F7)
 have hx:x∈aZ.drop k:=pC (i:=0) (List.getElem?_drop.trans hk)
 refine D8 hr (dn.mp aBX x hm) (by rw[e];exact fc hl (by decide)) (fun z=>hn.2.2 x z x hx rfl) ?_
 rw[e]
 rw[List.take_add_one,hk] at h
 exact h
theorem aBY {q:List al}(hr:Lv (m+1) r)(c:List al):∀(k:Nat) (j:Option Slot),aZ.drop k=c++q→(∀j,N [some (.pv (.o 0)),j] (ct (aZ.take (k+c.length)) [] [] []::os))→
 ba (ay 1) xa r N u (c.map bh) [some (.pv (.o 0)),j] (ct (aZ.take k) [] [] []::os):=by
 induction c with
 |nil=>exact fun k j _ h=>h j
 |cons x c ih=>
  intro k j h hN
  refine⟨rfl,lW hr (i8 h) ?_⟩
  exact ih (k+1) _ (fZ h) fun j=>(c9 k 1 c.length)▸hN j
theorem aBZ {os:O}:Dd r [some (.pv (.o 0)),none] ({cls:=0,at':=[]}::os) N u=xb r [some (.pv (.o 0)),none] (ct (aZ.take 0) [] [] []::os) N u:=by kernel_rfl
theorem aCa:mH= .d (.tuple ((aZ.take 16).map bh)):=by kernel_rfl
theorem aCb (hr:Lv (m+1) r)(k:∀j,N [some (.pv (.o 0)),j] (ct (aZ.take 16) [] [] []::os)):xb r [some (.pv (.o 0)),none] (ct (aZ.take 0) [] [] []::os) N u:=by
 have h:gh mH=some ((aZ.take 16).map bh):=congrArg gh aCa
 show am (gh mH) fun xs=>ba (ay 1) xa r N u xs [some (.pv (.o 0)),none] (ct (aZ.take 0) [] [] []::os)
 refine ah h ?_
 exact aBY hr (q:=aZ.drop 16) (aZ.take 16) 0 none (pz 16 aZ).symm k
theorem aCc (hr:Lv (m+2) r)(k:K (.d .none) (ct (aZ.take 16) [] [] []::os)):r.meth 0 "__init__" [.o 0] ({cls:=0,at':=[]}::os) K:=by
 refine hr.meth Yd fun r hr=>⟨rfl,aBZ.mpr ?_⟩
 exact aCb hr fun j=>k
theorem aCd {t:Ob}:xh r [some (.pv (.o 1)),some (.pv (.o 0))] [t,{cls:=1,at':=[]}] N u=N [some (.pv (.o 1)),some (.pv (.o 0))] [t,oR]:=by kernel_rfl
theorem aCe {t:Ob}(k:N [some (.pv (.o 1)),some (.pv (.o 0))] [t,oR]):xh r [some (.pv (.o 1)),some (.pv (.o 0))] [t,{cls:=1,at':=[]}] N u:=aCd.mpr k
theorem aCf {t:Ob}(hr:Lv (m+1) r)(k:K (.d .none) [t,oR]):r.meth 1 "__init__" [.o 1,.o 0] [t,{cls:=1,at':=[]}] K:=
by
 refine hr.meth Ye fun r hr=>⟨rfl,?_⟩
 have h:=aCe (r:=r) (N:=fun _ o=>K (.d .none) o) (u:=K) (t:=t) k
 exact h
theorem F8 {k:Nat}{s:Str}(hr:Lv (m+2) r)(hk:aZ[k]? =some (.str s))(h:K (.d (.int k)) (ct (aZ.take (k+1)) b' d' n'::os)):
 r.call "str_type" [.o 0,.d (.str s)] (ct (aZ.take k) b' d' n'::os) K:=
 hr.call Xf fun r hr=>⟨rfl,rfl,lW (m:=m) hr hk h⟩
theorem aCg {k:Nat}{s:Int}(hr:Lv (m+2) r)(hk:aZ[k]? =some (.num s))(h:K (.d (.int k)) (ct (aZ.take (k+1)) b' d' n'::os)):
 r.call "num_type" [.o 0,.d (.int s)] (ct (aZ.take k) b' d' n'::os) K:=
 hr.call Xg fun r hr=>⟨rfl,rfl,lW (m:=m) hr hk h⟩
theorem F9 {k:Nat}{p c e:aa}(hr:Lv (m+2) r)(hl:b'.length<aH∧d'.length<aH∧n'.length<aH)(hk:aZ[k]? =some (.param (fK b'.length)))(h:K (.d (.int k)) (ct (aZ.take (k+1)) (b'++[c]) (d'++[e]) (n'++[p])::os)):
 r.call "new_param" [.o 0,.d p,.d c,.d e] (ct (aZ.take k) b' d' n'::os) K:=by
 refine hr.call Xl fun r hr=>⟨rfl,?_⟩
 refine ah rfl ⟨hl.1,?_⟩
 refine ah rfl (ah rfl ⟨hl.2.1,?_⟩)
 refine ah rfl (ah rfl ⟨hl.2.2,?_⟩)
 refine ah rfl ?_
 exact⟨rfl,lW (m:=m) hr hk h⟩
end Mine.V
namespace Mine.V
variable {r:R}{T T' T'':List al}{x:al}{t t' ro:Int}{b m:Nat}{K:PV→O→Prop}{o:O}{a a' l X:List Int}
variable {b' d' n':List aa}{os:O}{u:PV→O→Prop}{N:L→O→Prop}{s0 s1 s2 s3 s4:Option Slot}
theorem nD {xs:List aa}(hl:a.length<64)(hs:a9 bn a=a)(k:q9 r [s0,s1,s2,s3,s4,some (.lst xs),some (.pv (.d (be a)))] o N u):
 xj r [s0,s1,s2,s3,s4,some (.lst xs),some (.pv (.d (be a)))] o N u:=by
 have h:=oU hl
 rw[hs] at h
 exact ah h k
theorem si {xs:List aa}{p:Int}(hl:xs.length<aH)(k:∀j,N [s0,s1,s2,s3,s4,some (.lst (xs++[ny (p,[p])])),j] o):
 q9 r [s0,s1,s2,s3,s4,some (.lst xs),some (.pv (.d (be [p])))] o N u:=by
 exact⟨hl,k _⟩
theorem Ga {xs:List aa}{p q:Int}{i:Nat}(hr:Lv (m+1) r)(hl:xs.length<aH)(hk:aZ[i]? =some (.union [p,q]))(k:∀j,N [some (.pv (.o 0)),s1,s2,s3,s4,some (.lst (xs++[ny ((i:Int),[p,q])])),j] (ct (aZ.take (i+1)) b' d' n'::os)):
 q9 r [some (.pv (.o 0)),s1,s2,s3,s4,some (.lst xs),some (.pv (.d (be [p,q])))] (ct (aZ.take i) b' d' n'::os) N u:=by
 refine⟨rfl,lW (m:=m) hr hk ?_⟩
 exact⟨hl,k _⟩
noncomputable abbrev N1:List aa:=[.int (-1)]
noncomputable abbrev NT:List aa:=[.str "T"]
theorem nE {i:Nat}{c:SP}{l:L}{x:aa}{xs:List aa}(h:c r (l.set i (some (.pv (.d x)))) o (ba (ay i) c r N u xs) u):ba (ay i) c r N u (x::xs) l o:=h
theorem aCh {j:Option Slot}(hr:Lv (m+1) r)(k:∀j,N [some (.pv (.o 0)),s1,s2,s3,s4,some (.lst (pb.map ny)),j] (ct (aZ.take 22) b' d' n'::os)):
 ba (ay 6) xj r N u [be [16],be [17],be [18],be [16,18],be [4,17],be [19]] [some (.pv (.o 0)),s1,s2,s3,s4,some (.lst []),j] (ct (aZ.take 20) b' d' n'::os):=by
 refine nE (nD (u:=u) (by decide) rfl (si (u:=u) (by decide) fun j=>?_))
 refine nE (nD (u:=u) (by decide) rfl (si (u:=u) (by decide) fun j=>?_))
 refine nE (nD (u:=u) (by decide) rfl (si (u:=u) (by decide) fun j=>?_))
 refine nE (nD (u:=u) (by decide) rfl (Ga (u:=u) (i:=20) hr (by decide) rfl fun j=>?_))
 refine nE (nD (u:=u) (by decide) rfl (Ga (u:=u) (i:=21) hr (by decide) rfl fun j=>?_))
 refine nE (nD (u:=u) (by decide) rfl (si (u:=u) (by decide) fun j=>?_))
 exact k j
noncomputable abbrev kI (i:Int):Option Slot:=some (.pv (.d (.int i)))
theorem aCi {as:TP}{e:EP PV}{c s:SP}{l l':L}{p:PV}{xs:List aa}(he:∀k:PV→L→O→Prop,k p l' o→e r l o k)(hx:gh p=some xs)(h:ba as c r (fun l o=>s r l o N u) u xs l' o):(sS (sF as e c) s) r l o N u:=he _ (ah hx h)
theorem aCj {j:Option Slot}(hr:Lv (m+1) r)(k:K (.d c8) (ct (aZ.take 22) b' d' n'::os)):xl r [some (.pv (.o 0)),kI 16,kI 17,kI 18,kI 19,some (.lst []),j] (ct (aZ.take 20) b' d' n'::os) N K:=
 aCi (p:=.d (.tuple [be [16],be [17],be [18],be [16,18],be [4,17],be [19]])) (l':=[some (.pv (.o 0)),kI 16,kI 17,kI 18,kI 19,some (.lst []),j]) (fun k h=>h) rfl (aCh hr fun j=>k)
theorem aCk {s:SP}{l:L}{i:Nat}(h:s r (l.set i (some (.lst []))) o N u):(sS (sA i (fL [])) s) r l o N u:=h
theorem aCl {j j':Option Slot}(hr:Lv (m+1) r)(k:K (.d c8) (ct (aZ.take 22) b' d' n'::os)):(sS (sA 5 (fL [])) xl) r [some (.pv (.o 0)),kI 16,kI 17,kI 18,kI 19,j,j'] (ct (aZ.take 20) b' d' n'::os) N K:=
 aCk (aCj hr k)
theorem aCm (hr:Lv (m+3) r)(k:K (.d c8) (ct (aZ.take 22) N1 N1 NT::os)):r.call "_law_kinds" [.o 0] (ct (aZ.take 16) [] [] []::os) K:=by
 refine hr.call X2 fun r hr=>⟨rfl,?_⟩
 refine F8 (m:=m) hr rfl ?_
 refine F8 (m:=m) hr rfl ?_
 refine aCg (m:=m) hr rfl ?_
 refine F9 (m:=m) hr ⟨by decide,by decide,by decide⟩ rfl ?_
 exact aCl (m:=m+1) hr k
end Mine.V
namespace Mine.V
variable {r:R}{T T' T'':List al}{x:al}{t t' ro:Int}{b m:Nat}{K:PV→O→Prop}{o:O}{a a' l X:List Int}
variable {rows:List aF}{N:L→O→Prop}{s0 s3 s4 s5 s8 s9 s10 s11 s13:Option Slot}
theorem aCn {head whole:Int}(hr:Lv (m+15) r)(G:aj (b+bP 2+bP 2+bP 2) T)(hX:d5 T X)(h:Rows T X rows)(hw:FB T X ro rows whole)(k:∀T',K (.d (.bool true)) (ob T')):
 xt r [s0,some (.pv (.o 0)),some (.pv (.o 1)),s3,s4,s5,some (.pv (.d (.int head))),some (.pv (.d (.list (rows.map a7)))),s8,s9,s10,s11,some (.pv (.d (.int ro))),some (.pv (.d (.int whole)))] (ob T) N K:=by
 have hl:((rows.map a7).length:Int)=rows.length:=congrArg Nat.cast (aB ..)
 have h1:(1:Int)≤((rows.map a7).length:Int)+1:=Int.add_le_add_right (gy _) 1
 have hi:=gO (head.fdiv 12) (k:=((rows.map a7).length:Int)+1) h1
 have e0:∀i,i=(head.fdiv 12).fmod (((rows.map a7).length:Int)+1)→r.call "_law_parted" [.o 0,.o 1,.d (.list (rows.map a7)),.d (.int ro),.d (.int i),.d (.int whole)] (ob T) K→xt r [s0,some (.pv (.o 0)),some (.pv (.o 1)),s3,s4,s5,some (.pv (.d (.int head))),some (.pv (.d (.list (rows.map a7)))),s8,s9,s10,s11,some (.pv (.d (.int ro))),some (.pv (.d (.int whole)))] (ob T) N K:=fun i e h=>by rw[e] at h;exact h
 refine e0 _ rfl ?_
 generalize (head.fdiv 12).fmod (((rows.map a7).length:Int)+1)=i at hi
 have e:rows.take i.toNat++rows.drop i.toNat=rows:=pz i.toNat rows
 have hi':i=((rows.take i.toNat).length:Nat):=by
  rw[List.length_take,Nat.min_eq_left (Int.toNat_le.mpr (hl▸nQ hi.2)),mf hi.1]
 have k:=aAC (ro:=ro) (whole:=whole) hr G hX (e.symm▸h) hi' (e.symm▸hw) k
 rw[e] at k
 exact k
theorem aCo {head whole:Int}(hr:Lv (m+15) r)(G:aj (b+bP 2+bP 2+bP 2+600+bP 1) T)(hX:d5 T X)(h:Rows T X rows)(hw:FB T X ro rows whole)(k:∀T',K (.d (.bool true)) (ob T')):
 DO r [s0,some (.pv (.o 0)),some (.pv (.o 1)),s3,s4,s5,some (.pv (.d (.int head))),some (.pv (.d (.list (rows.map a7)))),s8,s9,s10,s11,some (.pv (.d (.int ro))),some (.pv (.d (.int whole)))] (ob T) N K:=by
 refine f0 (hw.nn (hw.small G hX h)) ?_
 refine aAS (m:=m+4) hr G hX h hw fun T2 l2 G2=>?_
 refine ah (a:=true) rfl (fX rfl ?_)
 exact aCn (s0:=s0) (s3:=s3) (s4:=s4) (s5:=s5) (s8:=s8) (s9:=s9) (s10:=s10) (s11:=s11) (N:=N) hr G2 (hX.le l2) (h.le l2) (hw.le l2) k
theorem aCp {head:Int}(hr:Lv (m+15) r)(G:aj (b+bP 2+bP 2+bP 2+600+bP 1+bP 2) T)(hX:d5 T X)(h:Rows T X rows)(k:∀T',K (.d (.bool true)) (ob T')):
 DP r [s0,some (.pv (.o 0)),some (.pv (.o 1)),s3,s4,s5,some (.pv (.d (.int head))),some (.lst (rows.map a7)),s8,s9,s10,s11,none,none] (ob T) N K:=by
 refine yf (m:=m+1) (ro:=(head.fdiv 6).fmod 2) hr G h fun u T1 l1 G1 fu=>?_
 exact aCo (s0:=s0) (s3:=s3) (s4:=s4) (s5:=s5) (s8:=s8) (s9:=s9) (s10:=s10) (s11:=s11) (N:=N) hr G1 (hX.le l1) (h.le l1) fu k
end Mine.V
namespace Mine.V
variable {r:R}{T T' T'':List al}{x:al}{t t' ro:Int}{b m:Nat}{K:PV→O→Prop}{o:O}{a a' l X:List Int}
variable {X':List Int}{rows:List aF}{u:Nat}
theorem aCq (c:List (List ae))(d:List ae):(ax (c++[d])).length=(ax c).length*d.length:=by
 induction c with
 |nil=>exact(gu d []).trans (Nat.mul_comm ..)
 |cons e c ih=>exact(gu e (c++[d])).trans ((congrArg (e.length*·) ih).trans ((Nat.mul_assoc ..).symm.trans (congrArg (·*d.length) (gu e c).symm)))
noncomputable def Fu:Nat→Nat
 |0=>1
 |1=>3
 | _=>6
noncomputable def Cu:Nat→Nat
 |0=>3
 |1=>2
 | _=>1
theorem Gb:(u:Nat)→1≤Cu u
 |0=>by decide
 |1=>by decide
 | _+2=>aT 1
theorem Gc:(u:Nat)→2≤Cu u→u+1≤2∧Fu u*Cu u≤Fu (u+1)
 |0,_=>by decide
 |1,_=>by decide
 | _+2,h=>absurd h (by decide:¬2≤1)
theorem aCr:(u:Nat)→Fu u≤6
 |0=>by decide
 |1=>by decide
 | _+2=>aT 6
structure hO (T:List al)(X:List Int)(rows:List aF)(u:Nat):Prop where
 lr:∀d∈rows,LR T X d
 xk:XK T X
 xlen:X.length≤2*rows.length
 cnt:(rows.filter big).length=u
 few:u≤2
 prod:(ax (nL rows)).length≤Fu u
theorem aCs (c:List ae)(h:c.length≤1):(nw c).length=1:=by
 cases c with
 |nil=>rfl
 |cons x c=>rw[kR.mp (Nat.le_zero.mp (Nat.le_of_succ_le_succ h))];rfl
theorem hO.next {d:aF}(h:hO T X rows u)(l:Le T T')(e:fF T' X X' d)(hc:d.cs.length≤Cu u):(2≤d.cs.length∧hO T' X' (rows++[d]) (u+1))∨¬2≤d.cs.length∧hO T' X' (rows++[d]) u:=by
 have hl:∀y∈rows++[d],LR T' X' y:=ja (fun y hy=>((h.lr y hy).le l).sub e.sub) e.lr
 have hx:X'.length≤2*(rows++[d]).length:=by rw[aG];exact ai e.len (je h.xlen 2)
 have hp:(ax (nL (rows++[d]))).length=(ax (nL rows)).length*(nw d.cs).length:=by rw[nL,bJ];exact aCq (nL rows) (nw d.cs)
 have hf:((rows++[d]).filter big).length=u+([d].filter big).length:=by rw[List.filter_append,aG,h.cnt]
 by_cases h2:2≤d.cs.length
 ·have hb:big d=true:=Nat.ble_eq.mpr h2
  refine .inl ⟨h2,hl,e.xk,hx,hf.trans (congrArg (u+·) (congrArg cI (List.filter_cons_of_pos (l:=[]) hb))),(Gc u (ai h2 hc)).1,?_⟩
  rw[hp,FA fun z=>by rw[z] at h2;exact absurd h2 (by decide)]
  exact ai (Nat.mul_le_mul h.prod hc) (Gc u (ai h2 hc)).2
 ·have hb:¬big d=true:=fun z=>h2 (Nat.ble_eq.mp z)
  refine .inr ⟨h2,hl,e.xk,hx,hf.trans (congrArg (u+·) (congrArg cI (List.filter_cons_of_neg (l:=[]) hb))),h.few,?_⟩
  rw[hp,aCs d.cs (Nat.le_of_lt_succ (Nat.not_le.mp h2)),Nat.mul_one]
  exact h.prod
theorem hO.rows' (h:hO T X rows u)(hl:rows.length≤5):Rows T X rows∧d5 T X:=
 ⟨⟨h.lr,hl,h.cnt▸h.few,ai h.prod (aCr u)⟩,ai h.xlen (nR 2 hl),h.xk⟩
theorem aCt (x:Int):((x - (x.fdiv 9).fmod 2*9).fdiv 9).fmod 2=0:=by
 rw[Int.fdiv_eq_ediv_of_nonneg _ (by omega),Int.fdiv_eq_ediv_of_nonneg _ (by omega),yR _ (by omega),yR _ (by omega)];omega
theorem aCu (x:Int):(x - x.fmod 9+3).fmod 9=3:=by
 rw[yR _ (by omega),yR _ (by omega)];omega
end Mine.V
namespace Mine.V
variable {r:R}{T T' T'':List al}{x:al}{t t' ro:Int}{b m:Nat}{K:PV→O→Prop}{o:O}{a a' l X:List Int}
variable {X':List Int}{rows:List aF}{u:Nat}{N:L→O→Prop}{s0 s9 s10 s11:Option Slot}{head:Int}
noncomputable abbrev lS (s0:Option Slot)(head:Int)(xs:List aa)(u:Int)(s9 s10 s11:Option Slot):L:=
 [s0,some (.pv (.o 0)),some (.pv (.o 1)),some (.pv (.d c8)),some (.pv (.d (.int 22))),some (.pv (.d (.int 24))),some (.pv (.d (.int head))),some (.lst xs),some (.pv (.d (.int u))),s9,s10,s11,none,none]
noncomputable def yz (b:Nat)(T:List al)(rows:List aF)(N:L→O→Prop)(s0:Option Slot)(head:Int):Prop:=
 ∀T' X' rows' u' s9 s10 s11,Le T T'→aj b T'→hO T' X' rows' u'→rows'.length=rows.length+1→N (lS s0 head (rows'.map a7) (u':Int) s9 s10 s11) (ob T')
theorem sj {y:Int}(hr:Lv (m+4) r)(G:aj (b+4) T)(h:hO T X rows u)(hl:rows.length<5)(hc:∀c n:Nat,2+(y.fdiv 9).fmod 2=n→(y.fmod 9=6∨y.fmod 9=7)∧c≤n∨c≤1→c≤Cu u)(k:yz b T rows N s0 head):
 DQ r (lS s0 head (rows.map a7) u s9 s10 (some (.pv (.d (.int y))))) (ob T) N K:=by
 have hn:=mf (Int.add_nonneg (by decide:(0:Int)≤2) (gO (y.fdiv 9) (k:=2) (by decide)).1)
 refine aBW (m:=m) hr G h.xk hn.symm fun T' X' d l G' he hd=>?_
 refine⟨aX (bg (aB ..)) (li hl (by decide)),?_⟩
 refine ah rfl (ah rfl (ah (E6 (y:=a7 d) rfl) ?_))
 have e:(rows++[d]).map a7=rows.map a7++[a7 d]:=bJ
 have hlen:(rows++[d]).length=rows.length+1:=aG
 have hcl:(d.cs.map ce).length=d.cs.length:=aB ..
 refine(h.next l he (hc _ _ hn.symm hd)).elim (fun hb=>kJ (ib.mpr (Nat.lt_of_lt_of_eq hb.1 hcl.symm)) ?_) fun hb=>kC (eX.mpr (ai (bg hcl) (Nat.le_of_lt_succ (Nat.not_le.mp hb.1)))) ?_
 ·have k:=k T' X' (rows++[d]) (u+1) s9 s10 (some (.pv (.d (.int y)))) l G' hb.2 hlen
  rw[e] at k;exact k
 ·have k:=k T' X' (rows++[d]) u s9 s10 (some (.pv (.d (.int y)))) l G' hb.2 hlen
  rw[e] at k;exact k
theorem Gd {k:Int}{A B:Prop}(h:(k=6∨k=7)∧A∨(¬(k=6∨k=7))∧B):am (dv (.pv (.d (.tuple [.int 6,.int 7]))) (.int k)) fun b=>Br b A B:=
 have e:k∈[(6:Int),7]↔k=6∨k=7:=bC.trans (or_congr iI aM)
 ah (rs [6,7] k) (h.elim (fun h=>fy (decide_eq_true (e.mpr h.1)) h.2) fun h=>fX (decide_eq_false fun z=>h.1 (e.mp z)) h.2)
theorem aCv {x:Int}(h1:u=1→N (lS s0 head (rows.map a7) u s9 s10 (some (.pv (.d (.int (x - (x.fdiv 9).fmod 2*9)))))) o)(h2:u≠1→N (lS s0 head (rows.map a7) u s9 s10 (some (.pv (.d (.int (x - x.fmod 9+3)))))) o):
 DR r (lS s0 head (rows.map a7) u s9 s10 (some (.pv (.d (.int x))))) o N K:=by
 by_cases h:u=1
 ·exact cu (congrArg Nat.cast h) (h1 h)
 ·exact bW (fun z=>h (Int.ofNat.inj z)) (h2 h)
theorem aCw {x:Int}(hr:Lv (m+4) r)(G:aj (b+4) T)(h:hO T X rows u)(hl:rows.length<5)(k:yz b T rows N s0 head):
 DS r (lS s0 head (rows.map a7) u s9 s10 (some (.pv (.d (.int x))))) (ob T) N K:=by
 by_cases h0:0<u
 ·refine kJ (ib.mpr h0) ?_
  by_cases h6:x.fmod 9=6∨x.fmod 9=7
  ·refine Gd (.inl ⟨h6,?_⟩)
   refine aCv (fun h1=>?_) fun h1=>?_
   ·refine sj hr G h hl (fun c n hn hc=>?_) k
    rw[aCt] at hn
    rw[h1]
    exact hc.elim (fun hc=>ai hc.2 (bg (Int.ofNat.inj hn).symm)) fun hc=>ai hc (by decide)
   ·refine sj hr G h hl (fun c n hn hc=>?_) k
    rw[aCu] at hc
    exact hc.elim (fun hc=>hc.1.elim (fun z=>absurd z (by decide)) fun z=>absurd z (by decide)) fun hc=>ai hc (Gb u)
  ·refine Gd (.inr ⟨h6,?_⟩)
   exact sj hr G h hl (fun c n hn hc=>hc.elim (fun hc=>absurd hc.1 h6) fun hc=>ai hc (Gb u)) k
 ·have hu:u=0:=Nat.le_zero.mp (Nat.not_lt.mp h0)
  refine kC (eX.mpr (Nat.not_lt.mp h0)) ?_
  refine sj hr G h hl (fun c n hn hc=>?_) k
  have hn3:n≤3:=eX.mp (hn▸nQ (Int.add_lt_add_left (gO (x.fdiv 9) (k:=2) (by decide)).2 2))
  rw[hu]
  exact hc.elim (fun hc=>ai hc.2 hn3) fun hc=>ai hc (by decide)
end Mine.V
namespace Mine.V
variable {r:R}{T T' T'':List al}{x:al}{t t' ro:Int}{b m:Nat}{K:PV→O→Prop}{o:O}{a a' l X:List Int}
variable {X' ms:List Int}{rows:List aF}{u:Nat}{N:L→O→Prop}{z:Slot}{s9 s10 s11:Option Slot}{head:Int}
theorem tJ {x d:Int}(h:d≠0):ie .Mod (.int x) (.int d)=some (.int (x.fmod d)):=if_neg h
structure S0 (ms:List Int)(z:Slot):Prop where
 it:∀k,j3 z (.int k)=cU (aA ms) k
 ln:og z=some ms.length
 pos:0<ms.length
 le:ms.length≤24
theorem S0.len1 (h:S0 ms z):1≤(ms.length:Int)∧(ms.length:Int)≤1000000:=⟨eX.mpr h.pos,eX.mpr (ai h.le (by decide))⟩
theorem S0.get (h:S0 ms z)(x:Int):∃v,j3 z (.int (x.fmod (ms.length:Int)))=some (.int v):=
 have hi:=gO x (k:=(ms.length:Int)) h.len1.1
 (kM (f:=bv) (q:=ms) hi.1 hi.2).elim fun v hv=>⟨v,(h.it _).trans hv.2⟩
theorem aCx {i:Int}(hz:S0 ms z)(hr:Lv (m+4) r)(G:aj (b+4) T)(h:hO T X rows u)(hl:rows.length<5)(k:yz b T rows N (some z) head):
 DT r (lS (some z) head (rows.map a7) u s9 (some (.pv (.d (.int i)))) s11) (ob T) N K:=by
 refine(hz.get i).elim fun v hv=>?_
 refine ah hz.ln (ah rfl ?_)
 refine ah (tJ (Int.ne_of_gt hz.len1.1)) (ah rfl (ah rfl (ah rfl ?_)))
 refine ah hv (ah rfl ?_)
 refine ah hz.ln (ah rfl ?_)
 refine ah (qi hz.len1) (ah rfl ?_)
 exact aCw hr G h hl k
theorem aCy (hz:S0 ms z)(hr:Lv (m+4) r)(n:Nat):∀(i:Nat) (T:List al) (X:List Int) (rows:List aF) (u:Nat) (xs:List aa) (s9 s10 s11:Option Slot),xs=rows.map a7→aj (b+n*4) T→hO T X rows u→rows.length+n≤5→
 (∀T' X' rows' u' s9 s10 s11,aj b T'→hO T' X' rows' u'→rows'.length≤5→N (lS (some z) head (rows'.map a7) (u':Int) s9 s10 s11) (ob T'))→
 ba (ay 9) xu r N K (fY (gT i n)) (lS (some z) head xs u s9 s10 s11) (ob T):=by
 induction n with
 |zero=>exact fun i T X rows u xs s9 s10 s11 e G h hl k=>e▸k T X rows u s9 s10 s11 G h hl
 |succ n ih=>
  intro i T X rows u xs s9 s10 s11 e G h hl k
  have hl':rows.length+1+n≤5:=c9 rows.length 1 n▸hl
  subst e
  have G':aj (b+n*4+4) T:=G.mono (bg (congrArg (b+·) (mn n 4)).symm)
  refine aCx hz hr G' h (fc (dm _) (ai (aR _ n) hl')) fun T' X' rows' u' s9 s10 s11 l G2 hb hlen=>?_
  exact ih (i+1) T' X' rows' u' _ s9 s10 s11 rfl G2 hb (hlen▸hl') k
noncomputable def B1:Nat:=1+bP 2+bP 2+bP 2+600+bP 1+bP 2
theorem aCz {n:Nat}(hz:S0 ms z)(hr:Lv (m+15) r)(hn:head.fmod 6=n)(h5:n≤5)(k:∀T',K (.d (.bool true)) (ob T'))(G:aj (B1+n*4) aZ):
 DU r (lS (some z) head [] (0:Nat) none none none) (ob aZ) N K:=by
 refine ah (F6 hn (ai h5 (by decide))) ?_
 refine(i9 n).symm.subst (motive:=fun z=>ba (ay 9) xu r _ _ z _ _) (aCy (b:=B1) (m:=m+11) hz hr n 0 aZ [] [] 0 [] none none none rfl G ⟨fun _ h=>(aJ h).elim,fun _ h=>(aJ h).elim,aT 0,rfl,by decide,aT 1⟩ (ai (bg (bQ n)) h5) fun T' X' rows' u' s9 s10 s11 G' hb hl=>?_)
 exact aCp (b:=1) hr G' (hb.rows' hl).2 (hb.rows' hl).1 k
end Mine.V
namespace Mine.V
variable {r:R}{T T' T'':List al}{x:al}{t t' ro:Int}{b m:Nat}{K:PV→O→Prop}{o:O}{a a' l X:List Int}
variable {X' ms:List Int}{N:L→O→Prop}{z:Slot}{s9 s10 s11:Option Slot}{head:Int}
theorem aCA {n:Nat}(h:n≤5):aj (B1+n*4) aZ:=⟨⟨[],rfl⟩,F7,ai (cy (cy (y1 4 h) B1) 25) (by decide)⟩
theorem aCB (hz:S0 ms z)(hr:Lv (m+15) r)(k:∀T',K (.d (.bool true)) (ob T')):
 DV r [some z,some (.pv (.o 0)),some (.pv (.o 1)),some (.pv (.d c8)),some (.pv (.d (.int 22))),some (.pv (.d (.int 24))),none,none,none,none,none,none,none,none] (ob aZ) N K:=by
 refine(kM (f:=bv) (q:=ms) (Int.le_refl 0) (ib.mpr hz.pos)).elim fun v hv=>?_
 have hi:=gO (v.fmod 1000000) (k:=6) (by decide)
 have hn:=(mf hi.1).symm
 have h5:((v.fmod 1000000).fmod 6).toNat≤5:=Int.toNat_le.mpr (nQ hi.2)
 refine ah ((hz.it 0).trans hv.2) ?_
 exact aCz hz hr hn h5 k (aCA h5)
theorem aCC (hz:S0 ms z)(hr:Lv (m+15) r)(k:∀T',K (.d (.bool true)) (ob T')):
 DW r [some z,some (.pv (.o 0)),some (.pv (.o 1)),none,none,none,none,none,none,none,none,none,none,none] [ct (aZ.take 16) [] [] [],oR] N K:=by
 refine aCm (m:=m+12) hr ?_
 refine⟨rfl,lW (m:=m+14) (x:=.obj [("brand",6)]) (k:=22) hr rfl ?_⟩
 refine⟨rfl,lW (m:=m+14) (x:=.arr 6 0) (k:=23) hr rfl ?_⟩
 refine F9 (m:=m+13) (k:=24) hr ⟨by decide,by decide,by decide⟩ rfl ?_
 exact aCB hz hr k
end Mine.V
namespace Mine.V
variable {r:R}{T T' T'':List al}{x:al}{t t' ro:Int}{b m:Nat}{K:PV→O→Prop}{o:O}{a a' l X:List Int}
variable {X' ms:List Int}{N:L→O→Prop}{z:Slot}
theorem Ge (hz:S0 ms z)(hr:Lv (m+15) r)(k:∀T',K (.d (.bool true)) (ob T')):
 rh r [some z,none,none,none,none,none,none,none,none,none,none,none,none,none] [] N K:=by
 refine aCc (m:=m+13) hr ?_
 refine aCf (m:=m+14) hr ?_
 exact aCC hz hr k
theorem S0.lst {z:Slot}(h:ms≠[])(hl:ms.length≤24)(e:z= .lst (aA ms)∨z= .pv (.d (.list (aA ms)))):S0 ms z:=
 have ln:(aA ms).length=ms.length:=aB ..
 ⟨e.elim (fun e=>e▸fun k=>rfl) fun e=>e▸fun k=>rfl,e.elim (fun e=>e▸congrArg some ln) fun e=>e▸congrArg some ln,gx.mpr h,hl⟩
theorem aCD {q:Slot}(hq:q= .lst (aA [21,1896,18,3036]))(h:rh r [some q,none,none,none,none,none,none,none,none,none,none,none,none,none] [] N K):
 ri r [some (.pv (.d (.list []))),none,none,none,none,none,none,none,none,none,none,none,none,none] [] N K:=by
 subst hq
 exact h
theorem sIf {e:EP Bool}{A C:SP}{l:L}{o:O}{u:PV→O→Prop}(he:∀k:Bool→L→O→Prop,k false l o→e r l o k)(h:C r l o N u):sS (sI e A sN) C r l o N u:=he _ (fX rfl h)
theorem aCF {p:aa}{ps:List aa}{x:L}(k:Bool→L→O→Prop)(h:k false (some (.pv (.d (.list (p::ps))))::x) []):av .Eq (bT (Pl.g (.n 0))) (eC (.int 0)) r (some (.pv (.d (.list (p::ps))))::x) [] k:=h
theorem aCG {p:aa}{ps:List aa}(h:rh r [some (.pv (.d (.list (p::ps)))),none,none,none,none,none,none,none,none,none,none,none,none,none] [] N K):
 ri r [some (.pv (.d (.list (p::ps)))),none,none,none,none,none,none,none,none,none,none,none,none,none] [] N K:=sIf aCF h
theorem aCH (hr:Lv (m+15) r)(hl:ms.length≤24)(k:∀T',K (.d (.bool true)) (ob T')):
 ri r [some (.pv (.d (.list (aA ms)))),none,none,none,none,none,none,none,none,none,none,none,none,none] [] N K:=by
 cases ms with
 |nil=>exact aCD rfl (Ge (ms:=[21,1896,18,3036]) (S0.lst (by decide) (by decide) (.inl rfl)) hr k)
 |cons x ms=>exact aCG (Ge (S0.lst (cX x ms) hl (.inr rfl)) hr k)
theorem aCI {ns:List Int}(hr:Lv (m+16) r)(k:∀T',K (.d (.bool true)) (ob T')):r.call "law" [.d (.list (aA ns))] [] K:=by
 refine hr.call Yc fun r hr=>⟨rfl,?_⟩
 have e:aA (ns.take 24)=(aA ns).take 24:=List.map_take
 have h:=aCH (N:=fun _ o=>K (.d .none) o) hr (List.length_take_le 24 ns) k
 rw[e] at h
 exact h
end Mine.V
end
section
set_option genInjectivity false
set_option genSizeOf false
open PySem PySem.W PyProof.Rows
namespace Mine.T
noncomputable def Up (xs:Array Nat):Prop:=xs.toList.Pairwise (·<·)
noncomputable def dl (t:bB):Prop:=Up t.place∧t.dummies=#[]
theorem Up.lt {xs:Array Nat}(u:Up xs){i j a b:Nat}(h:i<j)(ha:xs[i]? =some a)(hb:xs[j]? =some b):a<b:=by
 obtain⟨h1,rfl⟩:=pr.mp ha
 obtain⟨h2,rfl⟩:=pr.mp hb
 have:=List.pairwise_iff_getElem.mp u i j (by simpa using h1) (by simpa using h2) h
 simpa using this
theorem aCJ {xs:Array Nat}(u:Up xs)(j:Nat):∀(fuel lo hi:Nat),hi - lo≤fuel→lo≤hi→hi≤xs.size→(∀(i a:Nat),i<lo→xs[i]? =some a→a<j)→(∀(i a:Nat),hi≤i→xs[i]? =some a→j≤a)→
 sY xs j fuel lo hi≤xs.size∧(∀(i a:Nat),i<sY xs j fuel lo hi→xs[i]? =some a→a<j)∧(∀(i a:Nat),sY xs j fuel lo hi≤i→xs[i]? =some a→j≤a):=by
 intro fuel
 induction fuel with
 |zero=>
  intro lo hi h1 h2 h3 h4 h5
  unfold sY
  exact⟨by omega,h4,fun i a hi'=>h5 i a (by omega)⟩
 |succ fuel ih=>
  intro lo hi h1 h2 h3 h4 h5
  unfold sY
  by_cases hlt:lo<hi
  ·simp only[hlt,if_true]
   have hm1:lo≤(lo+hi) / 2:=by omega
   have hm2:(lo+hi) / 2<hi:=by omega
   generalize (lo+hi) / 2=m at hm1 hm2 ⊢
   have hm:m<xs.size:=by omega
   have hget:xs[m]? =some (xs.getD m j):=by simp [mw,hm]
   generalize xs.getD m j=v at hget ⊢
   split
   ·rename_i hj
    refine ih (m+1) hi (by omega) (by omega) h3 (fun i a hi' ha=>?_) h5
    by_cases h:i<m
    ·exact li (u.lt h ha hget) hj
    ·have:i=m:=by omega
     subst this
     rw[hget] at ha;cases ha;exact hj
   ·rename_i hj
    refine ih lo m (by omega) (by omega) (by omega) h4 fun i a hi' ha=>?_
    by_cases h:m<i
    ·exact ai (nZ hj) (eW (u.lt h hget ha))
    ·have:i=m:=by omega
     subst this
     rw[hget] at ha;cases ha;exact nZ hj
  ·simp only[hlt,if_false]
   exact⟨by omega,h4,fun i a hi'=>h5 i a (by omega)⟩
theorem pg {xs:Array Nat}(u:Up xs)(j:Nat):cA xs j≤xs.size∧(∀(i a:Nat),i<cA xs j→xs[i]? =some a→a<j)∧(∀(i a:Nat),cA xs j≤i→xs[i]? =some a→j≤a):=
 aCJ u j xs.size 0 xs.size (by omega) (by omega) (by omega) (fun i a h=>by omega) (fun i a h ha=>by rw[Array.getElem?_eq_none h] at ha;cases ha)
theorem aCK {xs:Array Nat}(u:Up xs){i j:Nat}(h:xs[i]? =some j):cA xs j=i:=by
 obtain⟨h1,h2,h3⟩:=pg u j
 rcases Nat.lt_trichotomy (cA xs j) i with hl|hl|hl
 ·have hs:cA xs j<xs.size:=by have:=(pr.mp h).1;omega
  have hg:xs[cA xs j]? =some xs[cA xs j]:=iA hs
  have a1:=h3 _ _ (aT _) hg
  have a2:=u.lt hl hg h
  omega
 ·exact hl
 ·exact absurd (h2 _ _ hl h) (gA _)
theorem qD {t:bB}(u:dl t){i j:Nat}(h:t.place[i]? =some j):t.slot j= .live i:=by
 unfold SetTable.slot
 rw[aCK u.1 h]
 simp only[h,beq_self_eq_true,if_true]
theorem Gf {t:bB}{i j:Nat}(h:t.slot j= .live i):t.place[i]? =some j:=by
 unfold SetTable.slot at h
 simp only at h
 split at h
 ·rename_i e
  cases h
  simpa using e
 ·split at h<;>cases h
theorem Gg {t:bB}(u:dl t){j:Nat}(h:j∉t.place.toList):t.slot j= .empty:=by
 unfold SetTable.slot
 simp only
 split
 ·rename_i e
  have e':t.place[cA t.place j]? =some j:=by simpa using e
  exact absurd (by simpa using Array.mem_of_getElem? e') h
 ·rw[u.2];rfl
theorem yA {t:bB}(u:dl t)(j:Nat):(t.slot j= .empty∧j∉t.place.toList)∨∃i,t.slot j= .live i∧t.place[i]? =some j:=by
 by_cases h:j∈t.place.toList
 ·obtain⟨i,hi⟩:=pD h
  rw[jd] at hi
  exact .inr ⟨i,qD u hi,hi⟩
 ·exact .inl ⟨Gg u h,h⟩
theorem aCL {xs:Array Nat}(u:Up xs){j:Nat}(h:j∉xs.toList):Up (nW xs (cA xs j) j):=by
 obtain⟨h1,h2,h3⟩:=pg u j
 unfold Up
 rw[SetTable.toList_insertAt]
 have hs:xs.toList=xs.toList.take (cA xs j)++xs.toList.drop (cA xs j):=(pz _ _).symm
 have hu:xs.toList.Pairwise (·<·):=u
 rw[hs,List.pairwise_append] at hu
 obtain⟨u1,u2,u3⟩:=hu
 have hb:∀b∈xs.toList.drop (cA xs j),j<b:=fun b hb=>by
  obtain⟨i,hi⟩:=pD hb
  rw[List.getElem?_drop,jd] at hi
  have:=h3 _ _ (aR _ _) hi
  have hne:j≠b:=by rintro rfl;exact h (List.mem_of_mem_drop hb)
  omega
 have ha:∀a∈xs.toList.take (cA xs j),a<j:=fun a ha=>by
  obtain⟨i,hi⟩:=pD ha
  have hlt:i<cA xs j:=by
   by_cases hq:i<cA xs j
   ·exact hq
   ·rw[List.getElem?_take_eq_none (nZ hq)] at hi;cases hi
  rw[List.getElem?_take_of_lt hlt,jd] at hi
  exact h2 _ _ hlt hi
 refine List.pairwise_append.mpr ⟨u1,List.pairwise_cons.mpr ⟨hb,u2⟩,fun a ha' b hb'=>?_⟩
 rcases bC.mp hb' with rfl|hb'
 ·exact ha a ha'
 ·exact li (ha a ha') (hb b hb')
theorem Gi {t:bB}(u:dl t){j:Nat}(h:j∉t.place.toList):dl (t.put j).1:=by
 refine⟨aCL u.1 h,?_⟩
 show (if SetTable.has t.dummies j=true then _ else t.dummies)=#[]
 rw[u.2];rfl
theorem aCM {t:bB}{j k:Nat}:k∈(t.put j).1.place.toList↔k∈t.place.toList∨k=j:=by
 show k∈(nW t.place (cA t.place j) j).toList↔_
 rw[(SetTable.insertAt_perm t.place (cA t.place j) j).mem_iff,pG,cY,aM]
theorem sm (t:bB)(n:Nat):dl (t.standIn n):=by
 refine⟨?_,rfl⟩
 show (Array.range n).toList.Pairwise (·<·)
 rw[Array.toList_range]
 exact List.pairwise_lt_range
theorem aCN {t:bB}(u:dl t)(n:Nat):dl (t.orStandIn n):=by
 unfold SetTable.orStandIn
 split
 ·exact u
 ·exact sm t n
theorem aCO {t:bB}(u:dl t)(f:Nat→Int)(h:Int):∀(fuel:Nat) (p:SetTable.Probe) (j:Nat) (d:Option Nat),p.dummy=none→jT t f h fuel p=some (.empty j d)→d=none∧j∉t.place.toList:=by
 intro fuel
 have adv:∀p:SetTable.Probe,p.dummy=none→(t.advance p).dummy=none:=fun p hp=>by
  unfold SetTable.advance
  split
  ·exact hp
  ·exact hp
 induction fuel with
 |zero=>intro p j d _ e;cases e
 |succ fuel ih=>
  intro p j d hp e
  unfold jT at e
  rcases yA u p.j with ⟨hs,hm⟩|⟨i,hs,hm⟩
  ·rw[hs] at e
   cases e
   exact⟨hp,hm⟩
  ·rw[hs] at e
   simp only at e
   split at e
   ·cases e
   ·exact ih _ _ _ (adv p hp) e
theorem aCP {t:bB}(u:dl t){h:Int}{j:Nat}{b:Bool}(e:t.freeSlot h=some (j,b)):j∉t.place.toList∧b=false:=by
 unfold SetTable.freeSlot at e
 split at e
 ·rename_i j' d hq
  obtain⟨rfl,h2⟩:=aCO u _ _ _ _ _ _ (by rfl) hq
  cases e
  exact⟨h2,rfl⟩
 ·cases e
theorem aCQ {t:bB}(u:dl t)(es:Array (Int×Value))(h:Int)(x:Value):dl (layNew t es h x).2.1:=by
 unfold layNew
 split
 ·rename_i slot b hq
  exact aCN (Gi u (aCP u hq).1) _
 ·exact sm t _
theorem Gj {mask finger moves:Nat}{led plain:Bool}{hs:Array Int}{r:bB×Array Nat}(h:pL mask finger moves led plain hs=some r):dl r.1:=by
 unfold pL at h
 cases hq:sK mask hs with
 |none=>rw[hq] at h;cases h
 |some ow=>
  rw[hq] at h
  cases h
  refine⟨?_,rfl⟩
  show (jY (·.1) ((c0 (mask+1)).filterMap fun j=>(ow.getD j none).map (j,·))).toArray.toList.Pairwise (·<·)
  rw[List.toList_toArray,List.map_filterMap]
  refine List.Pairwise.filterMap (R:=(·<·)) _ (fun a b hab x hx y hy=>?_) List.pairwise_lt_range
  have e1:x=a:=by
   cases hz:ow.getD a none with
   |none=>rw[hz] at hx;cases hx
   |some z=>rw[hz] at hx;simpa using hx.symm
  have e2:y=b:=by
   cases hz:ow.getD b none with
   |none=>rw[hz] at hy;cases hy
   |some z=>rw[hz] at hy;simpa using hy.symm
  subst e1;subst e2;exact hab
theorem aCR {t:bB}(es:Array (Int×Value))(n:Nat):dl (relayAll t es n).2.1:=by
 unfold relayAll
 split
 ·rename_i t' order hq
  dsimp only
  split
  ·exact Gj hq
  ·exact sm t _
 ·exact sm t _
theorem aFY (t:bB)(n:Nat):(t.standIn n).led=t.led:=rfl
theorem aCS (t:bB)(n:Nat):(t.orStandIn n).led=t.led:=by
 unfold SetTable.orStandIn
 split<;>rfl
theorem aCT (t:bB)(es:Array (Int×Value))(h:Int)(x:Value):(layNew t es h x).2.1.led=t.led:=by
 unfold layNew
 split
 ·exact aCS _ _
 ·rfl
theorem aCU {mask finger moves:Nat}{led plain:Bool}{hs:Array Int}{r:bB×Array Nat}(h:pL mask finger moves led plain hs=some r):r.1.led=led:=by
 unfold pL at h
 cases hq:sK mask hs with
 |none=>rw[hq] at h;cases h
 |some ow=>rw[hq] at h;cases h;rfl
theorem aCV (t:bB)(es:Array (Int×Value))(n:Nat):(relayAll t es n).2.1.led=t.led:=by
 unfold relayAll
 split
 ·rename_i t' order hq
  dsimp only
  split
  ·exact aCU hq
  ·rfl
 ·rfl
noncomputable def hU (bt:Bool)(h:Heap)(a:Addr)(es:List (Int×Value)):Prop:=
 ∃o arr ep t,h.get? a=some o∧o.ExactSet∧o.data= .set arr ep t∧arr.toList=es∧t.fits arr.size=true∧t.led=(!bt)∧dl t
section
variable {prog:Program}{w:World}{A:Around}{E:Value→Shared→Prop}{s:Shared}{bt:Bool}
theorem Gk {h:Heap}{a:Addr}{o:Obj}{es es':Array (Int×Value)}{ep:Nat}{t t':bB}(ho:h.get? a=some o)(hex:o.ExactSet)(hd:o.data= .set es ep t)(hf:t'.fits es'.size=true)(hl:t'.led= !bt)(hu:dl t'):
 (h.update a (mv es' t')).get? a=some {o with data:=.set es' (ep+1) t'}∧hU bt (h.update a (mv es' t')) a es'.toList:=by
 have hg:(h.update a (mv es' t')).get? a=some {o with data:=.set es' (ep+1) t'}:=by
  have:=l9 (mv es' t') ho (by rw[putSet_of es' t' hd];rfl)
  rw[putSet_of es' t' hd] at this;exact this
 exact⟨hg,_,es',ep+1,t',hg,hex,rfl,rfl,hf,hl,hu⟩
theorem Gl (b:Bool){s₁:Shared}{Q':Unit→Shared→Prop}(hq:Q' () s₁):wpAny (model prog w) A (match b with|true=>rule "set.scan.the-table-gave-way"|false=>pure ()) Q' E s₁:=by
 cases b
 ·exact ak hq
 ·exact iH hq
theorem add_int {a:Addr}{es:List (Int×Value)}{k:Int}{tk:Tok}{Q:Bool→Shared→Prop}(hS:hU bt s.heap a es)(hel:ElemsOf (bR prog w) es)(hroom:es.length+1<scanBound)
 (h:∀h' es' b,gv a s.heap h'→hU bt h' a es'→(if es.any (fun e=>(bR prog w).is k e.2) then es'=es else es'.Perm (es++[((bR prog w).hash k,.int k tk)]))→Q b {s with heap:=h'}):
 wpAny (model prog w) A (setAddHashed a (.int k tk) ((bR prog w).hash k)) Q E s:=by
 obtain⟨o,arr,ep,t,ho,hex,hd,rfl,hf,hl,hu⟩:=hS
 have hkey:=intKind_is prog w k tk
 have hsc:(Value.int k tk).scannable=true:=rfl
 rw[fH] at hroom
 unfold setAddHashed setAddHashedIn
 refine dR (ag (gR ho hd hf ?_))
 dsimp only
 rw[byScan_of hsc (by omega) hel]
 simp only[↓reduceIte]
 unfold setAddByScan
 refine ag (ag (iH (ag (wpAny_setScan_of hkey ho hd hf hel ?_))))
 cases hr:List.findIdx? (fun e=>(bR prog w).is k e.2) arr.toList with
 |some j=>
  dsimp only
  obtain⟨hj,hpj,_⟩:=List.findIdx?_eq_some_iff_getElem.mp hr
  refine ak (ak ?_)
  have:=h s.heap arr.toList false (Heap.SameBut.refl a s.heap) ⟨o,arr,ep,t,ho,hex,hd,rfl,hf,hl,hu⟩ (by rw[if_pos (mj.mpr ⟨_,List.getElem_mem hj,hpj⟩)])
  exact this
 |none=>
  dsimp only
  have hno:(arr.toList.any fun e=>(bR prog w).is k e.2)=false:=by
   rw[List.any_eq_false]
   intro e he
   rw[List.findIdx?_eq_none_iff.mp hr e he];exact cT
  have hperm:=layNew_perm t arr ((bR prog w).hash k) (.int k tk)
  have hfits:=layNew_fits t arr ((bR prog w).hash k) (.int k tk)
  have hled:=aCT t arr ((bR prog w).hash k) (.int k tk)
  have hup:=aCQ hu arr ((bR prog w).hash k) (.int k tk)
  generalize layNew t arr ((bR prog w).hash k) (.int k tk)=L at hperm hfits hled hup ⊢
  obtain⟨es1,t1,wasDummy,gave⟩:=L
  dsimp only at hperm hfits hled hup ⊢
  rw[pG] at hperm
  rw[hl] at hled
  refine ag (Gl _ ?_)
  have hsz:es1.size=arr.size+1:=by rw[←fH,hperm.length_eq,aG,fH];rfl
  have tail:∀(t2:bB),t2.fits es1.size=true→t2.led=(!bt)→dl t2→∀{R:Option Bool→Shared→Prop},(∀h' es',gv a s.heap h'→hU bt h' a es'→es'.Perm (arr.toList++[((bR prog w).hash k,.int k tk)])→R (some true) {s with heap:=h'})→
   wpAny (model prog w) A (do
    storeSet a es1 t2
    if (!wasDummy&&t2.tooFull)=true then do
     (match (relayAll t2 es1 (iE es1.size)).2.2 with|true=>rule "set.scan.the-table-gave-way"|false=>pure ())
     storeSet a (relayAll t2 es1 (iE es1.size)).1 (relayAll t2 es1 (iE es1.size)).2.1
     pure (some true)
     else pure (some true)) R E s:=by
   intro t2 hf2 hl2 hu2 R hR
   refine ag (wpAny_storeSet_of ho hd ?_ (fits_of_scanBound (by omega)))
   obtain⟨ho1,hS1⟩:=Gk (bt:=bt) ho hex hd hf2 hl2 hu2
   have hsb1:=kX s.heap a (mv es1 t2)
   split
   ·have hp:=relayAll_perm t2 es1 (iE es1.size)
    have hfr:=relayAll_fits t2 es1 (iE es1.size)
    have hlr:=aCV t2 es1 (iE es1.size)
    have hur:=aCR (t:=t2) es1 (iE es1.size)
    generalize relayAll t2 es1 (iE es1.size)=Rl at hp hfr hlr hur ⊢
    obtain⟨es2,t3,gave2⟩:=Rl
    dsimp only at hp hfr hlr hur ⊢
    have hsz2:es2.size=es1.size:=by rw[←fH,hp.length_eq,fH]
    refine ag (Gl _ ?_)
    refine ag (wpAny_storeSet_of ho1 rfl ?_ (fits_of_scanBound (by omega)))
    obtain⟨_,hS2⟩:=Gk (bt:=bt) ho1 hex rfl hfr (hlr.trans hl2) hur
    exact ak (hR _ _ (hsb1.trans (kX _ a _)) hS2 (hp.trans hperm))
   ·exact ak (hR _ _ hsb1 hS1 hperm)
  have fin:∀h' es',gv a s.heap h'→hU bt h' a es'→es'.Perm (arr.toList++[((bR prog w).hash k,.int k tk)])→Q true {s with heap:=h'}:=fun h' es' a1 a2 a3=>h h' es' true a1 a2 (by rw[hno];exact a3)
  split
  ·refine ag ?_
   rw[hashByValue_scannable 8 hsc]
   refine ak ?_
   simp only[plainKind,if_true]
   refine tail _ hfits hled hup ?_
   intro h' es' a1 a2 a3
   exact ak (fin h' es' a1 a2 a3)
  ·refine ag (ak ?_)
   simp only[↓reduceIte]
   refine tail _ hfits hled hup ?_
   intro h' es' a1 a2 a3
   exact ak (fin h' es' a1 a2 a3)
end
section
variable {prog:Program}{w:World}{A:Around}{R:Result→Shared→Prop}{I:Addr}{fp wr:List Addr}{G:Array GenState→Array GenState→Prop}{n:Nat}{P:Nat→Value→Prop}{St:Nat→Shared→Prop}
theorem aCW (W:WalksS prog w A.in1 I fp wr G n P St)(S:Addr)(hSf:S∉fp)(Inv:Nat→Heap→Prop)
 (hk:∀i h h',Inv i h→(∀b o,b∉wr→h.get? b=some o→h'.get? b=some o)→Inv i h')
 (hadd:∀i v (s':Shared) (Q:Bool→Shared→Prop) (E:Value→Shared→Prop),i<n→P i v→Inv i s'.heap→(∀b h' tk,s'.toks≤tk→gv S s'.heap h'→Inv (i+1) h'→Q b {s' with heap:=h',toks:=tk})→wpAny (model prog w) A.in1 (setAdd S v) Q E s'):
 ∀(k i:Nat) (s:Shared),n - i=k→i≤n→St i s→Inv i s.heap→
  (∀s',Moved (S::wr) G s s'→Inv n s'.heap→R (.ok (.ret .none)) s')→
  fg (model prog w) A (.builtin "set.update.loop" ⟨[.ref S,.ref I],[]⟩) R s:=by
 have hsub:∀b∈wr,b∈S::wr:=fun b hb=>List.mem_cons_of_mem _ hb
 intro k
 induction k with
 |zero=>
  intro i s hki hi hst hS hR
  have hin:i=n:=by omega
  subst hin
  refine jj PyProof.Rows.F.entry_set_update_loop ?_
  rw[kW Ha _]
  show wpAny _ A.in1 (fh (.ref I)>>= _) _ _ s
  refine ag (W.done s _ _ hst fun s' hm=>?_)
  show wpAny _ A.in1 (ret jn) _ _ s'
  exact ak (hR s' (hm.mono hsub) (hk _ _ _ hS fun b o hb e=>hm.heap b o hb e))
 |succ k ih=>
  intro i s hki hi hst hS hR
  have hlt:i<n:=by omega
  refine jj PyProof.Rows.F.entry_set_update_loop ?_
  rw[kW Ha _]
  show wpAny _ A.in1 (fh (.ref I)>>= _) _ _ s
  refine ag (W.item i s _ _ hlt hst fun v s' hP hst' hm=>?_)
  have hS':=hk _ _ _ hS fun b o hb e=>hm.heap b o hb e
  show wpAny _ A.in1 (holding [v] (setAdd S v)>>= _) _ _ s'
  refine ag (dR (hadd i v s' _ _ hlt hP hS' fun b h' tk htk hsb hSi=>?_))
  refine ak ⟨lg Ha _,ih (i+1) _ (by omega) hlt (W.frame _ s' _ _ hst' htk fun b hb o e=>?_) hSi fun s'' hm'' hS''=>?_⟩
  ·rw[hsb.2 b (fun h:b=S=>hSf (by rw[←h];exact hb))];exact e
  ·refine hR s'' (Moved.trans W.gtrans ((hm.mono hsub).then_heap htk fun b o hb e=>?_) hm'') hS''
   rw[hsb.2 b (fun h:b=S=>hb (by rw[h];exact List.mem_cons_self))];exact e
end
noncomputable def f5 (w:World):Bool:=w.params.followText "set-order"
section
variable {prog:Program}{w:World}{A:Around}{E:Value→Shared→Prop}{s:Shared}
theorem lX {Q:Bool→Shared→Prop}(h:Q (f5 w) s):wpAny (model prog w) A setsByText Q E s:=by
 unfold setsByText
 exact ag (td (ak h))
noncomputable def f6 (w:World):Obj:={cls:=.type "set",dict:=none,data:=.set #[] 0 (.fresh 0 0 (!f5 w))}
theorem aCX {Q₁:Value→Shared→Prop}(a:Value)(h:Q₁ (.ref s.heap.objs.size) {s with heap:=s.heap.push (f6 w)}):
 fg (model prog w) A (.call (.builtin "set.__new__") ⟨[.type "set",a],[]⟩) (wants Q₁ E) s:=by
 refine codeAny_of_tree ?_
 show wpAny _ A.in1 (do checkBuiltinCall "set.__new__" ⟨[.type "set",a],[]⟩;again (.builtin "set.__new__" ⟨[.type "set",a],[]⟩)) _ _ s
 refine ag (wpAny_of_eq (PySem.F.newCall_set_1 a) (ak ⟨lg PySem.F.plain_set_new _,jj PySem.F.entry_set_new ?_⟩))
 rw[kW PySem.F.plain_set_new _]
 unfold fJ.«set.__new__» Builtin.Frozenset.newClass
 have hsub:=sub_set_self
 obtain⟨hp,g,d,tk,os⟩:=s
 dsimp only
 wp_walk
 refine td (ak ?_)
 dsimp only
 simp only[newObj]
 refine ag (wpAny_alloc (ak ?_))
 exact ak h
theorem aCY {h:Heap}{a:Addr}(e:h.get? a=some (f6 w)):hU (f5 w) h a []:=
 ⟨_,#[],0,_,e,⟨rfl,rfl,rfl⟩,rfl,rfl,by rfl,rfl,.nil,rfl⟩
set_option maxHeartbeats 3200000 in
theorem Gm {l:Addr}{items:Array Value}{Q:Value→Shared→Prop}(hh:A.handled=none)(hl:s.heap.IsList l items)(Inv:Nat→Heap→Prop)
 (h0:∀h',(∀b o,s.heap.get? b=some o→h'.get? b=some o)→h'.get? s.heap.objs.size=some (f6 w)→Inv 0 h')
 (hk:∀i h h',Inv i h→(∀b o,b∉[s.heap.objs.size+1]→h.get? b=some o→h'.get? b=some o)→Inv i h')
 (hadd:∀i v (s':Shared) (A':Around) (Q:Bool→Shared→Prop) (E:Value→Shared→Prop),A'.handled=none→A'.units≤A.units+60→i<items.size→items[i]? =some v→Inv i s'.heap→(∀b h' tk,s'.toks≤tk→gv s.heap.objs.size s'.heap h'→Inv (i+1) h'→Q b {s' with heap:=h',toks:=tk})→wpAny (model prog w) A' (setAdd s.heap.objs.size v) Q E s')
 (h:∀(h':Heap) (tk:Nat),Inv items.size h'→(∀b o,s.heap.get? b=some o→h'.get? b=some o)→Q (.ref s.heap.objs.size) {s with heap:=h',toks:=tk}):
 wpAny (model prog w) A (call (.type "set") [.ref l]) Q E s:=by
 obtain⟨c,tl,hmro⟩:=mh.mro
 have hmade:=mh.made
 have hsub:=mh.sub
 refine wpAny_call (codeAny_of_tree ?_)
 show wpAny _ _ (callAny (.type "set") _) _ _ _
 refine ak ⟨Code.quiet_builtin _ (by decide +kernel),jj PySem.F.entry_type_call ?_⟩
 rw[Around.under_plain (weight_type_call_type "set" [.ref l] []) rfl]
 have h1:=mh.notType
 have h2:=mh.canCreate
 have hct:=PySem.F.typeCall_set_1 (.ref l)
 repeat (any_goals (first|assumption|wp_step))
 refine codeAny_mono (aCX (.ref l) (E:=E) (Q₁:=fun obj s₁=>obj= .ref s.heap.objs.size∧s₁={s with heap:=s.heap.push (f6 w)}) ⟨rfl,rfl⟩) fun r s₁ hr=>?_
 cases r with
 |error e=>exact hr
 |ok fl=>
  cases fl with
  |ret obj=>
   obtain⟨rfl,rfl⟩:=hr
   have hS:(s.heap.push (f6 w)).get? s.heap.objs.size=some (f6 w):=dH _ rfl
   have hT:Shared.TypeIs {s with heap:=s.heap.push (f6 w)} (.ref s.heap.objs.size) "set":=⟨_,hS,rfl⟩
   have hli:=mh.init.lookup
   have hbi:=mh.init.bind (.ref s.heap.objs.size)
   repeat (any_goals (first|assumption|wp_step))
   refine codeAny_mono (codeAny_call_builtin (R:=wants (fun r s₂=>r= .none∧∃h' tk,s₂={s with heap:=h',toks:=tk}∧Inv items.size h'∧(∀b o,s.heap.get? b=some o→h'.get? b=some o)) E) mh.init.plain PySem.F.entry_set_init (check_set_init_1 hT ?_)) fun r₂ s₂ hr₂=>?_
   ·obtain⟨ol,hol,hcl,nl,hdl⟩:=hl
    obtain⟨ocls,odict,odata,oslots⟩:=ol
    simp only at hcl hdl
    subst hcl;subst hdl
    have hol':(s.heap.push (f6 w)).get? l=some {cls:=.type "list",dict:=odict,data:=.seq items nl,slots:=oslots}:=bH _ hol
    have hsls:=PySem.F.sub_list_set
    have hslf:=PySem.F.sub_list_frozenset
    have hne:(fM "list"==fM "dict")=false:=by decide
    have hl1:(s.heap.push (f6 w)).IsList l items:=⟨_,hol',rfl,nl,rfl⟩
    unfold fJ.«set.__init__» noKeywords Builtin.Frozenset.updateFrom
    unfold f6 at hS hT hol' ⊢
    generalize hPI:pyIter=PI
    wp_walk
    subst hPI
    refine wpAny_pyIter_list hl1 ?_
    refine ag (wpAny_runValue ?_)
    have hlS:l<s.heap.objs.size:=fI hol
    have hh3:A.in1.in1.in1.handled=none:=by simp [hh]
    have hun:A.in1.in1.in1.units≤A.units+60:=by show A.units+1+1+1≤_;omega
    have hsz:(s.heap.push (f6 w)).objs.size=s.heap.objs.size+1:=pK _ _
    have hneI:l≠(s.heap.push (f6 w)).objs.size:=by rw[hsz];exact dT (sZ hlS)
    have hSf:s.heap.objs.size∉[(s.heap.push (f6 w)).objs.size,l]:=by
     rw[hsz];simp only[bC,aJ,or_false,not_or]
     exact⟨dT (dm _),Nat.ne_of_gt hlS⟩
    have keep0:∀b o,s.heap.get? b=some o→((s.heap.push (f6 w)).push {cls:=.type "list_iterator",data:=.fields #[.ref l,.int 0 0]}).get? b=some o:=fun b o e=>bH _ (bH _ e)
    refine aCW ((Walks.list hh3 _ l hneI items).toS) s.heap.objs.size hSf Inv (fun i h h' hI hq=>hk i h h' hI (by rw[←hsz];exact hq)) (fun i v s' Q' E' hi hP hI hq=>hadd i v s' _ Q' E' hh3 hun hi hP hI hq) (items.size - 0) 0 _ (by omega) (bz _)
     ⟨⟨_,dH _ rfl,rfl,rfl⟩,(hl1.push _)⟩ ?hS0 ?hR
    case hS0=>
     exact h0 _ keep0 (bH _ (dH _ rfl))
    case hR=>
     intro s' hm hS'
     obtain⟨h',g',d',tk',os'⟩:=s'
     have eg:g'=s.gens:=hm.gens
     have ed:d'=s.drawn:=hm.drawn
     have eo:os'=s.os:=hm.os
     subst eg;subst ed;subst eo
     show wpAny _ _ _ _ _ _
     refine ak ?_
     show wpAny _ _ (ret jn) _ _ _
     refine ak ⟨rfl,h',tk',rfl,hS',fun b o e=>?_⟩
     have hb:=fI e
     have hw:b∉s.heap.objs.size::[(s.heap.push (f6 w)).objs.size]:=by
      simp only[bC,aJ,or_false,not_or]
      refine⟨dT hb,?_⟩
      rw[hsz]
      exact dT (sZ hb)
     exact hm.heap b o hw (keep0 _ _ e)
   ·cases r₂ with
    |error e=>exact hr₂
    |ok fl₂=>
     cases fl₂ with
     |ret r=>
      obtain⟨rfl,h',tk,rfl,hS',hk'⟩:=hr₂
      repeat (any_goals (first|assumption|wp_step))
      exact h _ _ hS' hk'
     | _=>exact hr₂.elim
  | _=>exact hr.elim
end
theorem aCZ:entryFor table "set.__iter__"=some fJ.«frozenset.__iter__»:=
 entryFor_alias (id':="frozenset.__iter__") (by kernel_rfl) rfl (by decide +kernel) (by kernel_rfl)
theorem nF:PySem.Slot "set_iterator" "__next__" "set_iterator.__next__":=
 .of (owner:="set_iterator") (n:="__next__") (by rw[typeLookup_type,builtinLookup_eq_fast];kernel_rfl) (by decide +kernel) (by decide +kernel) (by decide +kernel)
  (by first|exact .inl (by decide +kernel)|exact .inr (by decide +kernel)) (by rw[isSubtype_type];kernel_rfl)
theorem Gn:PySem.Slot "set_iterator" "__iter__" "set_iterator.__iter__":=
 .of (owner:="set_iterator") (n:="__iter__") (by rw[typeLookup_type,builtinLookup_eq_fast];kernel_rfl) (by decide +kernel) (by decide +kernel) (by decide +kernel)
  (by first|exact .inl (by decide +kernel)|exact .inr (by decide +kernel)) (by rw[isSubtype_type];kernel_rfl)
theorem Go:entryFor table "set_iterator.__next__"=some fJ.«set_iterator.__next__»:=entryFor_of_tree (by kernel_rfl)
theorem aDa:entryFor table "set_iterator.__iter__"=some fJ.«dict_keyiterator.__iter__»:=
 entryFor_alias (id':="dict_keyiterator.__iter__") (by kernel_rfl) rfl (by decide +kernel) (by kernel_rfl)
theorem Gp:Manifest.owners.lookup (String.ofList ['r','o','t','a','r','e','t','i','_','t','e','s'].reverse)=some Manifest.sig_set_iterator:=by kernel_rfl
theorem Gq (a:Value):argsOk "set_iterator.__next__" ⟨[a],[]⟩:=by
 unfold argsOk;rw[signature?_of (id:="set_iterator.__next__") (n:=['_','_','t','x','e','n','_','_']) (o:=['r','o','t','a','r','e','t','i','_','t','e','s']) (by kernel_rfl) Gp];kernel_rfl
theorem aDb (a:Value):argsOk "set_iterator.__iter__" ⟨[a],[]⟩:=by
 unfold argsOk;rw[signature?_of (id:="set_iterator.__iter__") (n:=['_','_','r','e','t','i','_','_']) (o:=['r','o','t','a','r','e','t','i','_','t','e','s']) (by kernel_rfl) Gp];kernel_rfl
theorem yB {α:Type}:∀(l:List α) (i:Nat) (h:i<l.length),(l[i]::l.eraseIdx i).Perm l
 |x::l,0,_=>.refl _
 |x::l,i+1,h=>(List.Perm.swap x _ _).trans ((yB l i (by simpa using h)).cons x)
theorem aDc {α:Type}(next:Nat→Nat):∀(fuel k:Nat) (left:List α) (out:Array α),left.length≤fuel→(pickOrder.go next fuel k left out).toList.Perm (out.toList++left):=by
 intro fuel
 induction fuel with
 |zero=>
  intro k left out h
  cases left with
  |nil=>unfold pickOrder.go;simp
  |cons _ _=>simp at h
 |succ fuel ih=>
  intro k left out h
  unfold pickOrder.go
  have hm:left≠[]→next k % left.length<left.length:=fun h=>Nat.mod_lt _ (gx.mpr h)
  generalize next k % left.length=j at hm
  cases hq:left[j]? with
  |none=>
   dsimp only
   cases left with
   |nil=>simp
   |cons x l=>
    have:=hm (by simp)
    rw[iB this] at hq;cases hq
  |some x=>
   dsimp only
   have hj:j<left.length:=(fG.mp hq).1
   refine(ih _ _ _ (by rw[List.length_eraseIdx];split<;>omega)).trans ?_
   rw[pG,cz]
   refine List.Perm.append_left _ ?_
   have hx:left[j]=x:=(fG.mp hq).2
   subst hx
   exact yB _ _ hj
theorem Gr {α:Type}(next:Nat→Nat)(xs:Array α):(pickOrder next xs).toList.Perm xs.toList:=by
 unfold pickOrder
 exact aDc next _ _ _ _ (by simp)
section
variable {prog:Program}{w:World}{A:Around}{E:Value→Shared→Prop}{s:Shared}
theorem aDd {n:Nat}{src:Source}{Q:Nat→Shared→Prop}(hn:n≠0)(h:∀i dr,i<n→Q i {s with drawn:=dr}):wpAny (model prog w) A (choose src n) Q E s:=
 fun _ _ _=>⟨hn,h _ _ (Nat.mod_lt _ (Nat.pos_of_ne_zero hn))⟩
theorem aDe {α:Type}:∀(n:Nat) (xs:List α) (s:Shared) (Q:List α→Shared→Prop),xs.length=n→(∀ys dr,ys.Perm xs→Q ys {s with drawn:=dr})→wpAny (model prog w) A (drawOrder n xs) Q E s:=by
 intro n
 induction n with
 |zero=>
  intro xs s Q hl h
  obtain rfl:=List.eq_nil_of_length_eq_zero hl
  exact ak (h [] s.drawn (.refl _))
 |succ n ih=>
  intro xs s Q hl h
  match xs,hl with
  |x::l,hl=>
   unfold drawOrder
   refine ag (aDd (by simp) fun i dr hi=>?_)
   have hg:(x::l)[i]? =some (x::l)[i]:=iB hi
   rw[hg]
   dsimp only
   refine ag (ih _ _ _ (by rw[List.length_eraseIdx,if_pos hi];simp at hl ⊢;omega) fun ys dr' hp=>ak ?_)
   refine h _ dr' ?_
   exact(hp.cons _).trans (yB _ _ hi)
end
noncomputable def dG (h:Heap)(a:Addr)(arr:Array (Int×Value))(ep:Nat)(t:bB):Prop:=∃o,h.get? a=some o∧o.ExactSet∧o.data= .set arr ep t∧t.fits arr.size=true∧dl t
noncomputable def iz (h:Heap)(I a:Addr)(first:Value)(i n ep:Nat):Prop:=∃o,h.get? I=some o∧o.cls= .type "set_iterator"∧o.data= .fields #[first,.int i 0,.ref a,.int n 0,.int ep 0]
noncomputable def hV (w:World)(h:Heap)(a T:Addr)(arr:Array (Int×Value))(ep:Nat)(t:bB)(vs:List Value)(i:Nat)(first:Value):Prop:=
 (f5 w=true∧first= .int 0 0∧vs=(pickOrder (w.params.setOrder a ep) arr).toList.map (·.2))∨
 (f5 w=false∧(!t.plain&&decide (arr.size>1))=false∧t.led=true∧vs=arr.toList.map (·.2)∧∃slot:Nat,first= .int slot 0∧cA t.place slot=i)∨
 (∃(ks:List Nat) (o:Obj) (n:Nat),first= .ref T∧ks.Perm (c0 arr.size)∧h.get? T=some o∧o.data= .seq (ks.map fun(i:Nat)=>Value.int i 0).toArray n∧vs=ks.map fun k=>((arr[k]?).map (·.2)).getD .none)
theorem dG.at {h h':Heap}{a:Addr}{arr ep t}(x:dG h a arr ep t)(e:∀o,h.get? a=some o→h'.get? a=some o):dG h' a arr ep t:=let ⟨o,ho,r⟩:=x;⟨o,e _ ho,r⟩
theorem iz.at {h h':Heap}{I a:Addr}{f i n ep}(x:iz h I a f i n ep)(e:∀o,h.get? I=some o→h'.get? I=some o):iz h' I a f i n ep:=let ⟨o,ho,r⟩:=x;⟨o,e _ ho,r⟩
theorem hV.at {w:World}{h h':Heap}{a T:Addr}{arr ep t vs i f}(x:hV w h a T arr ep t vs i f)(e:∀o,h.get? T=some o→h'.get? T=some o):hV w h' a T arr ep t vs i f:=by
 rcases x with x|x|⟨ks,o,n,h1,h2,h3,h4⟩
 ·exact .inl x
 ·exact .inr (.inl x)
 ·exact .inr (.inr ⟨ks,o,n,h1,h2,e _ h3,h4⟩)
theorem hV.perm {w:World}{h:Heap}{a T:Addr}{arr ep t vs i f}(x:hV w h a T arr ep t vs i f):vs.Perm (arr.toList.map (·.2)):=by
 rcases x with ⟨_,_,rfl⟩|⟨_,_,_,rfl,_⟩|⟨ks,o,n,_,hp,_,_,rfl⟩
 ·exact(Gr _ _).map _
 ·exact .refl _
 ·refine(hp.map _).trans (.of_eq ?_)
  refine List.ext_getElem? fun j=>?_
  rw[f9,f9]
  by_cases hj:j<arr.size
  ·simp [hj]
  ·simp [hj]
section
variable {prog:Program}{w:World}{A:Around}{E:Value→Shared→Prop}{s:Shared}{I a T:Addr}{arr:Array (Int×Value)}{ep:Nat}{t:bB}{vs:List Value}
theorem yC (hA:dG s.heap a arr ep t):s.TypeIs (.ref a) "set":=let ⟨_,ho,hc,_⟩:=hA;⟨_,ho,hc.1⟩
theorem lY {f i n}(hI:iz s.heap I a f i n ep):s.TypeIs (.ref I) "set_iterator":=let ⟨_,ho,hc,_⟩:=hI;⟨_,ho,hc⟩
theorem nG {h:Heap}{o:Obj}(ho:h.get? I=some o)(hc:o.cls= .type "set_iterator"){vs:Array Value}(hd:o.data= .fields vs)(k:Nat)(x:Value):
 ∃o',(h.update I (Obj.mapFields (·.setIfInBounds k x))).get? I=some o'∧o'.cls= .type "set_iterator"∧o'.data= .fields (vs.setIfInBounds k x):=
 ⟨_,l9 _ ho (Obj.isFreed_of_fields (Obj.data_mapFields hd _)),(Obj.cls_mapFields ..).trans hc,by rw[Obj.data_mapFields hd]⟩
theorem aDf {xs:Array Nat}(u:Up xs){i j:Nat}(h:xs[i]? =some j):cA xs (j+1)=i+1:=by
 obtain⟨h1,h2,h3⟩:=pg u (j+1)
 have hi:i<xs.size:=(pr.mp h).1
 rcases Nat.lt_trichotomy (cA xs (j+1)) (i+1) with hl|hl|hl
 ·have:=h3 i j (by omega) h
  omega
 ·exact hl
 ·have hs:i+1<xs.size:=by omega
  have e:xs[i+1]? =some xs[i+1]:=iA hs
  have a1:=h2 (i+1) _ (by omega) e
  have a2:=u.lt (dm i) h e
  omega
theorem aDg {xs:Array Nat}(u:Up xs):cA xs 0=0:=by
 obtain⟨h1,h2,h3⟩:=pg u 0
 rcases Nat.eq_zero_or_pos (cA xs 0) with hl|hl
 ·exact hl
 ·have hs:0<xs.size:=by omega
  have:=h2 0 _ hl (iA hs)
  omega
theorem aDh {first:Value}{i:Nat}{v:Value}{Q:Option Value→Shared→Prop}(hA:dG s.heap a arr ep t)(hI:iz s.heap I a first i arr.size ep)(hm:hV w s.heap a T arr ep t vs i first)(hIa:a≠I)(hIT:T≠I)(hv:vs[i]? =some v)
 (h:∀h' first',gv I s.heap h'→iz h' I a first' (i+1) arr.size ep→hV w h' a T arr ep t vs (i+1) first'→Q (some v) {s with heap:=h'}):
 wpAny (model prog w) A (fh (.ref I)) Q E s:=by
 obtain⟨o,ho,hc,hd⟩:=id hI
 obtain⟨oa,hoa,hca,hda,hfa,hua⟩:=id hA
 unfold fh
 refine ag (wpAny_attempt (wpAny_callSpecial?_slot (name:="__next__") (lY hI) nF
  (kZ nF (lY hI) Go ?_ (Gq _))))
 unfold fJ.«set_iterator.__next__»
 refine ag (ak ?_)
 refine ag (wpAny_fieldsOf ho hd ?_)
 dsimp only
 refine ag (wpAny_setEntries_of hoa hda hfa ?_)
 rw[if_neg (by simp)]
 refine ag (ak ?_)
 rcases hm with ⟨hbt,rfl,hvs⟩|⟨hbt,hdr,hled,hvs,slot,rfl,hslot⟩|⟨ks,oT,nT,rfl,hks,hoT,hdT,hvs⟩
 ·dsimp only
  refine ag ?_
  unfold setNext
  refine ag (gR hoa hda hfa ?_)
  refine ag (lX ?_)
  rw[hbt]
  simp only[if_true]
  rw[if_neg (by simp)]
  refine ag ?_
  unfold setWalk
  refine ag (gR hoa hda hfa ?_)
  refine ag (lX ?_)
  rw[hbt]
  simp only[if_true]
  refine ag (td ?_)
  refine ak ?_
  refine ak ?_
  have hx:((pickOrder (w.params.setOrder a ep) arr)[i]?).map (·.2)=some v:=by
   rw[hvs,f9,jd] at hv;exact hv
  obtain⟨⟨k,v'⟩,hg,rfl⟩:=cC.mp hx
  simp only[iD]
  rw[show (model prog w).w.params.setOrder a ep=w.params.setOrder a ep from rfl,hg]
  dsimp only[Option.map_some]
  obtain⟨o1,ho1,hc1,hd1⟩:=nG ho hc hd 0 (c4 (Int.toNat 0))
  refine ag (k9 ho hd (by simp) ?_)
  obtain⟨o2,ho2,hc2,hd2⟩:=nG ho1 hc1 hd1 1 (c4 ((i:Int)+1))
  refine ag (k9 ho1 hd1 (by simp) ?_)
  refine ak ⟨_,rfl,?_⟩
  refine ak (h _ (.int 0 0) (Heap.SameBut.trans (kX ..) (kX ..)) ⟨o2,ho2,hc2,?_⟩ (.inl ⟨hbt,rfl,hvs⟩))
  rw[hd2];simp [c4]
 ·dsimp only
  refine ag ?_
  unfold setNext
  refine ag (gR hoa hda hfa ?_)
  refine ag (lX ?_)
  rw[hbt]
  simp only[jf,if_false]
  refine k8 (fun hab=>absurd (hab.symm.trans hdr) (by decide)) fun _=>?_
  have hlt:i<arr.size:=by
   have:=(fG.mp hv).1
   rw[hvs] at this;simpa using this
  refine ag ?_
  show wpAny _ _ (if (!t.led&& !arr.isEmpty)=true then unsupported "set:maker-not-led" else pure ()) _ _ _
  rw[if_neg (by rw[hled];simp)]
  refine ak (ak ?_)
  have hpl:t.place.size=arr.size:=by
   unfold SetTable.fits at hfa
   simp only[Bool.and_eq_true,beq_iff_eq] at hfa;exact hfa.1
  have hpi:t.place[i]? =some (t.place[i]'(by omega)):=iA (by omega)
  have hai:arr[i]? =some arr[i]:=iA hlt
  have hav:arr[i].2=v:=by
   rw[hvs,f9,jd,hai] at hv;simpa using hv
  rw[iD,hslot,hpi,hai]
  generalize t.place[i]'(by omega)=j at hpi
  generalize arr[i]=e at hav
  obtain⟨k,v'⟩:=e
  obtain rfl:v'=v:=hav
  dsimp only
  obtain⟨o1,ho1,hc1,hd1⟩:=nG ho hc hd 0 (c4 ((j+1:Nat):Int))
  refine ag (k9 ho hd (by simp) ?_)
  obtain⟨o2,ho2,hc2,hd2⟩:=nG ho1 hc1 hd1 1 (c4 ((i:Int)+1))
  refine ag (k9 ho1 hd1 (by simp) ?_)
  refine ak ⟨_,rfl,?_⟩
  refine ak (h _ (.int ((j+1:Nat):Int) 0) (Heap.SameBut.trans (kX ..) (kX ..)) ⟨o2,ho2,hc2,?_⟩ (.inr (.inl ⟨hbt,hdr,hled,hvs,j+1,rfl,aDf hua.1 hpi⟩)))
  rw[hd2];simp [c4]
 ·dsimp only
  have hi:i<ks.length:=by
   have:=(fG.mp hv).1
   rw[hvs] at this;simpa using this
  refine ag ?_
  unfold seqItems?
  refine ag (wpAny_load hoT ?_)
  rw[hdT]
  refine ak ?_
  dsimp only
  have hk:(ks.map fun(i:Nat)=>Value.int i 0).toArray[i]? =some (Value.int ks[i] 0):=by simp [hi]
  have hkr:ks[i]<arr.size:=lf.mp (hks.mem_iff.mp (List.getElem_mem hi))
  have hvk:arr[ks[i]].2=v:=by
   rw[hvs,f9,iB hi,Option.map_some,iA hkr] at hv
   simpa using hv
  rw[iD,hk]
  dsimp only
  refine ag ?_
  unfold setNextDrawn
  refine ag (gR hoa hda hfa ?_)
  dsimp only
  rw[if_neg (by simp)]
  rw[iD,iA hkr]
  generalize arr[ks[i]]=e at hvk
  obtain⟨k,v'⟩:=e
  obtain rfl:v'=v:=hvk
  dsimp only
  refine ak ?_
  obtain⟨o2,ho2,hc2,hd2⟩:=nG ho hc hd 1 (c4 ((i:Int)+1))
  refine ag (k9 ho hd (by simp) ?_)
  refine ak ⟨_,rfl,?_⟩
  refine ak (h _ (.ref T) (kX ..) ⟨o2,ho2,hc2,?_⟩ (.inr (.inr ⟨ks,oT,nT,rfl,hks,?_,hdT,hvs⟩)))
  ·rw[hd2];simp [c4]
  ·exact(l8 _ _ (gW hIT)).trans hoT
end
section
variable {prog:Program}{w:World}{A:Around}{E:Value→Shared→Prop}{s:Shared}{I a T:Addr}{arr:Array (Int×Value)}{ep:Nat}{t:bB}{vs:List Value}
theorem yD {β:Type}{Q₁:β→Shared→Prop}{Q:Option Value→Shared→Prop}(hh:A.handled=none)(h:∀h',(∀b o,s.heap.get? b=some o→h'.get? b=some o)→Q none {s with heap:=h'}):
 wpAny (model prog w) A.in1 (newExc (.type "StopIteration") []>>=fun e=>(raiseNew e:Sem β)) Q₁ (fun e s'=>wpAny (model prog w) A (isInstance e (.type "StopIteration")>>=fun b=>if b=true then pure none else throw e) Q E s') s:=by
 refine ag ?_
 simp only[newExc,newTuple]
 refine ag (kY ?_ (by size_fits))
 refine ag (m:=firstArgMember _ _) (wpAny_of_eq (a:=jn) (by first|rfl|(simp only[firstArgMember];rfl)) ?_)
 refine kY ?_ (by size_fits)
 simp only[raiseNew]
 refine ag (wpAny_handled ?_)
 rw[show A.in1.handled=none from hh]
 refine ag (ak (wpAny_throw ?_))
 refine ag (wpAny_isInstance (T:="StopIteration") (b:=true) ⟨_,dH _ rfl,rfl⟩ isSubtype_stop ?_)
 exact ak (h _ fun b o e=>bH _ (bH _ e))
theorem aDi {first:Value}{Q:Option Value→Shared→Prop}(hh:A.handled=none)(hA:dG s.heap a arr ep t)(hI:iz s.heap I a first arr.size arr.size ep)(hm:hV w s.heap a T arr ep t vs arr.size first)
 (h:∀h',(∀b o,b≠I→s.heap.get? b=some o→h'.get? b=some o)→Q none {s with heap:=h'}):
 wpAny (model prog w) A (fh (.ref I)) Q E s:=by
 obtain⟨o,ho,hc,hd⟩:=id hI
 obtain⟨oa,hoa,hca,hda,hfa,hua⟩:=id hA
 have hlen:vs.length=arr.size:=by have:=hm.perm.length_eq;simpa using this
 have other:∀(h1:Heap) (k:Nat) (x:Value),(∀b o,b≠I→s.heap.get? b=some o→h1.get? b=some o)→∀b o,b≠I→s.heap.get? b=some o→(h1.update I (Obj.mapFields (·.setIfInBounds k x))).get? b=some o:=
  fun h1 k x hk b o hb e=>(l8 _ _ (gW hb)).trans (hk b o hb e)
 unfold fh
 refine ag (wpAny_attempt (wpAny_callSpecial?_slot (name:="__next__") (lY hI) nF
  (kZ nF (lY hI) Go ?_ (Gq _))))
 unfold fJ.«set_iterator.__next__»
 refine ag (ak ?_)
 refine ag (wpAny_fieldsOf ho hd ?_)
 dsimp only
 refine ag (wpAny_setEntries_of hoa hda hfa ?_)
 rw[if_neg (by simp)]
 refine ag (ak ?_)
 rcases hm with ⟨hbt,rfl,hvs⟩|⟨hbt,hdr,hled,hvs,slot,rfl,hslot⟩|⟨ks,oT,nT,rfl,hks,hoT,hdT,hvs⟩
 ·dsimp only
  refine ag ?_
  unfold setNext
  refine ag (gR hoa hda hfa ?_)
  refine ag (lX ?_)
  rw[hbt]
  simp only[if_true]
  rw[if_neg (by simp)]
  refine ag ?_
  unfold setWalk
  refine ag (gR hoa hda hfa ?_)
  refine ag (lX ?_)
  rw[hbt]
  simp only[if_true]
  refine ag (td ?_)
  refine ak ?_
  refine ak ?_
  have hx:(pickOrder (w.params.setOrder a ep) arr)[arr.size]? =none:=by
   rw[Array.getElem?_eq_none_iff]
   have:=(Gr (w.params.setOrder a ep) arr).length_eq
   simp at this;omega
  simp only[iD]
  rw[show (model prog w).w.params.setOrder a ep=w.params.setOrder a ep from rfl,hx]
  dsimp only[Option.map_none]
  refine ag (k9 ho hd (by simp) ?_)
  refine yD hh fun h' hk=>h h' fun b o hb e=>hk b o (other _ _ _ (fun b o _ e=>e) b o hb e)
 ·dsimp only
  refine ag ?_
  unfold setNext
  refine ag (gR hoa hda hfa ?_)
  refine ag (lX ?_)
  rw[hbt]
  simp only[jf,if_false]
  refine k8 (fun hab=>absurd (hab.symm.trans hdr) (by decide)) fun _=>?_
  refine ag ?_
  show wpAny _ _ (if (!t.led&& !arr.isEmpty)=true then unsupported "set:maker-not-led" else pure ()) _ _ _
  rw[if_neg (by rw[hled];simp)]
  refine ak (ak ?_)
  rw[iD,hslot,Array.getElem?_eq_none (aT _)]
  dsimp only
  refine ag (k9 ho hd (by simp) ?_)
  refine yD hh fun h' hk=>h h' fun b o hb e=>hk b o (other _ _ _ (fun b o _ e=>e) b o hb e)
 ·dsimp only
  refine ag ?_
  unfold seqItems?
  refine ag (wpAny_load hoT ?_)
  rw[hdT]
  refine ak ?_
  dsimp only
  have hkl:ks.length=arr.size:=by have:=hks.length_eq;simpa using this
  have hk:(ks.map fun(i:Nat)=>Value.int i 0).toArray[arr.size]? =none:=by simp [hkl]
  rw[iD,hk]
  dsimp only
  obtain⟨o1,ho1,hc1,hd1⟩:=nG ho hc hd 0 (c4 0)
  refine ag (k9 ho hd (by simp) ?_)
  refine ag (k9 ho1 hd1 (by simp) ?_)
  refine yD hh fun h' hk=>h h' fun b o hb e=>hk b o (other _ _ _ (other _ _ _ fun b o _ e=>e) b o hb e)
theorem aDj {first:Value}{i n:Nat}{Q:Value→Shared→Prop}(hI:iz s.heap I a first i n ep)(h:Q (.ref I) s):wpAny (model prog w) A (pyIter (.ref I)) Q E s:=by
 refine wpAny_pyIter_slot (lY hI) Gn (kZ Gn (lY hI) aDa ?_ (aDb _))
 show wpAny _ _ (ret (.ref I)) _ _ s
 exact ak ⟨_,rfl,"set_iterator",_,lY hI,nF.lookup,h⟩
theorem aDk (hh:A.handled=none)(hIa:a≠I)(hIT:T≠I)(hv:vs.length=arr.size):
 Walks prog w A I [I,a,T] [I] vs.length (fun i v=>vs[i]? =some v) (fun i h=>dG h a arr ep t∧∃first,iz h I a first i arr.size ep∧hV w h a T arr ep t vs i first) where
 sub:=fun b hb=>by simp at hb;simp [hb]
 frame:=fun _ _ _ st hk=>let ⟨h1,f,h2,h3⟩:=st
  ⟨h1.at fun o e=>hk a (by simp) o e,f,h2.at fun o e=>hk I (by simp) o e,h3.at fun o e=>hk T (by simp) o e⟩
 item:=fun i s Q E hi st hQ=>by
  obtain⟨h1,f,h2,h3⟩:=st
  refine aDh h1 h2 h3 hIa hIT (iB hi) fun h' f' hsb hI' hm'=>?_
  exact hQ _ h' s.toks (iB hi) ⟨h1.at fun o e=>(hsb.2 a hIa).trans e,f',hI',hm'⟩ fun b o hb e=>(hsb.2 b (fun h=>hb (by simp [h]))).trans e
 done:=fun s Q E st hQ=>by
  rw[hv] at st
  obtain⟨h1,f,h2,h3⟩:=st
  exact aDi hh h1 h2 h3 fun h' hk=>hQ h' s.toks fun b o hb e=>hk b o (fun h=>hb (by simp [h])) e
 self:=fun _ _ _ _ st hQ=>let ⟨_,_,h2,_⟩:=st;aDj h2 hQ
end
section
variable {prog:Program}{w:World}{A:Around}{E:Value→Shared→Prop}{s:Shared}{a:Addr}{arr:Array (Int×Value)}{ep:Nat}{t:bB}
theorem aDl {Q:Value→Shared→Prop}(hA:dG s.heap a arr ep t)(hl:t.led= !f5 w)(hz:arr.size≤dJ)
 (h:∀(I T:Addr) h' dr vs first,(∀b o,s.heap.get? b=some o→h'.get? b=some o)→s.heap.objs.size≤I→(T=a∨s.heap.objs.size≤T)→T≠I→iz h' I a first 0 arr.size ep→hV w h' a T arr ep t vs 0 first→Q (.ref I) {s with heap:=h',drawn:=dr}):
 wpAny (model prog w) A (pyIter (.ref a)) Q E s:=by
 obtain⟨oa,hoa,hca,hda,hfa,hua⟩:=id hA
 have hlt:=fI hoa
 have hT:=yC hA
 refine wpAny_pyIter_slot hT PySem.F.slot_set_iter (kZ PySem.F.slot_set_iter hT aCZ ?_ (PySem.F.args_set_iter_1 _))
 unfold fJ.«frozenset.__iter__» Builtin.Frozenset.slot0 slotArgs
 simp only[List.isEmpty_nil,Bool.not_true,jf,↓reduceIte,bind_assoc,List.length_nil,bne_self_eq_false]
 unfold Builtin.Frozenset.addrOf Builtin.Frozenset.sizeOf
 refine ag (ak ?_)
 try dsimp only
 refine ag (ak ?_)
 refine ag (ag (wpAny_setEntries_of hoa hda hfa (ak ?_)))
 refine ag ?_
 unfold setDrawn
 refine ag (gR hoa hda hfa ?_)
 refine ag (lX ?_)
 refine ak ?_
 have fin:∀(s₁:Shared) (dr) (first:Value) (T:Addr) (vs:List Value),s₁={s with heap:=s₁.heap,drawn:=dr}→(∀b o,s.heap.get? b=some o→s₁.heap.get? b=some o)→s.heap.objs.size≤s₁.heap.objs.size→(T=a∨s.heap.objs.size≤T)→T<s₁.heap.objs.size→
  hV w s₁.heap a T arr ep t vs 0 first→
  wpAny (model prog w) A.in1 (do ret (←newFields "set_iterator" [first,c4 0,.ref a,c4 arr.size,c4 (←setEpoch a)])) (fun fin s'=>∃v,fin= .done (.ret v)∧∃T' r,s'.TypeIs v T'∧typeLookup (.type T') "__next__"=pure (some r)∧Q v s') E s₁:=by
  intro s₁ dr first T vs e1 hk hs hT hTs hm
  refine ag (wpAny_setEpoch_of (hk _ _ hoa) hda hfa ?_)
  unfold newFields
  refine ag (kY ?_)
  have hg:(s₁.heap.push {cls:=.type "set_iterator",data:=.fields [first,c4 0,.ref a,c4 arr.size,c4 ep].toArray}).get? s₁.heap.objs.size=some {cls:=.type "set_iterator",data:=.fields [first,c4 0,.ref a,c4 arr.size,c4 ep].toArray}:=dH _ rfl
  refine ak ⟨_,rfl,"set_iterator",_,⟨_,hg,rfl⟩,nF.lookup,?_⟩
  have:=h s₁.heap.objs.size T _ dr vs first (fun b o e=>bH _ (hk b o e)) hs hT (dT hTs) ⟨_,hg,rfl,rfl⟩ (hm.at fun o e=>bH _ e)
  rw[e1]
  exact this
 by_cases hd:(!f5 w&&(!t.plain&&decide (arr.size>1)))=true
 ·refine k8 (fun _=>?_) fun hab=>absurd hd hab
  refine ag (aDe arr.size (c0 arr.size) s _ (by simp) fun ks dr hp=>?_)
  refine ag ?_
  have hkl:ks.length=arr.size:=by have:=hp.length_eq;simpa using this
  refine wpAny_newTuple ?_ (by simp;omega)
  have hg:(s.heap.push {cls:=.type "tuple",data:=.seq (ks.map fun(i:Nat)=>c4 i).toArray}).get? s.heap.objs.size=some {cls:=.type "tuple",data:=.seq (ks.map fun(i:Nat)=>c4 i).toArray}:=dH _ rfl
  exact fin {s with heap:=s.heap.push {cls:=.type "tuple",data:=.seq (ks.map fun(i:Nat)=>c4 i).toArray},drawn:=dr} dr (.ref s.heap.objs.size) s.heap.objs.size _ rfl (fun b o e=>bH _ e) (by simp [pK]) (.inr (aT _)) (by simp [pK]) (.inr (.inr ⟨ks,_,_,rfl,hp,hg,rfl,rfl⟩))
 ·refine k8 (fun hab=>absurd hab hd) fun _=>?_
  refine ag (ak ?_)
  cases hb:f5 w with
  |true=>exact fin s s.drawn (c4 0) a _ rfl (fun b o e=>e) (aT _) (.inl rfl) hlt (.inl ⟨hb,rfl,rfl⟩)
  |false=>
   rw[hb] at hd hl
   refine fin s s.drawn (c4 0) a _ rfl (fun b o e=>e) (aT _) (.inl rfl) hlt (.inr (.inl ⟨hb,by simpa using hd,hl,rfl,0,rfl,aDg hua.1⟩))
theorem aDm {r:Addr}{Q:Bool→Shared→Prop}(hT:s.TypeIs (.ref r) "set")(h:Q false s):wpAny (model prog w) A (Builtin.List.listLengthHint (.ref r)) Q E s:=by
 unfold Builtin.List.listLengthHint
 refine ag (wpAny_specialOf hT PySem.F.slot_set_len.lookup ?_)
 generalize hid:("set.__len__":String)=id0
 wp_delta
 rw[show splitId id0=some ("set","__len__") from by subst hid;decide +kernel]
 subst hid
 refine ag (wpAny_isInstance (T:="set") (b:=true) hT (by rw[isSubtype_type];kernel_rfl) ?_)
 refine k8 (fun hab=>absurd hab (by decide)) (fun _=>?_)
 refine k8 (fun _=>?_) (fun hab=>absurd (by decide +kernel) hab)
 refine ag (wpAny_typeOf hT ?_)
 exact ak h
theorem aDn {R:Result→Shared→Prop}(hh:A.handled=none)(hA:dG s.heap a arr ep t)(hl:t.led= !f5 w)(hz:arr.size≤dJ)(S:Addr)(hSa:S≠a)(res:Value)(c₀:Nat)(hS:s.heap.get? S=some {cls:=.type "list",data:=.seq #[] c₀})
 (hR:∀h' dr tk (acc':Array Value) c',(∀b o,b≠S→s.heap.get? b=some o→h'.get? b=some o)→h'.get? S=some {cls:=.type "list",dict:=none,data:=.seq acc' c',slots:=#[]}→acc'.toList.Perm (arr.toList.map (·.2))→R (.ok (.ret res)) {s with heap:=h',drawn:=dr,toks:=tk}):
 wpAny (model prog w) A.in1 (sL (.ref S) (.ref a) res)
  (fun fin s'=>match fin with| .done f=>R (.ok f) s'| .again c'=>c'.quiet=true∧fg (model prog w) A c' R s') (fun e s'=>R (.error e) s') s:=by
 have hSl:=fI hS
 unfold sL
 refine ag (wpAny_typeOf (T:="set") (yC hA) ?_)
 have h1:Builtin.List.listSameRef (.ref S) (.ref a)=false:=by simp [Builtin.List.listSameRef,hSa]
 have h2:(fM "set"==fM "list")=false:=by decide
 have h3:(fM "set"==fM "tuple")=false:=by decide
 simp only[h1,h2,h3,Bool.or_false,jf,if_false]
 refine ag (aDl hA hl hz fun I T h₁ dr vs first hk hI hT hTI hIt hm=>?_)
 have hvl:vs.length=arr.size:=by have:=hm.perm.length_eq;simpa using this
 have hA₁:dG h₁ a arr ep t:=hA.at fun o e=>hk _ _ e
 have hS₁:=hk _ _ hS
 have haI:a≠I:=by obtain⟨o,ho,_⟩:=hA;exact dT (fc (fI ho) hI)
 have hSI:S≠I:=dT (fc hSl hI)
 have hST:S≠T:=by
  rcases hT with rfl|hT
  ·exact hSa
  ·exact dT (fc hSl hT)
 have hSf:S∉[I,a,T]:=by simp only[bC,aJ,or_false,not_or];exact⟨hSI,hSa,hST⟩
 have W:Walks prog w A.in1 I [I,a,T] [I] vs.length (fun i v=>vs[i]? =some v) (fun i h=>dG h a arr ep t∧∃first,iz h I a first i arr.size ep∧hV w h a T arr ep t vs i first):=aDk hh haI hTI hvl
 have key:∀(h:Heap) (c₁:Nat),(∀b o,b≠S→h₁.get? b=some o→h.get? b=some o)→
  h.get? S=some {cls:=.type "list",data:=.seq #[] c₁}→fg (model prog w) A (.builtin "list.extend.loop" ⟨[.ref S,.ref I,res],[]⟩) R {s with heap:=h,drawn:=dr}:=by
  intro h c₁ hk₁ hSh
  refine codeAny_extend_loopS W.toS (by rw[hvl];exact hz) S hSf res vs.length 0 _ #[] c₁ rfl (bz _) ⟨hA₁.at fun o e=>hk₁ _ _ hSa.symm e,first,hIt.at fun o e=>hk₁ _ _ hSI.symm e,hm.at fun o e=>hk₁ _ _ hST.symm e⟩ hSh (ItemsOf.nil _) fun s' acc' c' hmv hS' hacc=>?_
  rw[Moved.eq_with hmv]
  refine hR s'.heap dr s'.toks acc' c' (fun b o hb e=>hmv.heap b o (fun hmem=>?_) (hk₁ b o hb (hk b o e))) hS' ?_
  ·rcases bC.mp hmem with e'|hmem
   ·exact hb e'
   ·have:=fI e
    rw[aM.mp hmem] at this
    exact absurd this (Nat.not_lt.mpr hI)
  ·have:acc'.toList=vs:=by
    refine List.ext_getElem? fun j=>?_
    by_cases hj:j<vs.length
    ·have hj':j<acc'.size:=by rw[hacc.1];exact hj
     have:=hacc.2 j acc'[j] (by simp [hj'])
     rw[this];simp [hj']
    ·rw[kS (by rw[fH,hacc.1];omega),kS (by omega)]
   rw[this];exact hm.perm
 refine ag (dR (aDm (s:={s with heap:=h₁,drawn:=dr}) (yC hA₁) ?_))
 refine k8 (fun _=>?_) (fun _=>ak ⟨lg PySem.F.plain_extend_loop _,key _ c₀ (fun b o _ e=>e) hS₁⟩)
 refine ag (iH ?_)
 refine ag ?_
 show wpAny _ _ (updateSeq S (·.push .none)>>=fun _=>updateSeq S (·.pop)) _ _ _
 refine ag (wpAny_updateSeq hS₁ rfl ?_)
 have hS₂:=l9 (fP (·.push jn)) hS₁ rfl
 refine wpAny_updateSeq (hz:=by seq_fits) hS₂ rfl ?_
 have hS₃:=l9 (fP (·.pop)) hS₂ rfl
 refine ak ⟨lg PySem.F.plain_extend_loop _,key _ _ (fun b o hb e=>?_) hS₃⟩
 exact(l8 _ _ (gW hb)).trans ((l8 _ _ (gW hb)).trans e)
theorem aDo {R:List Value→Shared→Prop}(hh:A.handled=none)(hA:dG s.heap a arr ep t)(hl:t.led= !f5 w)(hz:arr.size≤dJ)
 (h:∀h' dr tk (vs:List Value),(∀b o,s.heap.get? b=some o→h'.get? b=some o)→vs.Perm (arr.toList.map (·.2))→R vs {s with heap:=h',drawn:=dr,toks:=tk}):
 wpAny (model prog w) A (collect (.ref a)) R E s:=by
 have hlt:a<s.heap.objs.size:=let ⟨_,ho,_⟩:=hA;fI ho
 unfold collect
 refine ag (wpAny_runValue (jj entry_proto_collect' ?_))
 rw[kW PySem.F.plain_proto_collect _]
 show wpAny _ A.in1 (newList []>>=fun l=>again (.builtin "list.__iadd__" ⟨[l,.ref a],[]⟩)) _ _ s
 refine ag (kY ?_)
 refine ak ⟨lg PySem.F.plain_list_iadd _,jj entry_list_iadd' ?_⟩
 rw[kW PySem.F.plain_list_iadd _]
 have hS₁:(s.heap.push {cls:=.type "list",data:=.seq ([]:List Value).toArray}).get? s.heap.objs.size=some {cls:=.type "list",data:=.seq #[]}:=dH _ rfl
 show wpAny _ A.in1 (sL (.ref s.heap.objs.size) (.ref a) (.ref s.heap.objs.size)) _ _ _
 have key:=aDn (prog:=prog) (w:=w) (A:=A) (s:={s with heap:=s.heap.push {cls:=.type "list",data:=.seq ([]:List Value).toArray}})
  (R:=fun(q:Result) (s':Shared)=>∃(h':Heap) (dr: _) (tk:Nat) (acc':Array Value) (c':Nat),q= .ok (.ret (.ref s.heap.objs.size))∧s'={s with heap:=h',drawn:=dr,toks:=tk}∧
   (∀b o,s.heap.get? b=some o→h'.get? b=some o)∧h'.get? s.heap.objs.size=some {cls:=.type "list",dict:=none,data:=.seq acc' c',slots:=#[]}∧acc'.toList.Perm (arr.toList.map (·.2)))
  hh (hA.at fun o e=>bH _ e) hl hz s.heap.objs.size (Nat.ne_of_gt hlt) (.ref s.heap.objs.size) 0 hS₁
  (fun h' dr tk acc' c' hk hS' hacc=>⟨h',dr,tk,acc',c',rfl,rfl,fun b o e=>hk b o (dT (fI e)) (bH _ e),hS',hacc⟩)
 refine cZ key (fun fin s' x=>?_) fun e s' x=>?_
 ·cases fin with
  |done f=>
   obtain⟨h',dr,tk,acc',c',e,rfl,hk,hS',hacc⟩:=x
   cases e
   show wpAny _ A (load s.heap.objs.size>>= _) _ _ _
   refine ag (wpAny_load hS' ?_)
   exact ak (h h' dr tk acc'.toList hk hacc)
  |again c₁=>
   refine⟨x.1,codeAny_mono x.2 fun q s₂ y=>?_⟩
   obtain⟨h',dr,tk,acc',c',rfl,rfl,hk,hS',hacc⟩:=y
   show wpAny _ A (load s.heap.objs.size>>= _) _ _ _
   refine ag (wpAny_load hS' ?_)
   exact ak (h h' dr tk acc'.toList hk hacc)
 ·obtain⟨_,_,_,_,_,e',_⟩:=x
  cases e'
end
abbrev f8:=SetTable.Probe
noncomputable def adv (mask:Nat)(p:f8):f8:=
 if p.more>0 then {p with j:=p.j+1,more:=p.more - 1} else
 {p with j:=(iF mask p.i p.perturb).1,more:=fe mask (iF mask p.i p.perturb).1 - (iF mask p.i p.perturb).1,i:=(iF mask p.i p.perturb).1,perturb:=(iF mask p.i p.perturb).2}
theorem Gs (t:bB)(p:f8):t.advance p=adv t.mask p:=rfl
noncomputable def aL (mask:Nat):Nat→f8→f8
 |0,p=>p
 |k+1,p=>aL mask k (adv mask p)
theorem sn (mask:Nat):∀(k:Nat) (p:f8),aL mask (k+1) p=adv mask (aL mask k p)
 |0,_=>rfl
 |k+1,p=>sn mask k (adv mask p)
theorem ph (mask b:Nat):∀(a:Nat) (p:f8),aL mask (a+b) p=aL mask b (aL mask a p)
 |0,p=>by rw[bQ];rfl
 |a+1,p=>by rw[show a+1+b=(a+b)+1 by omega];exact ph mask b a (adv mask p)
noncomputable def eE (mask i perturb:Nat):f8:=⟨i,fe mask i - i,i,perturb,none⟩
noncomputable def bo (mask:Nat)(h:Int):f8:=eE mask (iG h % (mask+1)) (iG h)
theorem aFZ (t:bB)(h:Int):t.probeStart h=bo t.mask h:=rfl
theorem Gu (mask i:Nat):fe mask i - i≤9:=by unfold fe;split<;>omega
theorem yE (mask i p:Nat):(iF mask i p).1≤mask:=Nat.le_of_lt_succ (Nat.mod_lt _ (Nat.succ_pos _))
theorem yF (mask:Nat):∀(m:Nat) (p:f8),p.more=m→p.dummy=none→aL mask (m+1) p=eE mask (iF mask p.i p.perturb).1 (p.perturb / 32):=by
 intro m
 induction m with
 |zero=>
  intro p h1 h2
  show adv mask p= _
  unfold adv
  rw[if_neg (by omega),h2]
  rfl
 |succ m ih=>
  intro p h1 h2
  have e:adv mask p={p with j:=p.j+1,more:=p.more - 1}:=by unfold adv;rw[if_pos (by omega)]
  show aL mask (m+1) (adv mask p)= _
  rw[ih (adv mask p) (by rw[e];show p.more - 1=m;omega) (by rw[e];exact h2),e]
theorem yG (mask i perturb:Nat):∀(k:Nat),k≤fe mask i - i→aL mask k (eE mask i perturb)=⟨i+k,fe mask i - i - k,i,perturb,none⟩:=by
 intro k
 induction k with
 |zero=>intro _;rfl
 |succ k ih=>
  intro h
  rw[sn,ih (by omega)]
  unfold adv
  rw[if_pos (by show _ - k>0;omega)]
  rfl
theorem aDp (mask:Nat):∀(n:Nat) (p:f8),p.perturb<32 ^ n→p.more≤9→p.dummy=none→∃k i,k≤10*(n+1)∧i≤mask∧aL mask k p=eE mask i 0:=by
 intro n
 induction n with
 |zero=>
  intro p h1 h2 h3
  refine⟨p.more+1,_,by omega,yE mask p.i p.perturb,?_⟩
  rw[yF mask _ p rfl h3]
  have:p.perturb / 32=0:=by simp at h1;omega
  rw[this]
 |succ n ih=>
  intro p h1 h2 h3
  have hd:p.perturb / 32<32 ^ n:=by rw[Nat.pow_succ] at h1;omega
  obtain⟨k,i,hk,hi,e⟩:=ih (eE mask (iF mask p.i p.perturb).1 (p.perturb / 32)) hd (Gu _ _) rfl
  refine⟨p.more+1+k,i,by omega,hi,?_⟩
  rw[ph,yF mask _ p rfl h3,e]
noncomputable def jN (mask:Nat):Nat→f8→List Nat
 |0,_=>[]
 |n+1,p=>p.j::jN mask n (adv mask p)
theorem Gv (mask:Nat){x:Nat}:∀(n:Nat) (p:f8),x∈jN mask n p→∃k,k<n∧(aL mask k p).j=x
 |0,_,h=>by cases h
 |n+1,p,h=>by
  rcases bC.mp h with rfl|h
  ·exact⟨0,by omega,rfl⟩
  ·obtain⟨k,hk,e⟩:=Gv mask n _ h
   exact⟨k+1,by omega,e⟩
theorem Gw:∀(l:List Nat),(b0 l).Nodup∧∀x,x∈b0 l→x∈l
 |[]=>⟨.nil,fun x h=>by cases h⟩
 |y::l=>by
  obtain⟨h1,h2⟩:=Gw l
  unfold b0
  split
  ·exact⟨h1,fun x hx=>.tail _ (h2 x hx)⟩
  ·rename_i hc
   refine⟨eU.mpr ⟨fun z=>hc (by simpa using h2 _ z),h1⟩,fun x hx=>?_⟩
   rcases bC.mp hx with rfl|hx
   ·exact .head _
   ·exact .tail _ (h2 x hx)
theorem Gx:∀{b a:List Nat},a.Nodup→(∀x∈a,x∈b)→a.length≤b.length:=by
 intro b a
 induction a generalizing b with
 |nil=>intro _ _;exact bz _
 |cons x a ih=>
  intro h1 h2
  obtain⟨hx,ha⟩:=eU.mp h1
  have hb:=h2 x (.head _)
  have:=ih (b:=b.erase x) ha fun y hy=>(List.mem_erase_of_ne (fun z:y=x=>hx (z▸hy))).mpr (h2 y (.tail _ hy))
  rw[List.length_erase_of_mem hb] at this
  have:0<b.length:=List.length_pos_of_mem hb
  simp;omega
theorem aDq:((c0 8).all fun i=>decide (6≤(b0 (jN 7 60 (eE 7 i 0))).length))=true:=by decide +kernel
theorem aDr:((c0 32).all fun i=>decide (6≤(b0 (jN 31 60 (eE 31 i 0))).length))=true:=by decide +kernel
theorem aDs {mask i:Nat}(hm:mask=7∨mask=31)(hi:i≤mask):6≤(b0 (jN mask 60 (eE mask i 0))).length:=by
 rcases hm with rfl|rfl
 ·simpa using dn.mp aDq i (lf.mpr (by omega))
 ·simpa using dn.mp aDr i (lf.mpr (by omega))
theorem aDt {mask:Nat}(hm:mask=7∨mask=31)(occ:List Nat)(ho:occ.length≤5)(h:Int):∃k,k≤200∧(aL mask k (bo mask h)).j∉occ:=by
 have hb:iG h<32 ^ 13:=by
  unfold iG
  have:h % (2 ^ 64:Int)<2 ^ 64:=Int.emod_lt_of_pos _ (by decide)
  have:(2:Int) ^ 64=18446744073709551616:=by decide
  have:(32:Nat) ^ 13=36893488147419103232:=by decide
  omega
 obtain⟨k,i,hk,hi,e⟩:=aDp mask 13 (bo mask h) hb (Gu _ _) rfl
 have hv:=aDs hm hi
 obtain⟨hn,hs⟩:=Gw (jN mask 60 (eE mask i 0))
 by_cases hall:∀x∈b0 (jN mask 60 (eE mask i 0)),x∈occ
 ·have:=Gx hn hall
  omega
 ·obtain⟨x,hx,hxo⟩:∃x,x∈b0 (jN mask 60 (eE mask i 0))∧x∉occ:=by
   by_cases hex:∃x,x∈b0 (jN mask 60 (eE mask i 0))∧x∉occ
   ·exact hex
   ·exact absurd (fun x hx=>by
     by_cases hq:x∈occ
     ·exact hq
     ·exact absurd ⟨x,hx,hq⟩ hex) hall
  obtain⟨k',hk',e'⟩:=Gv mask 60 _ (hs x hx)
  refine⟨k+k',by omega,?_⟩
  rw[ph,e,e'];exact hxo
theorem yH (mask:Nat):∀(k:Nat) (p:f8),(aL mask k p).dummy=p.dummy
 |0,_=>rfl
 |k+1,p=>(yH mask k _).trans (by unfold adv;split<;>rfl)
theorem aDu {t:bB}(u:dl t)(f:Nat→Int)(h:Int)(p0:f8)(hp:p0.dummy=none):∀(d m fuel:Nat),t.slot (aL t.mask (m+d) p0).j= .empty→d<fuel→
 (∃k,m≤k∧k≤m+d∧jT t f h fuel (aL t.mask m p0)=some (.empty (aL t.mask k p0).j none)∧(aL t.mask k p0).j∉t.place.toList∧∀k',m≤k'→k'<k→∃i,t.slot (aL t.mask k' p0).j= .live i∧f i≠h)∨
 (∃k i,m≤k∧k<m+d∧jT t f h fuel (aL t.mask m p0)=some (.candidate (aL t.mask k p0).j i (aL t.mask (k+1) p0))∧t.slot (aL t.mask k p0).j= .live i∧f i=h∧∀k',m≤k'→k'<k→∃i,t.slot (aL t.mask k' p0).j= .live i∧f i≠h):=by
 intro d
 induction d with
 |zero=>
  intro m fuel he hf
  obtain⟨fuel,rfl⟩:∃n,fuel=n+1:=⟨fuel - 1,by omega⟩
  refine .inl ⟨m,aT _,aT _,?_,?_,fun k' a b=>by omega⟩
  ·unfold jT
   rw[show t.slot (aL t.mask m p0).j= .empty from he]
   dsimp only
   rw[yH,hp]
  ·rcases yA u (aL t.mask m p0).j with ⟨_,h2⟩|⟨i,h1,_⟩
   ·exact h2
   ·rw[show t.slot (aL t.mask m p0).j= .empty from he] at h1;cases h1
 |succ d ih=>
  intro m fuel he hf
  obtain⟨fuel,rfl⟩:∃n,fuel=n+1:=⟨fuel - 1,by omega⟩
  rcases yA u (aL t.mask m p0).j with ⟨h1,h2⟩|⟨i,h1,h2⟩
  ·refine .inl ⟨m,aT _,by omega,?_,h2,fun k' a b=>by omega⟩
   unfold jT
   rw[h1]
   dsimp only
   rw[yH,hp]
  ·by_cases hfi:f i=h
   ·refine .inr ⟨m,i,aT _,by omega,?_,h1,hfi,fun k' a b=>by omega⟩
    unfold jT
    rw[h1]
    dsimp only
    rw[if_pos (by simpa using hfi),Gs,sn]
   ·have hstep:jT t f h (fuel+1) (aL t.mask m p0)=jT t f h fuel (aL t.mask (m+1) p0):=by
     conv=>lhs;unfold jT
     rw[h1]
     dsimp only
     rw[if_neg (by simpa using hfi),Gs,sn]
    rw[hstep]
    rcases ih (m+1) fuel (by rw[show m+1+d=m+(d+1) by omega];exact he) (by omega) with ⟨k,a1,a2,a3,a4,a5⟩|⟨k,i',a1,a2,a3,a4,a5,a6⟩
    ·refine .inl ⟨k,by omega,by omega,a3,a4,fun k' b1 b2=>?_⟩
     by_cases hk:k'=m
     ·subst hk;exact⟨i,h1,hfi⟩
     ·exact a5 k' (by omega) b2
    ·refine .inr ⟨k,i',by omega,by omega,a3,a4,a5,fun k' b1 b2=>?_⟩
     by_cases hk:k'=m
     ·subst hk;exact⟨i,h1,hfi⟩
     ·exact a6 k' (by omega) b2
abbrev Ow:=Array (Option Nat)
noncomputable def pi (occ:Nat→Prop)(mask:Nat)(h:Int)(j:Nat):Prop:=∃k,(aL mask k (bo mask h)).j=j∧∀k',k'<k→occ (aL mask k' (bo mask h)).j
theorem pi.mono {occ occ':Nat→Prop}{mask:Nat}{h:Int}{j:Nat}(x:pi occ mask h j)(m:∀j,occ j→occ' j):pi occ' mask h j:=let ⟨k,h1,h2⟩:=x;⟨k,h1,fun k' hk=>m _ (h2 k' hk)⟩
theorem so {ow:Ow}{j:Nat}(h:j<ow.size)(a b:Option Nat):ow.getD j a=ow.getD j b:=by simp [mw,h]
theorem aDv (mask i:Nat):i≤fe mask i:=by unfold fe;split<;>omega
theorem aDw {mask i:Nat}(h:i≤mask):fe mask i≤mask:=by unfold fe;split<;>omega
theorem aDx {mask:Nat}{ow:Ow}(hs:ow.size=mask+1):∀(fuel i perturb j:Nat),i≤mask→iC mask ow fuel i perturb=some j→
 j≤mask∧ow.getD j none=none∧∃k,(aL mask k (eE mask i perturb)).j=j∧∀k',k'<k→ow.getD (aL mask k' (eE mask i perturb)).j none≠none:=by
 intro fuel
 induction fuel with
 |zero=>intro i perturb j _ e;cases e
 |succ fuel ih=>
  intro i perturb j hi e
  have r1:=aDv mask i
  have r2:=aDw hi
  unfold iC at e
  split at e
  ·rename_i k hq
   cases e
   obtain⟨a1,a2,a3⟩:=List.find?_range_eq_some.mp hq
   have hk:=lf.mp a2
   refine⟨by omega,?_,k,?_,fun k' hk'=>?_⟩
   ·rw[so (by omega) none (some 0)];simpa using a1
   ·rw[yG mask i perturb k (by omega)]
   ·rw[yG mask i perturb k' (by omega)]
    show ow.getD (i+k') none≠none
    have:=a3 k' hk'
    rw[so (by omega) none (some 0)]
    intro z;rw[z] at this;simp at this
  ·rename_i hq
   have hall:=List.find?_range_eq_none.mp hq
   have e':iC mask ow fuel (iF mask i perturb).1 (perturb / 32)=some j:=e
   obtain⟨b1,b2,k,b3,b4⟩:=ih _ _ _ (yE mask i perturb) e'
   have hl:=yF mask _ (eE mask i perturb) rfl rfl
   refine⟨b1,b2,(fe mask i - i+1)+k,?_,fun k' hk'=>?_⟩
   ·rw[ph]
    rw[show aL mask (fe mask i - i+1) (eE mask i perturb)=eE mask (iF mask i perturb).1 (perturb / 32) from hl]
    exact b3
   ·by_cases hc:k'≤fe mask i - i
    ·rw[yG mask i perturb k' hc]
     show ow.getD (i+k') none≠none
     have:=hall k' (by omega)
     rw[so (by omega) none (some 0)]
     intro z;rw[z] at this;simp at this
    ·obtain⟨d,rfl⟩:∃d,k'=(fe mask i - i+1)+d:=⟨k' - (fe mask i - i+1),by omega⟩
     rw[ph,show aL mask (fe mask i - i+1) (eE mask i perturb)=eE mask (iF mask i perturb).1 (perturb / 32) from hl]
     exact b4 d (by omega)
noncomputable def sx (ow:Ow)(n:Nat):Prop:=∃ps:List Nat,ps.length=n∧∀j,ow.getD j none≠none→j∈ps
noncomputable def nH:Nat→Nat→Bool
 |0,i=>decide (i≤22)
 |c+1,i=>decide (i≤22)||nH c ((i*5+1) % 32)
theorem aDy:((c0 32).all fun i=>nH 9 i)=true:=by decide +kernel
theorem Gy {ow:Ow}(hs:ow.size=32){n:Nat}(hf:sx ow n)(hn:n≤5)(fuel:Nat){i:Nat}(hi:i≤22)(perturb:Nat):(iC 31 ow (fuel+1) i perturb).isSome=true:=by
 have hr:fe 31 i=i+9:=by unfold fe;rw[if_pos (by omega)]
 unfold iC
 split
 ·rfl
 ·rename_i hq
  exfalso
  have hall:=List.find?_range_eq_none.mp hq
  obtain⟨ps,h1,h2⟩:=hf
  have hsub:∀x∈(c0 10).map (i+·),x∈ps:=fun x hx=>by
   obtain⟨k,hk,rfl⟩:=aS.mp hx
   have hk:=lf.mp hk
   have:=hall k (by rw[hr];omega)
   refine h2 _ fun z=>?_
   rw[so (by omega) none (some 0)] at z
   rw[z] at this;simp at this
  have hnd:((c0 10).map (i+·)).Nodup:=by
   rw[List.nodup_iff_pairwise_ne,List.pairwise_map]
   exact List.nodup_range.imp fun h z=>h (Nat.add_left_cancel z)
  have:=Gx hnd hsub
  simp at this;omega
theorem Gz {ow:Ow}(fuel i perturb:Nat)(h:(iC 31 ow fuel (iF 31 i perturb).1 (perturb / 32)).isSome=true):(iC 31 ow (fuel+1) i perturb).isSome=true:=by
 unfold iC
 split
 ·rfl
 ·exact h
theorem aDz {ow:Ow}(hs:ow.size=32){n:Nat}(hf:sx ow n)(hn:n≤5):∀(c i fuel:Nat),nH c i=true→c<fuel→(iC 31 ow fuel i 0).isSome=true:=by
 intro c
 induction c with
 |zero=>
  intro i fuel h1 h2
  obtain⟨fuel,rfl⟩:∃n,fuel=n+1:=⟨fuel - 1,by omega⟩
  exact Gy hs hf hn fuel (by simpa [nH] using h1) 0
 |succ c ih=>
  intro i fuel h1 h2
  obtain⟨fuel,rfl⟩:∃n,fuel=n+1:=⟨fuel - 1,by omega⟩
  by_cases hi:i≤22
  ·exact Gy hs hf hn fuel hi 0
  ·refine Gz fuel i 0 ?_
   have:nH c ((i*5+1) % 32)=true:=by
    unfold nH at h1
    rw[decide_eq_false hi,Bool.false_or] at h1;exact h1
   exact ih _ fuel this (by omega)
theorem aDA {ow:Ow}(hs:ow.size=32){m:Nat}(hf:sx ow m)(hm:m≤5):∀(n fuel i perturb:Nat),perturb<32 ^ n→n+10≤fuel→i≤31→(iC 31 ow fuel i perturb).isSome=true:=by
 intro n
 induction n with
 |zero=>
  intro fuel i perturb h1 h2 h3
  have:perturb=0:=by simp at h1;omega
  subst this
  exact aDz hs hf hm 9 i fuel (dn.mp aDy i (lf.mpr (by omega))) (by omega)
 |succ n ih=>
  intro fuel i perturb h1 h2 h3
  obtain⟨fuel,rfl⟩:∃n,fuel=n+1:=⟨fuel - 1,by omega⟩
  exact Gz fuel i perturb (ih fuel _ _ (by rw[Nat.pow_succ] at h1;omega) (by omega) (yE 31 i perturb))
theorem aDB (h:Int):iG h<32 ^ 13:=by
 unfold iG
 have:h % (2 ^ 64:Int)<2 ^ 64:=Int.emod_lt_of_pos _ (by decide)
 have:(2:Int) ^ 64=18446744073709551616:=by decide
 have:(32:Nat) ^ 13=36893488147419103232:=by decide
 omega
theorem GA {k:Nat}:∀(l:List (Option Nat)) (j:Nat),l[j]? =some none→((l.set j (some k)).filterMap id).Perm (k::l.filterMap id)
 |x::l,0,h=>by
  obtain rfl:x=none:=by simpa using h
  simp
 |x::l,j+1,h=>by
  have ih:=GA (k:=k) l j (by simpa using h)
  cases x with
  |none=>simpa using ih
  |some y=>simpa using (ih.cons y).trans (.swap k y _)
structure sy (hs:List Int)(ow:Ow):Prop where
 size:ow.size=32
 perm:(ow.toList.filterMap id).Perm (c0 hs.length)
 few:sx ow hs.length
 reach:∀j k,ow.getD j none=some k→∃h,hs[k]? =some h∧pi (fun j=>ow.getD j none≠none) 31 h j
noncomputable def sB (acc:Option (Ow×Nat))(h:Int):Option (Ow×Nat):=do
 let (owner,k) ←acc
 let j ←iC 31 owner (pJ 31) (iG h % (31+1)) (iG h)
 pure (owner.setIfInBounds j (some k),k+1)
theorem aDC (hs:Array Int):sK 31 hs=(hs.toList.foldl sB (some (Array.replicate 32 none,0))).map (·.1):=by
 unfold sK
 rw[←Array.foldl_toList];rfl
theorem GB:∀(rest pre:List Int) (ow:Ow),sy pre ow→(pre++rest).length≤5→∃ow',rest.foldl sB (some (ow,pre.length))=some (ow',(pre++rest).length)∧sy (pre++rest) ow'
 |[],pre,ow,I,_=>⟨ow,by simp,by simpa using I⟩
 |h::rest,pre,ow,I,hl=>by
  have hpre:pre.length≤4:=by simp at hl;omega
  have hsome:=aDA I.size I.few (by omega) 13 (pJ 31) (iG h % (31+1)) (iG h) (aDB h) (by decide) (by omega)
  obtain⟨j,hj⟩:=Option.isSome_iff_exists.mp hsome
  obtain⟨a1,a2,k,a3,a4⟩:=aDx I.size _ _ _ _ (by omega) hj
  have hjs:j<ow.size:=by rw[I.size];omega
  have hget:∀j',(ow.setIfInBounds j (some pre.length)).getD j' none=if j=j' then some pre.length else ow.getD j' none:=fun j'=>by
   by_cases hj':j=j'
   ·subst hj';simp [mw,hjs]
   ·rw[if_neg hj']
    simp only[Array.getD_eq_getD_getElem?]
    rw[Array.getElem?_setIfInBounds_ne hj']
  have hocc:∀j',ow.getD j' none≠none→(ow.setIfInBounds j (some pre.length)).getD j' none≠none:=fun j' hq=>by
   rw[hget];split
   ·simp
   ·exact hq
  have I':sy (pre++[h]) (ow.setIfInBounds j (some pre.length)):=by
   refine⟨by rw[Array.size_setIfInBounds];exact I.size,?_,?_,?_⟩
   ·rw[Array.toList_setIfInBounds]
    refine(GA _ _ ?_).trans ?_
    ·rw[jd,iA hjs]
     have:ow.getD j none=ow[j]:=by simp [mw,hjs]
     rw[←this,a2]
    ·rw[aG,y0,List.range_succ]
     exact(I.perm.cons _).trans (List.perm_append_singleton _ _).symm
   ·obtain⟨ps,h1,h2⟩:=I.few
    refine⟨j::ps,by simp [h1],fun j' hq=>?_⟩
    rw[hget] at hq
    split at hq
    ·rename_i z;subst z;exact .head _
    ·exact .tail _ (h2 j' hq)
   ·intro j' k' hq
    rw[hget] at hq
    split at hq
    ·rename_i z
     subst z
     cases hq
     refine⟨h,by simp,k,a3,fun k' hk'=>hocc _ (a4 k' hk')⟩
    ·obtain⟨h',b1,b2⟩:=I.reach j' k' hq
     refine⟨h',?_,b2.mono hocc⟩
     rw[List.getElem?_append_left (fG.mp b1).1];exact b1
  obtain⟨ow',e1,e2⟩:=GB rest (pre++[h]) _ I' (by simpa using hl)
  refine⟨ow',?_,by simpa using e2⟩
  rw[List.foldl_cons]
  have hst:sB (some (ow,pre.length)) h=some (ow.setIfInBounds j (some pre.length),(pre++[h]).length):=by
   unfold sB
   show (iC 31 ow (pJ 31) (iG h % (31+1)) (iG h)).bind _= _
   rw[hj]
   simp
  rw[hst,e1]
  simp
theorem aDD:sy [] (Array.replicate 32 none) where
 size:=by simp
 perm:=by decide
 few:=⟨[],rfl,fun j h=>by simp [mw] at h⟩
 reach:=fun j k h=>by simp [mw] at h
noncomputable def pj (t:bB)(es:List (Int×Value)):Prop:=∀q∈t.place.toList.zip es,pi (·∈t.place.toList) t.mask q.2.1 q.1
theorem GC {β:Type}{f:Nat→Option β}:∀(live:List (Nat×Nat)),(∀q∈live,∃e,f q.2=some e)→∀x∈(live.map (·.1)).zip ((live.map (·.2)).filterMap f),∃q∈live,x.1=q.1∧f q.2=some x.2
 |[],_,x,h=>by simp at h
 |q::live,hall,x,h=>by
  obtain⟨e,he⟩:=hall q (.head _)
  rw[mm,mm,List.filterMap_cons_some he,List.zip_cons_cons] at h
  rcases bC.mp h with rfl|h
  ·exact⟨q,.head _,rfl,he⟩
  ·obtain⟨q',h1,h2⟩:=GC live (fun q hq=>hall q (.tail _ hq)) x h
   exact⟨q',.tail _ h1,h2⟩
theorem aDE {β:Type}(es:Array β):(c0 es.size).filterMap (es[·]?)=es.toList:=by
 have:∀n,n≤es.size→(c0 n).filterMap (es[·]?)=es.toList.take n:=by
  intro n
  induction n with
  |zero=>intro _;simp
  |succ n ih=>
   intro h
   rw[List.range_succ,List.filterMap_append,ih (by omega)]
   have hn:es[n]? =some es[n]:=iA (by omega)
   rw[List.take_add_one]
   simp [hn]
 rw[this _ (aT _),yX (by simp)]
theorem aDF {t:bB}{es:Array (Int×Value)}(h5:es.size=5):∃t' order,t.relaid (es.map (·.1)) (iE 5)=some (t',order)∧t'.mask=31∧t'.led=t.led∧dl t'∧t'.place.size=5∧(order.filterMap (es[·]?)).toList.Perm es.toList∧pj t' (order.filterMap (es[·]?)).toList:=by
 have hsz:SetTable.sizeAbove (iE 5) - 1=31:=by decide
 have hl:((es.map (·.1)).toList).length=5:=by simp [h5]
 obtain⟨ow,e1,I⟩:=GB (es.map (·.1)).toList [] _ aDD (by simp [h5])
 rw[List.nil_append] at e1 I
 have hc:sK 31 (es.map (·.1))=some ow:=by
  rw[aDC,show (some (Array.replicate 32 none,0):Option (Ow×Nat))=some (Array.replicate 32 none,([]:List Int).length) from rfl,e1];rfl
 generalize hlive:(c0 32).filterMap (fun j=>(ow.getD j none).map (j,·))=live
 have hlaid:pL 31 t.finger (t.movedTo 31) t.led t.plain (es.map (·.1))=some ({mask:=31,place:=(live.map (·.1)).toArray,dummies:=#[],finger:=t.finger,led:=t.led,moves:=t.movedTo 31,plain:=t.plain},(live.map (·.2)).toArray):=by
  unfold pL
  rw[hc]
  subst hlive
  rfl
 have hmem:∀j k,(j,k)∈live↔ow.getD j none=some k:=fun j k=>by
  subst hlive
  rw[List.mem_filterMap]
  constructor
  ·rintro⟨j',hj',e⟩
   cases hq:ow.getD j' none with
   |none=>rw[hq] at e;cases e
   |some k'=>rw[hq] at e;cases e;exact hq
  ·intro e
   have hj:j<32:=by
    rw[←I.size]
    by_cases hj:j<ow.size
    ·exact hj
    ·simp [mw,hj] at e
   exact⟨j,lf.mpr hj,by rw[e];rfl⟩
 have hsnd:live.map (·.2)=ow.toList.filterMap id:=by
  have hto:ow.toList=(c0 32).map fun j=>ow.getD j none:=by
   refine List.ext_getElem (by simp [I.size]) fun j h1 h2=>?_
   have hj:j<ow.size:=by simpa using h1
   simp [mw,hj]
  subst hlive
  rw[hto,List.filterMap_map,List.map_filterMap]
  congr 1
  funext j
  show _=id (ow.getD j none)
  cases ow.getD j none<;>rfl
 have hplace:∀j,j∈live.map (·.1)↔ow.getD j none≠none:=fun j=>by
  rw[aS]
  constructor
  ·rintro⟨⟨j',k⟩,h1,rfl⟩ z
   rw[(hmem _ _).mp h1] at z;cases z
  ·intro h
   cases hq:ow.getD j none with
   |none=>exact absurd hq h
   |some k=>exact⟨(j,k),(hmem _ _).mpr hq,rfl⟩
 have hperm:(live.map (·.2)).Perm (c0 5):=by
  rw[hsnd,←hl];exact I.perm
 have hord:∀q∈live,∃e,es[q.2]? =some e:=fun q hq=>by
  have:q.2∈c0 5:=hperm.mem_iff.mp (aS.mpr ⟨q,hq,rfl⟩)
  exact⟨es[q.2]'(by have:=lf.mp this;omega),iA _⟩
 have hll:live.length=5:=by have:=hperm.length_eq;simpa using this
 have hfm:((live.map (·.2)).toArray.filterMap (es[·]?)).toList=(live.map (·.2)).filterMap (es[·]?):=by simp
 refine⟨⟨31,(live.map (·.1)).toArray,#[],t.finger,t.led,t.movedTo 31,t.plain⟩,(live.map (·.2)).toArray,by unfold SetTable.relaid;rw[hsz];exact hlaid,rfl,rfl,Gj hlaid,by simp [hll],?_,?_⟩
 ·rw[hfm]
  refine(hperm.filterMap _).trans (.of_eq ?_)
  rw[←h5];exact aDE es
 ·intro x hx
  rw[hfm] at hx
  obtain⟨q,h1,h2,h3⟩:=GC live hord x (by simpa using hx)
  obtain⟨h,a1,a2⟩:=I.reach q.1 q.2 ((hmem _ _).mp h1)
  rw[h2]
  have:h=x.2.1:=by
   have h4:(es.map (·.1)).toList[q.2]? =some x.2.1:=by
    rw[jd,Array.getElem?_map,h3];rfl
   rw[h4] at a1;exact(a8 a1).symm
  subst this
  exact a2.mono fun j hj=>by
   show j∈(live.map (·.1)).toArray.toList
   simpa using (hplace j).mpr hj
theorem aDG {t:bB}{es:Array (Int×Value)}{h:Int}{x:Value}{k:Nat}(R:pj t es.toList)(hs:t.place.size=es.size)(hk:∀k',k'<k→(aL t.mask k' (bo t.mask h)).j∈t.place.toList)(hp:cA t.place (aL t.mask k (bo t.mask h)).j≤t.place.size):
 pj (t.put (aL t.mask k (bo t.mask h)).j).1 (nW es (t.put (aL t.mask k (bo t.mask h)).j).2 (h,x)).toList:=by
 intro q hq
 have hm:∀j,j∈t.place.toList→j∈(t.put (aL t.mask k (bo t.mask h)).j).1.place.toList:=fun j hj=>aCM.mpr (.inl hj)
 have e1:(t.put (aL t.mask k (bo t.mask h)).j).1.place.toList=t.place.toList.take (cA t.place (aL t.mask k (bo t.mask h)).j)++(aL t.mask k (bo t.mask h)).j::t.place.toList.drop (cA t.place (aL t.mask k (bo t.mask h)).j):=by
  show (nW t.place (cA t.place _) _).toList= _
  rw[SetTable.toList_insertAt]
 have e2:(nW es (t.put (aL t.mask k (bo t.mask h)).j).2 (h,x)).toList=es.toList.take (cA t.place (aL t.mask k (bo t.mask h)).j)++(h,x)::es.toList.drop (cA t.place (aL t.mask k (bo t.mask h)).j):=by
  rw[SetTable.toList_insertAt];rfl
 have hmask:(t.put (aL t.mask k (bo t.mask h)).j).1.mask=t.mask:=rfl
 rw[hmask]
 have hq':q=((aL t.mask k (bo t.mask h)).j,(h,x))∨q∈t.place.toList.zip es.toList:=by
  rw[e1,e2,List.zip_append (by simp;omega),List.zip_cons_cons] at hq
  have hz:t.place.toList.zip es.toList=(t.place.toList.zip es.toList).take (cA t.place (aL t.mask k (bo t.mask h)).j)++(t.place.toList.zip es.toList).drop (cA t.place (aL t.mask k (bo t.mask h)).j):=(pz _ _).symm
  rcases cY.mp hq with hq|hq
  ·rw[y3,←List.take_zipWith,←y3] at hq
   exact .inr (List.mem_of_mem_take hq)
  ·rcases bC.mp hq with rfl|hq
   ·exact .inl rfl
   ·rw[y3,←List.drop_zipWith,←y3] at hq
    exact .inr (List.mem_of_mem_drop hq)
 rcases hq' with rfl|hq'
 ·exact⟨k,rfl,fun k' hk'=>hm _ (hk k' hk')⟩
 ·exact(R q hq').mono hm
section
variable {prog:Program}{w:World}{A:Around}{E:Value→Shared→Prop}{s:Shared}
theorem aDH {a:Addr}{vs:List Value}{n:Nat}{p:Array Nat}{P:PySem.Fin→Shared→Prop}(ho:s.heap.get? a=some (cp "list" vs.toArray n))(h2:2≤vs.length)(h64:vs.length<64)
 (hk:∀(h':Heap) (Q:Array Nat→Shared→Prop),(∀b o,b≠a→s.heap.get? b=some o→h'.get? b=some o)→Q p {s with heap:=h'}→
  wpAny (model prog w) A (keyKind' vs.toArray) (fun κ s'=>(kas_sort vs.length).kasWp (kas_ask prog w A κ vs) Q s') (fun _ _=>False) {s with heap:=h'})
 (h:∀(h':Heap) (c:Nat),(∀b o,b≠a→s.heap.get? b=some o→h'.get? b=some o)→h'.get? a=some (cp "list" (List.toArray (p.toList.map fun i=>vs.getD i jn)) c)→P (.done (.ret .none)) {s with heap:=h'}):
 wpAny (model prog w) A (fJ.«list.sort» ⟨[.ref a],[]⟩) P E s:=by
 have ha:a<s.heap.objs.size:=fI ho
 obtain⟨e1,ho1⟩:∃e1,(s.heap.update a (fP fun _=>(#[]:Array Value))).get? a=some (cp "list" #[] e1):=⟨_,get?_update_seq ho fun _=>#[]⟩
 have ho3:(((s.heap.update a (fP fun _=>(#[]:Array Value))).push (cp "tuple" vs.toArray 0)).push (cp "list" #[] 0)).get? a=some (cp "list" #[] e1):=bH _ (bH _ ho1)
 have hkeep:∀b o,b≠a→s.heap.get? b=some o→(((s.heap.update a (fP fun _=>(#[]:Array Value))).push (cp "tuple" vs.toArray 0)).push (cp "list" #[] 0)).get? b=some o:=fun b o hb e=>
  bH _ (bH _ ((l8 _ _ (gW hb)).trans e))
 rw[list_sort_plain]
 refine ag (listItems_at ho rfl ?_)
 refine ag (listUpdate_at ho rfl ?_ (by rw[jg,ff];omega) (bz _))
 refine ag (seqEpoch_at ho1 rfl ?_)
 refine ag (wpAny_newTuple ?_ (by show vs.length≤_;rw[ff];omega))
 refine ag (wpAny_newList ?_ (bz _))
 refine dR ?_
 show wpAny (model prog w) A _ P E {s with heap:=((s.heap.update a (fP fun _=>(#[]:Array Value))).push (cp "tuple" vs.toArray 0)).push (cp "list" #[] 0)}
 generalize ((s.heap.update a (fP fun _=>(#[]:Array Value))).push (cp "tuple" vs.toArray 0)).push (cp "list" #[] 0)=h3 at ho3 hkeep
 dsimp only
 have hn2:¬vs.toArray.size<2:=by rw[jg];omega
 rw[if_neg hn2,if_neg hn2]
 refine ag (cZ (hk h3 (fun q s'=>q=p∧s'={s with heap:=h3}) hkeep ⟨rfl,rfl⟩) (fun κ s0 hk=>?_) fun _ _ x=>x.elim)
 refine ag (cZ (kat_run (Q:=fun st' s'=>∃q:Array Nat,q.size=vs.length∧arrOf st'=q.map (kas_item (vs.toArray.zip vs.toArray))∧failedOf st'=none∧q=p∧s'={s with heap:=h3})
  rfl h2 h64 (fun p' st' s' a1 a2 a3 a4=>⟨p',a1,a2,a3,a4⟩) hk) ?_ fun _ _ e=>e)
 rintro⟨⟨⟩,st'⟩ s' ⟨q,hp,har,hf,rfl,rfl⟩
 dsimp only
 have hout:=kat_snds rfl har
 have hsz:(List.toArray (q.toList.map fun i=>vs.getD i jn)).size=vs.length:=by rw[jg,aB,fH,hp]
 rw[hout]
 obtain⟨c2,hc2⟩:∃c2,(h3.update a (fP fun _=>List.toArray (q.toList.map fun i=>vs.getD i jn))).get? a=some (cp "list" (List.toArray (q.toList.map fun i=>vs.getD i jn)) c2):=⟨_,get?_update_seq ho3 fun _=>List.toArray (q.toList.map fun i=>vs.getD i jn)⟩
 refine ag (seqEpoch_at ho3 rfl ?_)
 refine ag (listUpdate_at ho3 rfl ?_ (bz _) (ai (bg hsz) (by rw[ff];omega)))
 rw[hf]
 simp only[bne_self_eq_false,jf,if_false]
 exact ak (h _ c2 (fun b o hb e=>(l8 _ _ (gW hb)).trans (hkeep b o hb e)) hc2)
end
section
variable {prog:Program}{w:World}{A:Around}{E:Value→Shared→Prop}{s:Shared}{γ:RM}
theorem aDI {a:Addr}{v:Value}{n:Nat}{P:PySem.Fin→Shared→Prop}(ho:s.heap.get? a=some (cp "list" [v].toArray n))
 (h:∀(h':Heap) (c:Nat),(∀b o,b≠a→s.heap.get? b=some o→h'.get? b=some o)→h'.get? a=some (cp "list" [v].toArray c)→P (.done (.ret .none)) {s with heap:=h'}):
 wpAny (model prog w) A (fJ.«list.sort» ⟨[.ref a],[]⟩) P E s:=by
 have ha:a<s.heap.objs.size:=fI ho
 obtain⟨e1,ho1⟩:∃e1,(s.heap.update a (fP fun _=>(#[]:Array Value))).get? a=some (cp "list" #[] e1):=⟨_,get?_update_seq ho fun _=>#[]⟩
 have ho3:(((s.heap.update a (fP fun _=>(#[]:Array Value))).push (cp "tuple" [v].toArray 0)).push (cp "list" #[] 0)).get? a=some (cp "list" #[] e1):=bH _ (bH _ ho1)
 have hkeep:∀b o,b≠a→s.heap.get? b=some o→(((s.heap.update a (fP fun _=>(#[]:Array Value))).push (cp "tuple" [v].toArray 0)).push (cp "list" #[] 0)).get? b=some o:=fun b o hb e=>
  bH _ (bH _ ((l8 _ _ (gW hb)).trans e))
 rw[list_sort_plain]
 refine ag (listItems_at ho rfl ?_)
 refine ag (listUpdate_at ho rfl ?_ (by rw[jg,ff];simp) (bz _))
 refine ag (seqEpoch_at ho1 rfl ?_)
 refine ag (wpAny_newTuple ?_ (by show 1≤_;rw[ff];omega))
 refine ag (wpAny_newList ?_ (bz _))
 refine dR ?_
 show wpAny (model prog w) A _ P E {s with heap:=((s.heap.update a (fP fun _=>(#[]:Array Value))).push (cp "tuple" [v].toArray 0)).push (cp "list" #[] 0)}
 generalize ((s.heap.update a (fP fun _=>(#[]:Array Value))).push (cp "tuple" [v].toArray 0)).push (cp "list" #[] 0)=h3 at ho3 hkeep
 dsimp only
 have hn2:[v].toArray.size<2:=by simp
 rw[if_pos hn2,if_pos hn2]
 refine ag (ak ?_)
 rw[StateT.run_pure]
 refine ag (ak ?_)
 dsimp only
 obtain⟨c2,hc2⟩:∃c2,(h3.update a (fP fun _=>[v].toArray)).get? a=some (cp "list" [v].toArray c2):=⟨_,get?_update_seq ho3 fun _=>[v].toArray⟩
 refine ag (seqEpoch_at ho3 rfl ?_)
 have e:Array.map (fun x:Keyed=>x.2) (arrOf (SortSt.mk' general' ([v].toArray.zip [v].toArray) #[] 7 none))=[v].toArray:=by
  show Array.map (fun x:Keyed=>x.2) ([v].toArray.zip [v].toArray)= _
  simp
 rw[e]
 refine ag (listUpdate_at ho3 rfl ?_ (bz _) (by rw[ff];simp))
 simp only[bne_self_eq_false,jf,if_false]
 refine ak ?_
 exact h _ c2 (fun b o hb e=>(l8 _ _ (gW hb)).trans (hkeep b o hb e)) hc2
end
end Mine.T
end
section
set_option autoImplicit false
set_option genInjectivity false
set_option genSizeOf false
open PySem PySem.W PyProof.Rows
namespace Mine.T
variable {Z:Bs}{γ:RM}{s:Shared}{A:Around}{E:Value→Shared→Prop}{k:Nat}{o:Ordering}
noncomputable def nJ (Z:Bs)(γ:RM)(k:Nat)(d e:aa)(r:Bool):Prop:=
 ∀(v u:Value) (A:Around) (E:Value→Shared→Prop) (s:Shared) (Q:Value→Shared→Prop),Rd γ d v→Rd γ e u→b9 γ s.heap→A.units+64+k<cLine→Q (.bool r) s→wpAny Z.m A (richCompare .Lt v u) Q E s
structure hW (Z:Bs)(γ:RM)(k:Nat)(d e:aa)(o:Ordering):Prop where
 lt:nJ Z γ k d e (o== .lt)
 eq:mu d e=(o== .eq)
 od:eI d=true
 oe:eI e=true
theorem hW.eqIs {d e:aa}(h:hW Z γ k d e o){v u:Value}{Q:Bool→Shared→Prop}(rv:Rd γ d v)(ru:Rd γ e u)(F:b9 γ s.heap)(hu:A.units+64<cLine)(q:Q (o== .eq) s):wpAny Z.m A (eqBool v u) Q E s:=
 (Rd.reads F d v rv).elim fun as ra=>(Rd.reads F e u ru).elim fun bs rb=>SeqAt.eqAt_reads d e A s v u as bs ra rb (SeqAt.canLay_of_shaped h.od) (SeqAt.canLay_of_shaped h.oe) (SeqAt.room_of_shaped h.od hu) Z.prog Z.w E Q (h.eq.symm▸q)
noncomputable def jO (Z:Bs)(γ:RM)(k:Nat):List aa→List aa→Ordering→Prop
 |[],[],o=>o= .eq
 |[],_:: _,o=>o= .lt
 | _:: _,[],o=>o= .gt
 |v::vs,u::us,o=>∃o1 o2,o=Ordering.then o1 o2∧hW Z γ k v u o1∧jO Z γ k vs us o2
noncomputable def nK (Z:Bs)(γ:RM)(k:Nat)(o:Ordering)(n:Bool)(rest:List (Value×Value)):Prop:=
 ∃xs ys vs us,rest=List.zip vs us∧RdL γ xs vs∧RdL γ ys us∧jO Z γ k xs ys o∧decide (vs.length<us.length)=n
theorem aDJ {n:Bool}{xs ys:List aa}{vs us:List Value}(h:[]=List.zip vs us)(rv:RdL γ xs vs)(ru:RdL γ ys us)(c:jO Z γ k xs ys o):decide (vs.length<us.length)=(o== .lt):=by
 have lv:=RdL.length _ _ rv
 have lu:=RdL.length _ _ ru
 rw[lv,lu]
 cases xs with
 |nil=>cases ys with
  |nil=>rw[show o= _ from c];rfl
  |cons y ys=>rw[show o= _ from c];rfl
 |cons x xs=>cases ys with
  |nil=>rw[show o= _ from c];rfl
  |cons y ys=>
   cases vs with
   |nil=>cases lv
   |cons v vs=>cases us with
    |nil=>cases lu
    |cons u us=>cases h
theorem nK.nil {n:Bool}(h:nK Z γ k o n []):n=(o== .lt):=h.elim fun xs h=>h.elim fun ys h=>h.elim fun vs h=>h.elim fun us h=>h.2.2.2.2.symm.trans (aDJ (n:=n) h.1 h.2.1 h.2.2.1 h.2.2.2.1)
theorem RdL.cons_inv {x:aa}{xs:List aa}{v:Value}{vs:List Value}(h:RdL γ (x::xs) (v::vs)):Rd γ x v∧RdL γ xs vs:=by
 obtain⟨v',ws,e,h⟩:=h
 cases e
 exact h
theorem nK.cons {n:Bool}{p:Value×Value}{rest:List (Value×Value)}(h:nK Z γ k o n (p::rest)):∃x y o1 o2,o=Ordering.then o1 o2∧hW Z γ k x y o1∧Rd γ x p.1∧Rd γ y p.2∧nK Z γ k o2 n rest:=by
 refine h.elim fun xs h=>h.elim fun ys h=>h.elim fun vs h=>h.elim fun us h=>?_
 cases vs with
 |nil=>cases h.1
 |cons v vs=>cases us with
  |nil=>cases h.1
  |cons u us=>cases xs with
   |nil=>cases show _=[] from h.2.1
   |cons x xs=>cases ys with
    |nil=>cases show _=[] from h.2.2.1
    |cons y ys=>
     have e:=eH h.1
     have rv:=RdL.cons_inv h.2.1
     have ru:=RdL.cons_inv h.2.2.1
     exact h.2.2.2.1.elim fun o1 c=>c.elim fun o2 c=>⟨x,y,o1,o2,c.1,c.2.1,e.1▸rv.1,e.1▸ru.1,xs,ys,vs,us,e.2,rv.2,ru.2,c.2.2,h.2.2.2.2▸decide_eq_decide.mpr Nat.succ_lt_succ_iff.symm⟩
theorem aDK (a b:Value):fJ.«tuple.__lt__» ⟨[a,b],[]⟩=(do
 if !(←isInstance b (.type "tuple")) then return ←ret .notImplemented
 let xs ←yS a
 let ys ←yS b
 for (x,y) in xs.toList.zip ys.toList do
  if !(←eqBool x y) then
   rule "tuple.compare.by-the-first-pair-that-differs";return ←ret (←richCompare .Lt x y)
 ret (Builtin.Tuple.tupleCompareSizes .Lt xs.size ys.size)):=rfl
theorem GD {a b:Addr}{vs us:List Value}{xs ys:List aa}{P:PySem.Fin→Shared→Prop}(F:b9 γ s.heap)(hu:A.units+64+k<cLine)(ha:IsTup s.heap a vs.toArray)(hb:IsTup s.heap b us.toArray)(rv:RdL γ xs vs)(ru:RdL γ ys us)(hc:jO Z γ k xs ys o)(h:P (.done (.ret (.bool (o== .lt)))) s):
 wpAny Z.m A (fJ.«tuple.__lt__» ⟨[.ref a,.ref b],[]⟩) P E s:=by
 rw[aDK]
 refine ag (wpAny_isInstance hb.typeIs isSubtype_tuple_tuple ?_)
 refine ag (tupleItemsOf_ ha ?_)
 refine ag (tupleItemsOf_ hb ?_)
 refine ag ?_
 refine wpAny_forIn_list _ (fun rest r s'=>r.1=none∧s'=s∧∃o',nK Z γ k o' (decide (vs.length<us.length)) rest∧(o'== .lt)=(o== .lt)) _ (fun y rest r s' H=>?_) (fun r s' H=>?_) _ _ ⟨rfl,rfl,o,⟨xs,ys,vs,us,rfl,rv,ru,hc,rfl⟩,rfl⟩
 ·have es:=H.2.1
  subst es
  refine H.2.2.elim fun o' h'=>h'.1.cons.elim fun x h1=>h1.elim fun x' h1=>h1.elim fun o1 h1=>h1.elim fun o2 h1=>?_
  refine ag (h1.2.1.eqIs h1.2.2.1 h1.2.2.2.1 F (aX (aR _ k) hu) ?_)
  have e2:(Ordering.then o1 o2== .lt)=(o== .lt):=(congrArg (fun z:Ordering=>z== .lt) h1.1).symm.trans h'.2
  have h2:=h1.2.1.lt
  cases o1 with
  |eq=>exact ak ⟨rfl,rfl,o2,h1.2.2.2.2,e2⟩
  |lt=>
   refine ag (iH (ag (h2 _ _ _ _ _ _ h1.2.2.1 h1.2.2.2.1 F hu ?_)))
   rw[←e2] at h
   exact ag (ak (ak (ak h)))
  |gt=>
   refine ag (iH (ag (h2 _ _ _ _ _ _ h1.2.2.1 h1.2.2.2.1 F hu ?_)))
   rw[←e2] at h
   exact ag (ak (ak (ak h)))
 ·refine H.2.2.elim fun o' h'=>?_
  have es:=H.2.1
  subst es
  obtain⟨r1,r2⟩:=r
  obtain rfl:r1=none:=H.1
  have e:Builtin.Tuple.tupleCompareSizes .Lt vs.toArray.size us.toArray.size= .bool (o== .lt):=congrArg Value.bool (h'.1.nil.trans h'.2)
  exact ak (e▸h)
end Mine.T
end
section
set_option autoImplicit false
set_option genInjectivity false
set_option genSizeOf false
open PySem PySem.W PyProof.Rows Std
namespace Mine.T
open Mine.V
variable {Z:Bs}{γ:RM}{s:Shared}{A:Around}{E:Value→Shared→Prop}{k:Nat}{o:Ordering}
theorem GE {xs ys:List aa}(hc:jO Z γ k xs ys o):nJ Z γ (k+1) (.tuple xs) (.tuple ys) (o== .lt):=fun v u A E s Q ra rb F hu hq=>
 (bI F ra).elim fun a vs oa n ea ga ca da za rv=>(bI F rb).elim fun b us ob n' eb gb cb db zb ru=>by
  subst ea;subst eb
  have ta:IsTup s.heap a vs.toArray:=⟨oa,ga,ca,n,da⟩
  have tb:IsTup s.heap b us.toArray:=⟨ob,gb,cb,n',db⟩
  refine wpAny_richCompare_same_room (op:=.Lt) ta.typeIs tb.typeIs yY (kZ yY ta.typeIs PySem.F.entry_tuple_lt ?_ (PySem.F.args_tuple_lt_2 _ _)) (by omega)
  exact GD F (by rw[units_in1];omega) ta tb rv ru hc ⟨_,rfl,(fun e=>nomatch e),hq⟩
theorem nJ.up {d e:aa}{r:Bool}{k':Nat}(h:nJ Z γ k d e r)(l:k≤k'):nJ Z γ k' d e r:=fun v u A E s Q ra rb F hu=>h v u A E s Q ra rb F (aX (cy l _) hu)
theorem aDL (x y:Int):(compare x y== .lt)=decide (x<y):=jU.mpr (beq_iff_eq.trans (Int.compare_eq_lt.trans decide_eq_true_iff.symm))
theorem GF (x y:Int):hW Z γ k (.int x) (.int y) (compare x y) where
 lt:=fun v u A E s Q ra rb F hu hq=>ra.elim fun t e=>rb.elim fun t' e'=>by
  subst e;subst e'
  rw[aDL] at hq
  exact P.lt_int hq
 eq:=jU.mpr ((pW (.int x) (.int y) rfl rfl).trans (gU ⟨fun h=>PyData.int.inj h,fun h=>congrArg bv h⟩ (gU compare_eq_iff_eq.symm beq_iff_eq.symm)))
 od:=rfl
 oe:=rfl
theorem GG {xs ys:List aa}(hx:keyAll xs=true)(hy:keyAll ys=true)(h:eI (.tuple xs)=true∧eI (.tuple ys)=true)(he:xs=ys↔o= .eq)(hc:jO Z γ k xs ys o):hW Z γ (k+1) (.tuple xs) (.tuple ys) o where
 lt:=GE hc
 eq:=jU.mpr ((eqvAll_key xs ys hx hy).trans (he.trans beq_iff_eq.symm))
 od:=h.1
 oe:=h.2
theorem GH {α:Type}{f:α→aa}{c:α→α→Ordering}(h:∀x y,hW Z γ k (f x) (f y) (c x y))(xs:List α):∀ys:List α,jO Z γ k (xs.map f) (ys.map f) (jk c xs ys):=by
 induction xs with
 |nil=>exact fun ys=>by cases ys<;>rfl
 |cons x xs ih=>
  intro ys
  cases ys with
  |nil=>rfl
  |cons y ys=>
   exact⟨c x y,_,List.compareLex_cons_cons,h x y,ih ys⟩
theorem aDM (a b:List Int):hW Z γ 1 (be a) (be b) (jk compare a b):=
 GG (Kq.all (iy a)).1 (Kq.all (iy b)).1 ⟨nu (iy a),nu (iy b)⟩ (gU ⟨yk,congrArg aA⟩ LawfulEqCmp.compare_eq_iff_eq.symm) (GH GF a b)
theorem hW.up {d e:aa}{k':Nat}(h:hW Z γ k d e o)(l:k≤k'):hW Z γ k' d e o:=⟨h.lt.up l,h.eq,h.od,h.oe⟩
theorem GJ {a b:List Int×Int}(h:dw a=dw b):a=b:=
 have h:=eH (PyData.tuple.inj h)
 Prod.ext (yk (PyData.tuple.inj h.1)) (PyData.int.inj (eH h.2).1)
theorem aDN (a b:List Int×Int):hW Z γ 2 (dw a) (dw b) (ig a b):=
 have:=zi
 GG (Kq.all (dD (P:=Kq 2) (.ints _) .int)).1 (Kq.all (dD (P:=Kq 2) (.ints _) .int)).1 ⟨nu (dD (P:=Kq 63) (.ints _) .int),nu (dD (P:=Kq 63) (.ints _) .int)⟩
  (gU ⟨fun h=>GJ (congrArg nU h),fun h=>h▸rfl⟩ LawfulEqCmp.compare_eq_iff_eq.symm)
  ⟨_,_,rfl,aDM a.1 b.1,_,_,(by cases compare a.2 b.2<;>rfl),(GF a.2 b.2).up (bz 1),rfl⟩
theorem GK {a b:ae}(h:aQ a=aQ b):a=b:=xQ (P:=fun _=>True) (fun _ _ _ _=>GJ) a (fun _ _=>trivial) (fun _ _=>trivial) (PyData.tuple.inj h)
theorem yI (a b:ae):jO Z γ 2 (a.map dw) (b.map dw) (gX a b):=GH aDN a b
theorem aDO (a b:ae):nJ Z γ 3 (aQ a) (aQ b) (gX a b== .lt):=GE (yI a b)
variable {x y:ae}{v u:Value}{Q:Bool→Shared→Prop}
theorem aDP {Q:Value→Shared→Prop}(h1:Rd γ (aQ x) v)(h2:Rd γ (aQ y) u)(hF:b9 γ s.heap)(hu:A.units+80<cLine)(h:Q (.bool (gX x y== .lt)) s):wpAny Z.m A (call (.builtin "tuple.__lt__") [v,u]) Q E s:=
 (bI hF h1).elim fun a vs oa n ea ga ca da za rv=>(bI hF h2).elim fun b us ob n' eb gb cb db zb ru=>by
  subst ea;subst eb
  have ta:IsTup s.heap a vs.toArray:=⟨oa,ga,ca,n,da⟩
  refine kZ yY ta.typeIs PySem.F.entry_tuple_lt ?_ (PySem.F.args_tuple_lt_2 _ _)
  exact GD hF (by rw[units_in1];omega) ta ⟨ob,gb,cb,n',db⟩ rv ru (yI x y) ⟨_,rfl,h⟩
theorem GM (b:Bool)(h1:Rd γ (aQ x) v)(h2:Rd γ (aQ y) u)(hF:b9 γ s.heap)(hu:A.units+80<cLine)(h:Q (gX x y== .lt) s):wpAny Z.m A (oneLt' b v u) Q E s:=by
 rw[oneLt'_eq]
 cases b with
 |false=>exact ag (aDO x y _ _ _ _ _ _ h1 h2 hF (by omega) (nV h))
 |true=>
  refine ag (wpAny_cRoomFor_or (.inr (by omega)) ?_)
  refine(bI hF h1).elim fun a vs oa n ea ga ca da za rv=>?_
  subst ea
  exact ag (wpAny_callSpecialIfBound?_slot (IsTup.typeIs ⟨oa,ga,ca,n,da⟩) yY (aDP h1 h2 hF hu (nV h)))
theorem aDQ {fin:Bool}(hF:b9 γ s.heap)(hu:A.units+80<cLine)(hk:k≤8)(xs:List aa):∀(ys:List aa) (i:Nat) (vs us:List Value) (o:Ordering),RdL γ xs vs→RdL γ ys us→jO Z γ k xs ys o→decide (xs.length<ys.length)=fin→Q (o== .lt) s→KatLex Z.prog Z.w A false fin Q (vs.zip us) i s:=by
 induction xs with
 |nil=>
  intro ys i vs us o rv ru c hf h
  rw[show vs=[] from rv]
  cases ys with
  |nil=>subst hf;rw[show o= _ from c] at h;exact h
  |cons y ys=>subst hf;rw[show o= _ from c] at h;exact kat_nil h
 |cons x xs ih=>
  intro ys i vs us o rv ru c hf h
  cases ys with
  |nil=>subst hf;rw[show o= _ from c] at h;rw[show us=[] from ru,List.zip_nil_right];exact kat_nil h
  |cons y ys=>
   refine rv.elim fun v rv=>rv.elim fun vt rv=>ru.elim fun u ru=>ru.elim fun ut ru=>c.elim fun o1 c=>c.elim fun o2 c=>?_
   rw[rv.1,ru.1]
   rw[c.1] at h
   refine kat_cons (c.2.1.eqIs rv.2.1 ru.2.1 hF (by omega) ?_)
   have hl:=c.2.1.lt
   cases o1 with
   |eq=>exact kat_yes (ih ys (i+1) vt ut o2 rv.2.2 ru.2.2 c.2.2 ((decide_eq_decide.mpr Nat.succ_lt_succ_iff.symm).trans hf) h)
   |lt=>exact kat_no (by rw[Bool.false_and,oneLt'_eq];exact ag (hl _ _ _ _ _ _ rv.2.1 ru.2.1 hF (by omega) (nV h)))
   |gt=>exact kat_no (by rw[Bool.false_and,oneLt'_eq];exact ag (hl _ _ _ _ _ _ rv.2.1 ru.2.1 hF (by omega) (nV h)))
theorem aDR (h1:Rd γ (aQ x) v)(h2:Rd γ (aQ y) u)(hF:b9 γ s.heap)(hu:A.units+80<cLine)(h:Q (gX x y== .lt) s):wpAny Z.m A (keyLt' (tuples' false) v u) Q E s:=
 (bI hF h1).elim fun a vs oa n ea ga ca da za rv=>(bI hF h2).elim fun b us ob n' eb gb cb db zb ru=>by
  subst ea;subst eb
  refine kat_lt ga da gb db ?_
  have:=aDQ (Z:=Z) hF hu (by decide) _ _ 0 vs us _ rv ru (yI x y) rfl h
  rw[←RdL.length _ _ rv,←RdL.length _ _ ru] at this
  exact this
end Mine.T
namespace Mine.T
open Mine.V
variable {Z:Bs}{γ:RM}{s:Shared}{A:Around}{E:Value→Shared→Prop}{v:Value}{xs:List aa}
theorem yJ {M:Model}{h:Heap}(hF:b9 γ h)(r:Rd γ (.tuple xs) v):Looks M h (typeOf v) (fM "tuple"):=
 (bI hF r).elim fun a vs oa n ea ga ca da za rv=>ea▸ca▸(Looks.ld ga).andThen .now
noncomputable abbrev yK (Z:Bs)(h:Heap)(v:Value):Prop:=Looks Z.m h (typeOf v) (fM "tuple")
theorem aDS (hF:b9 γ s.heap)(fs:List ae):∀(vs:List Value) {Q:List (Option Value)→Shared→Prop},RdL γ (ch fs) vs→
 (∀outs:List (Option Value),outs.length=fs.length→(∀x,some x∈outs→yK Z s.heap x)→Q outs s)→wpAny Z.m A (vs.mapM firstOfTuple') Q E s:=by
 induction fs with
 |nil=>exact fun vs Q r h=>by rw[show vs=[] from r,List.mapM_nil];exact ak (h [] rfl fun x hx=>(aJ hx).elim)
 |cons f fs ih=>
  intro vs Q r h
  refine r.elim fun v r=>r.elim fun vt r=>?_
  rw[r.1,List.mapM_cons]
  refine ag ?_
  rw[kas_first_eq]
  refine ag (Looks.here (yJ hF r.2.1) ?_)
  refine(bI hF r.2.1).elim fun a us oa n ea ga ca da za rv=>?_
  rw[ea]
  refine ag (listItems_at ga da (ak ?_))
  refine ag (ih vt r.2.2 fun outs h1 h2=>ak (h _ (congrArg (·+1) h1) fun x hx=>(bC.mp hx).elim (fun e=>?_) (h2 x)))
  cases f with
  |nil=>rw[show us=[] from rv] at e;cases e
  |cons e' f=>
   refine rv.elim fun w rv=>rv.elim fun wt rv=>?_
   rw[rv.1] at e
   cases e
   exact yJ hF rv.2.1
theorem GN (l:List Value)(hne:l≠[])(hl:∀v∈l,yK Z s.heap v){Q:Option Value→Shared→Prop}(h:Q (some (fM "tuple")) s):wpAny Z.m A (oneTypeOnly' l.toArray) Q E s:=by
 rw[oneTypeOnly'_eq,List.mapM_toArray,map_eq_pure_bind]
 refine ag (ag (kas_mapM (r:=fM "tuple") _ (fun v hv Q' hq=>(hl v hv).here hq) (ak ?_)))
 cases l with
 |nil=>exact(hne rfl).elim
 |cons x r=>
  have hall2:((jY (fun _=>fM "tuple") (x::r)).toArray.all fun t=>t==fM "tuple")=true:=by simp
  refine ak (?_:Q (if ((jY (fun _=>fM "tuple") (x::r)).toArray.all fun t=>t==fM "tuple")=true then some (fM "tuple") else none) s)
  rw[if_pos hall2]
  exact h
theorem lZ {fs:List ae}{vs:List Value}(r:RdL γ (ch fs) vs){i:Nat}(hi:i<fs.length):Rd γ (aQ (fs.getD i [])) (vs.getD i jn):=
 (RdL.get _ _ r (d:=aQ fs[i]) ((f9 ..).trans (congrArg (gD aQ) (iB hi)))).elim fun v h=>by
  rw[List.getD_eq_getElem?_getD,List.getD_eq_getElem?_getD,h.1,iB hi];exact h.2
theorem aDT (hF:b9 γ s.heap)(hu:A.units+80<cLine){fs:List ae}{vs:List Value}(r:RdL γ (ch fs) vs)(hne:fs≠[]){Q:SortKind→Shared→Prop}
 (h:∀κ,(∀(i j:Nat) (C:Bool→Shared→Prop) (s':Shared),b9 γ s'.heap→i<fs.length→j<fs.length→C (gX (fs.getD i []) (fs.getD j [])== .lt) s'→kas_ask Z.prog Z.w A κ vs i j C s')→Q κ s):
 wpAny Z.m A (keyKind' vs.toArray) Q E s:=by
 have tups:∀v∈vs,yK Z s.heap v:=fun v hv=>(pD hv).elim fun i hi=>(RdL.get' _ _ r hi).elim fun d hd=>(aS.mp (pC hd.1)).elim fun f hf=>yJ hF (hf.2▸hd.2:Rd γ (aQ f) v)
 have hv:vs≠[]:=fun z=>hne (kR.mp ((aB ..).symm.trans ((RdL.length _ _ r).symm.trans (congrArg cI z))))
 rw[kat_kind_eq,List.mapM_toArray,map_eq_pure_bind]
 refine ag (ag (aDS hF fs vs r fun outs h1 h2=>ak ?_))
 by_cases hall:(outs.toArray.all fun x=>x.isSome)=true
 ·rw[if_pos hall]
  refine ag (iH ?_)
  rw[show outs.toArray.filterMap id=(outs.filterMap id).toArray by simp]
  refine ag (GN _ (fun e=>?_) (fun v hv=>h2 v ?_) (ak (h _ fun i j C s' hF' hi hj hC=>aDR (lZ r hi) (lZ r hj) hF' hu hC)))
  ·cases outs with
   |nil=>exact hne (kR.mp h1.symm)
   |cons o os=>
    simp at hall
    obtain⟨x,hx⟩:=Option.isSome_iff_exists.mp hall.1
    subst hx
    simp at e
  ·exact(List.mem_filterMap.mp hv).elim fun a ha=>ha.2▸ha.1
 ·rw[if_neg hall]
  split
  ·exact ak (h _ fun i j C s' hF' hi hj hC=>GM false (lZ r hi) (lZ r hj) hF' hu hC)
  ·exact ag (GN _ hv tups (ak (h _ fun i j C s' hF' hi hj hC=>GM true (lZ r hi) (lZ r hj) hF' hu hC)))
end Mine.T
namespace Mine.T
open Mine.V
variable {Z:Bs}{γ:RM}{s:Shared}{A:Around}{E:Value→Shared→Prop}{v:Value}{ds zs:List aa}
noncomputable abbrev pk (h h':Heap):Prop:=∀b o,h.get? b=some o→h'.get? b=some o
noncomputable def sC (Z:Bs)(γ:RM)(A:Around)(s:Shared)(v:Value)(P:List aa→Prop):Prop:=∀(E:Value→Shared→Prop) (Q:List Value→Shared→Prop),
 (∀h' dr tk vs ds,pk s.heap h'→RdL γ ds vs→P ds→Q vs {s with heap:=h',drawn:=dr,toks:=tk})→wpAny Z.m A (collect v) Q E s
noncomputable def nM (Z:Bs)(γ:RM)(A:Around)(ds zs:List aa):Prop:=∀(s:Shared) (E:Value→Shared→Prop) (a:Addr) (vs:List Value) (n:Nat) (P:PySem.Fin→Shared→Prop),b9 γ s.heap→γ a= .free→s.heap.get? a=some (cp "list" vs.toArray n)→RdL γ ds vs→
 (∀h' out c,(∀b o,b≠a→s.heap.get? b=some o→h'.get? b=some o)→h'.get? a=some (cp "list" out.toArray c)→RdL γ zs out→P (.done (.ret .none)) {s with heap:=h'})→wpAny Z.m A (fJ.«list.sort» ⟨[.ref a],[]⟩) P E s
noncomputable def pn (γ:RM)(s:Shared)(zs:List aa)(Q:Value→Shared→Prop):Prop:=∀(a:Addr) (h':Heap) (dr:Drawn) (tk:Nat) (out:List Value) (c:Nat),pk s.heap h'→s.heap.get? a=none→h'.get? a=some (cp "list" out.toArray c)→RdL γ zs out→Q (.ref a) {s with heap:=h',drawn:=dr,toks:=tk}
theorem GO {P:List aa→Prop}{Q:Value→Shared→Prop}(F:b9 γ s.heap)(V:∀a,s.heap.get? a=none→γ a= .free)(hc:sC Z γ A.in1 s v P)(hs:∀ds,P ds→ds.length≤4000∧nM Z γ A.in1.in1 ds zs)(h:pn γ s zs Q):
 wpAny Z.m A (call (.builtin "sorted") [v]) Q E s:=by
 refine Calls.call_function_entry kind_sorted plain_sorted entry_sorted (args_sorted1 _) ?_
 unfold fJ.«sorted»
 refine ag (m:=checkCount "sorted" 1 1 _) (ak ?_)
 refine ag (hc _ _ fun h' dr tk vs ds hk r hP=>?_)
 have hd:=hs ds hP
 refine ag (wpAny_newList ?_ (RdL.length _ _ r▸ai hd.1 (by decide)))
 have hoL:(h'.push (cp "list" vs.toArray 0)).get? h'.objs.size=some (cp "list" vs.toArray 0):=dH _ rfl
 have hno:s.heap.get? h'.objs.size=none:=qu hk (gw (aT _))
 have hkP:pk s.heap (h'.push (cp "list" vs.toArray 0)):=fun b o e=>bH _ (hk b o e)
 have hne:∀b o,s.heap.get? b=some o→b≠h'.objs.size:=fun b o e z=>by rw[z,hno] at e;cases e
 refine ag (dR (kZ slot_list_sort ⟨_,hoL,rfl⟩ entry_list_sort (hd.2 {s with heap:=h'.push (cp "list" vs.toArray 0),drawn:=dr,toks:=tk} _ h'.objs.size vs 0 _ (fun a o e=>hkP a o (F a o e)) (V _ hno) hoL r fun h₂ out c k1 k2 k3=>⟨_,rfl,?_⟩) (args_list_sort _)))
 exact ak ⟨_,rfl,h _ h₂ dr tk out c (fun b o e=>k1 b o (hne b o e) (hkP b o e)) hno k2 k3⟩
theorem GP (is:List Int):∀{vs:List Value},RdL γ (aA is) vs→IntsAre vs is:=by
 induction is with
 |nil=>exact fun h=>(show _=[] from h)▸ .nil
 |cons i is ih=>exact fun h=>h.elim fun v h=>h.elim fun vt h=>h.2.1.elim fun t e=>h.1▸e▸ .cons i t (ih h.2.2)
theorem GQ {vs:List Value}{is:List Int}(h:IntsAre vs is):RdL γ (aA is) vs:=by
 induction h with
 |nil=>rfl
 |cons i t _ ih=>exact⟨_,_,rfl,⟨t,rfl⟩,ih⟩
theorem aDU {ns ms:List Int}(p:ns.Perm ms)(h:ns.Pairwise (·≤·)):ns=a9 bn ms:=ti tj tm zh p (h.imp fun h=>decide_eq_true h)
theorem GR {is:List Int}(h64:is.length<64):nM Z γ A (aA is) (aA (a9 bn is)):=fun s E a vs n P F fa ho r h=>by
 have hI:=GP is r
 have hl:vs.length<64:=hI.length▸h64
 refine list_sort_tree ho hI hl fun out ns' a1 a2 a3=>?_
 refine(sortedHeap_at (out:=out) ho).elim fun c hc=>h _ out.toList c (fun b o hb e=>?_) (hc.trans (by rw[Array.toArray_toList])) (aDU a2 a3▸GQ a1)
 rw[sortedHeap_old hb (fI e)];exact e
theorem aDV {fs:List ae}{vs:List Value}(r:RdL γ (ch fs) vs)(l:List Nat):(∀i∈l,i<fs.length)→RdL γ (ch (l.map fun i=>fs.getD i [])) (l.map fun i=>vs.getD i jn):=by
 induction l with
 |nil=>exact fun _=>rfl
 |cons i l ih=>exact fun h=>⟨_,_,rfl,lZ r (h i (.head _)),ih fun j hj=>h j (.tail _ hj)⟩
theorem GS {fs:List ae}(hu:A.units+80<cLine)(hne:fs≠[])(h6:fs.length≤6)(hn:fs.Nodup):nM Z γ A (ch fs) (ch (a9 bw fs)):=fun s E a vs n P F fa ho r h=>by
 have hlen:vs.length=fs.length:=(RdL.length _ _ r).trans (aB ..)
 by_cases h2:2≤vs.length
 ·refine(Hs h6 hn).elim fun p hp=>?_
  refine aDH (p:=p) ho h2 (aX (hlen▸h6) (by decide)) (fun h₂ Q k1 hq=>?_) fun h₂ c k1 k2=>h h₂ _ c k1 k2 (hp.2.1▸aDV r _ hp.2.2)
  have hF:b9 γ h₂:=fun b o hb=>k1 b o (fun z=>by rw[z,fa] at hb;cases hb) (F b o hb)
  refine aDT (s:={s with heap:=h₂}) hF hu r hne fun κ hκ=>?_
  rw[hlen]
  exact zm (fun i j C hi hj hC=>hκ i j C _ hF hi hj hC) _ p hp.1 hq
 ·cases fs with
  |nil=>exact(hne rfl).elim
  |cons f fs=>
   have h1:fs=[]:=kR.mp (Nat.le_zero.mp (Nat.le_of_succ_le_succ (ai (bg hlen.symm) (Nat.le_of_lt_succ (Nat.not_le.mp h2)))))
   subst h1
   refine r.elim fun v r=>r.elim fun vt r=>?_
   have e:vs=[v]:=r.1.trans (congrArg (v::·) r.2.2)
   subst e
   exact aDI ho fun h₂ c k1 k2=>h h₂ [v] c k1 k2 ⟨v,[],rfl,r.2.1,rfl⟩
end Mine.T
namespace Mine.T
open Mine.V
variable {Z:Bs}{γ:RM}{s:Shared}{A:Around}{E:Value→Shared→Prop}{v:Value}{xs:List aa}
theorem GT {T:String}(hT:T="list"∨T="tuple")(x:fU T s.heap γ xs v):sC Z γ A s v (·=xs):=fun E Q k=>
 x.elim fun a vs o n e g c d z r=>e▸wpAny_collect_seq a hT g c d (fun h' hk=>k h' s.drawn s.toks vs xs hk r rfl) z
theorem aDW {kvs:List (Int×aa)}{us:List (Int×Value)}(hr:dA γ kvs us){acc:List Value}(hl:acc.length=us.length)(h:∀(i:Nat) v,acc[i]? =some v→∃k x,us[i]? =some (k,x)∧(bR Z.prog Z.w).is k v=true):RdL γ (kvs.map fun p=>.int p.1) acc:=by
 have key:∀(us:List (Int×Value)) (ks:List Int) (acc:List Value),us.map (·.1)=ks→acc.length=us.length→(∀(i:Nat) v,acc[i]? =some v→∃k x,us[i]? =some (k,x)∧(bR Z.prog Z.w).is k v=true)→RdL γ (aA ks) acc:=by
  intro us
  induction us with
  |nil=>intro ks acc e hl h;subst e;exact kR.mp hl
  |cons u us ih=>
   intro ks acc e hl h
   subst e
   cases acc with
   |nil=>cases hl
   |cons v acc=>
    refine⟨v,acc,rfl,?_,ih _ acc rfl (mo hl) fun i v hv=>h (i+1) v hv⟩
    refine(h 0 v rfl).elim fun k h=>h.elim fun x h=>?_
    have e:=a8 h.1
    rw[e]
    cases v with
    |int j t=>exact⟨t,by rw[of_decide_eq_true (show decide (j=k)=true from h.2)]⟩
    | _=>cases h.2
 exact(cD (g:=bv) (f:=gV) (l:=kvs))▸key us (kvs.map gV) acc hr.1 hl h
theorem aDX {kvs:List (Int×aa)}(hh:A.handled=none)(hl:kvs.length≤dJ)(x:iS Z s.heap γ kvs v):sC Z γ A s v (·=kvs.map fun p=>.int p.1):=fun E Q k=>
 x.elim fun a us e hs hat r=>e▸hat.dictAt.elim fun ep hat=>by
  have hul:=r.length
  refine kdu_collect (kdl_dict (by simpa using hs)) hh hat (hul▸hl) fun h' tk acc hk hI=>k h' s.drawn tk acc.toList _ hk (aDW r (fH.trans hI.1) fun i v e=>hI.2 i v (jd▸e)) rfl
end Mine.T
namespace Mine.T
open Mine.V
theorem yL {α:Type}{f:aa→Option α}{g:α→aa}(h:∀x y,f x=some y→x=g y)(xs:List aa):∀ys,jp f xs=some ys→xs=ys.map g:=by
 induction xs with
 |nil=>exact fun ys e=>a8 e▸rfl
 |cons x xs ih=>exact fun ys e=>(bG.mp e).elim fun y p=>(cC.mp p.2).elim fun zs q=>q.2▸kF List.cons (h x y p.1) (ih zs q.1)
theorem GU (x:aa)(i:Int)(e:cg x=some i):x= .int i:=by cases x<;>cases e;rfl
theorem oz {x:aa}{l:List aa}(e:jZ x=some l):x= .tuple l:=by cases x<;>cases e;rfl
theorem yM (xs:List aa)(is:List Int)(e:iL xs=some is):xs=aA is:=yL GU xs is e
theorem aDY (x:aa)(y:List Int×Int)(e:pR x=some y):x=dw y:=by
 refine(bG.mp e).elim fun l p=>?_
 have e1:=oz p.1
 have p:=p.2
 cases l with
 |nil=>cases p
 |cons a l=>cases l with
  |nil=>cases p
  |cons b l=>cases l with
   |cons c l=>cases p
   |nil=>
    refine(bG.mp p).elim fun xs q=>(bG.mp q.2).elim fun is q2=>(cC.mp q2.2).elim fun i q3=>?_
    rw[e1,←q3.2,oz q.1,yM _ _ q2.1,GU _ _ q3.1];rfl
theorem aDZ (x:aa)(f:ae)(e:ze x=some f):x=aQ f:=(bG.mp e).elim fun l p=>(oz p.1).trans (congrArg nU (yL aDY l f p.2))
theorem GV (xs:List aa)(fs:List ae)(e:pT xs=some fs):xs=ch fs:=yL aDZ xs fs e
section
variable {W:Wd}{f:Fc W}{C:Cp W f}{Q:Value→Shared→Prop}{v:Value}{p:PV}{xs ys:List aa}
theorem aEa (r:bL W.Z C.g.γ p v)(e:pP p=some xs)(hl:xs.length≤dJ):sC W.Z C.g.γ f.F.A.in1 C.s v (·=xs):=by
 cases p with
 |d x=>exact(lz e).elim (fun z=>by subst z;exact GT (.inl rfl) (bI C.sr.frz r)) fun z=>by subst z;exact GT (.inr rfl) (bI C.sr.frz r)
 |kd kvs=>
  cases e
  exact aDX f.ok.hd ((aB ..)▸hl) (oA r)
 |o k=>cases e
 |rg n=>cases e
theorem GW (hz:ys.length≤dJ)(h:aU f C Q (.d (.list ys))):pn C.g.γ C.s ys Q:=fun a h' dr tk out c hk ha ho r=>
 h.newA (s':={C.s with heap:=h',drawn:=dr,toks:=tk}) ha ho hk ⟨rfl,rfl⟩ fun γ' l e=>⟨a,_,rfl,e,out,c,rfl,rfl,RdL.length _ _ r▸hz,RdL.mono l.f _ _ r⟩
theorem hJ (is:List Int):(aA is).length=is.length:=aB ..
theorem aEb (r:bL W.Z C.g.γ p v)(e:pP p=some xs)(k:iM xs=some ys)(h:aU f C Q (.d (.list ys))):f.wp (call (.builtin "sorted") [v]) Q C.s:=by
 have go:xs.length≤4000→ys.length≤4000→nM W.Z C.g.γ f.F.A.in1.in1 xs ys→f.wp (call (.builtin "sorted") [v]) Q C.s:=fun h1 h2 h3=>
  GO C.sr.frz (fun a ha=>C.free ha) (aEa r e (ai h1 (by decide))) (fun ds hd=>hd▸⟨h1,h3⟩) (GW (ai h2 (by decide)) h)
 unfold iM at k
 cases hi:iL xs with
 |some is=>
  rw[hi] at k
  have q:=cG.mp k
  have e1:=yM _ _ hi
  have e2:=a8 q.2
  have l2:(a9 bn is).length≤4000:=(dy bn is).length_eq▸ai (eW q.1) (by decide)
  exact go (by rw[e1,hJ];exact ai (eW q.1) (by decide)) (by rw[←e2,hJ];exact l2) (e1▸e2▸GR q.1)
 |none=>
  rw[hi] at k
  refine(bG.mp k).elim fun fs q=>?_
  have q2:=cG.mp q.2
  have e1:=GV _ _ q.1
  have e2:=a8 q2.2
  have hne:fs≠[]:=fun z=>by rw[e1,z] at hi;cases hi
  have hu:=f.un
  exact go (by rw[e1,ch,aB];exact ai q2.1.1 (by decide)) (by rw[←e2,ch,aB,(dy bw fs).length_eq];exact ai q2.1.1 (by decide))
   (e1▸e2▸GS (show f.F.A.units+1+1+80<cLine by omega) hne q2.1.1 q2.1.2)
end
end Mine.T
end
section
set_option genInjectivity false
set_option genSizeOf false
open PySem PySem.W PyProof.Rows
namespace Mine.T
noncomputable def gP (e:Int×Value):Int:=match e.2 with
 | .int k _=>k
 | _=>0
noncomputable def yN (bt:Bool)(S:Addr)(xs:List Int)(i:Nat)(h:Heap):Prop:=
 ∃es,hU bt h S es∧(∀e∈es,∃k t,e=(hashInt k,.int k t))∧(es.map gP).Nodup∧(∀x,x∈es.map gP↔x∈xs.take i)∧es.length≤i
section
variable {prog:Program}{w:World}{A:Around}{E:Value→Shared→Prop}{s:Shared}{bt:Bool}
theorem hU.keep {h h':Heap}{a:Addr}{es:List (Int×Value)}(x:hU bt h a es)(hk:∀o,h.get? a=some o→h'.get? a=some o):hU bt h' a es:=
 let ⟨o,arr,ep,t,h1,r⟩:=x;⟨o,arr,ep,t,hk _ h1,r⟩
theorem aEc {es:List (Int×Value)}(h:∀e∈es,∃k t,e=(hashInt k,.int k t)):ElemsOf (bR prog w) es:=fun e he=>by
 obtain⟨k,t,rfl⟩:=h e he
 exact⟨⟨k,intKind_is _ _ _ _,rfl⟩,rfl⟩
theorem aEd {S:Addr}{xs:List Int}{i:Nat}{k:Int}{t:Tok}{Q:Bool→Shared→Prop}(hx:xs[i]? =some k)(hn:i+1<4000)(hI:yN bt S xs i s.heap)
 (h:∀b h' tk,s.toks≤tk→gv S s.heap h'→yN bt S xs (i+1) h'→Q b {s with heap:=h',toks:=tk}):
 wpAny (model prog w) A (setAdd S (.int k t)) Q E s:=by
 obtain⟨es,h1,h2,h3,h4,h5⟩:=hI
 unfold setAdd
 refine dR (ag ((bR prog w).pyHash (k:=k) (intKind_is _ _ _ _) ?_))
 refine add_int (s:={s with toks:=s.toks+1}) h1 (aEc h2) (by show _<4096;omega) fun h' es' b hsb hS hes=>?_
 refine h b h' _ (dI _) hsb ⟨es',hS,?_⟩
 have htake:∀x,x∈xs.take (i+1)↔x∈xs.take i∨x=k:=fun x=>by
  rw[List.take_succ,hx];simp
 split at hes
 ·rename_i hany
  subst hes
  obtain⟨e,he,hk⟩:=mj.mp hany
  refine⟨h2,h3,fun x=>?_,by omega⟩
  rw[htake,h4]
  refine⟨.inl,fun hx'=>hx'.elim id ?_⟩
  rintro rfl
  rw[←h4]
  obtain⟨k',t',rfl⟩:=h2 e he
  have:k'=x:=by simpa [bR,Value.isInt] using hk
  subst this
  exact aS.mpr ⟨_,he,rfl⟩
 ·rename_i hany
  have hp:(es'.map gP).Perm (es.map gP++[k]):=by
   have:=hes.map gP
   simpa [gP] using this
  have hnk:k∉es.map gP:=fun hm=>by
   obtain⟨e,he,hk⟩:=aS.mp hm
   refine hany (mj.mpr ⟨e,he,?_⟩)
   obtain⟨k',t',rfl⟩:=h2 e he
   have:k'=k:=hk
   subst this
   exact intKind_is _ _ _ _
  refine⟨fun e he=>?_,hp.nodup_iff.mpr ?_,fun x=>?_,?_⟩
  ·rcases cY.mp (hes.mem_iff.mp he) with he|he
   ·exact h2 e he
   ·rw[aM.mp he];exact⟨k,t,rfl⟩
  ·rw[pE]
   exact⟨h3,by simp,fun a ha b hb=>by rw[aM.mp hb];rintro rfl;exact hnk ha⟩
  ·rw[hp.mem_iff,htake,cY,h4,aM]
  ·have:=hes.length_eq
   rw[aG,y0] at this
   omega
end
end Mine.T
end
section
set_option autoImplicit false
set_option genInjectivity false
set_option genSizeOf false
open PySem PySem.W PyProof.Rows
namespace Mine.T
open Mine.V
section
variable {prog:Program}{w:World}{E:Value→Shared→Prop}
noncomputable abbrev hY (n:Nat)(k:aa):Prop:=gF k=true∧k.depth≤n
theorem hY.all {n:Nat}(xs:List aa):hY (n+1) (.tuple xs)→∀x∈xs,hY n x:=by
 induction xs with
 |nil=>exact fun _ x h=>(aJ h).elim
 |cons y ys ih=>exact fun h x hx=>
  have q:=aP.mp h.1
  have d:max y.depth (ml ys)≤n:=Nat.le_of_succ_le_succ h.2
  (bC.mp hx).elim (fun e=>e▸⟨q.1,ai (Nat.le_max_left _ _) d⟩) fun hx=>ih ⟨q.2,gS (ai (Nat.le_max_right _ _) d)⟩ x hx
noncomputable def kP (h:Heap)(n:Nat)(vs:List Value):Prop:=∀v∈vs,∃k as,hY n k∧Reads h v k as
theorem kP.all {h:Heap}{n:Nat}(xs:List aa):∀(vs:List Value) (as:List Addr),(∀x∈xs,hY n x)→ReadsAll h vs xs as→kP h n vs:=by
 induction xs with
 |nil=>
  intro vs as _ x
  cases x
  exact fun v h=>(aJ h).elim
 |cons y ys ih=>
  intro vs as hk x
  cases x with
  |cons x1 x2=>exact cx.mpr ⟨⟨y,_,hk y (.head _),x1⟩,ih _ _ (fun z hz=>hk z (.tail _ hz)) x2⟩
theorem sD {h:Heap}{n:Nat}{k:aa}{v:Value}{as:List Addr}{P:Prop}(hk:hY n k)(x:Reads h v k as)(hi:∀i t,v= .int i t→P)(hs:∀y t,v= .str y t→P)
 (ht:∀(m:Nat) (a:Addr) (o:Obj) (vs:Array Value) (z:Nat),n=m+1→v= .ref a→h.get? a=some o→o.cls= .type "tuple"→o.data= .seq vs z→kP h m vs.toList→P):P:=by
 cases k with
 |int i=>cases x;exact hi _ _ rfl
 |str y=>cases x;exact hs _ _ rfl
 |tuple xs=>
  cases n with
  |zero=>exact absurd hk.2 (sO _)
  |succ m=>
   cases x with
   | @tuple a o vs z _ _ hg hc hd hw=>exact ht m a o vs z rfl rfl hg hc hd (kP.all xs _ _ (hY.all xs hk) hw)
 |none=>exact(cT hk.1).elim
 |bool _=>exact(cT hk.1).elim
 |list _=>exact(cT hk.1).elim
 |dict _=>exact(cT hk.1).elim
theorem aEe (n:Nat):∀(k:aa) (v:Value) (as:List Addr) (A:Around) (s:Shared) (Q:Bool→Shared→Prop),hY n k→Reads s.heap v k as→(∀b,Q b s)→wpAny (model prog w) A (hashByValue n v) Q E s:=by
 induction n with
 |zero=>
  intro k v as A s Q hk x h
  refine sD hk x (fun i t e=>?_) (fun y t e=>?_) fun m a o vs z e _ _ _ _ _=>nomatch e
  ·rw[e];exact ak (h _)
  ·rw[e];exact ak (h _)
 |succ n ih=>
  intro k v as A s Q hk x h
  refine sD hk x (fun i t e=>?_) (fun y t e=>?_) fun m a o vs z e ev hg hc hd hw=>?_
  ·rw[e];exact ak (h _)
  ·rw[e];exact ak (h _)
  ·cases e
   rw[ev]
   unfold hashByValue
   refine ag (wpAny_specialOf ⟨o,hg,hc⟩ F.slot_tuple_hash.lookup ?_)
   show wpAny _ _ (seqItems? (.ref a)>>= _) _ _ s
   refine ag (wpAny_seqItems hg hd ?_)
   refine ag ?_
   show wpAny _ _ (forIn vs _ _) _ _ s
   rw[←Array.forIn_toList]
   refine wpAny_forIn_list _ (fun rest r s'=>s'=s∧kP s.heap n rest) _ (fun y rest r s' H=>?_) (fun r s' H=>?_) _ _ ⟨rfl,hw⟩
   ·have H1:=H.1
    subst H1
    have q:=cx.mp H.2
    refine q.1.elim fun k q1=>q1.elim fun as q1=>ag (ih _ _ _ _ _ _ q1.1 q1.2 fun b=>?_)
    cases b with
    |true=>exact ak ⟨rfl,q.2⟩
    |false=>exact ak (ak (h _))
   ·have H1:=H.1
    subst H1
    obtain⟨r1,r2⟩:=r
    cases r1<;>exact ak (h _)
theorem GX (n:Nat):∀(k:aa) (v:Value) (as:List Addr) (A:Around) (s:Shared) (Q:Bool→Shared→Prop),hY n k→Reads s.heap v k as→Q false s→wpAny (model prog w) A (ofAClassStatement n v) Q E s:=by
 induction n with
 |zero=>
  intro k v as A s Q hk x h
  refine sD hk x (fun i t e=>?_) (fun y t e=>?_) fun m a o vs z e _ _ _ _ _=>nomatch e
  ·rw[e];exact ak h
  ·rw[e];exact ak h
 |succ n ih=>
  intro k v as A s Q hk x h
  refine sD hk x (fun i t e=>?_) (fun y t e=>?_) fun m a o vs z e ev hg hc hd hw=>?_
  ·rw[e];exact ak h
  ·rw[e];exact ak h
  ·cases e
   rw[ev]
   unfold ofAClassStatement
   refine ag (wpAny_typeOf ⟨o,hg,hc⟩ ?_)
   dsimp only
   rw[if_pos (by decide)]
   refine ag (ak ?_)
   refine ag (wpAny_seqItems hg hd ?_)
   refine ag ?_
   show wpAny _ _ (forIn vs _ _) _ _ s
   rw[←Array.forIn_toList]
   refine wpAny_forIn_list _ (fun rest r s'=>r.1=none∧s'=s∧kP s.heap n rest) _ (fun y rest r s' H=>?_) (fun r s' H=>?_) _ _ ⟨rfl,rfl,hw⟩
   ·have H1:=H.2.1
    subst H1
    have q:=cx.mp H.2.2
    exact q.1.elim fun k q1=>q1.elim fun as q1=>ag (ih _ _ _ _ _ _ q1.1 q1.2 (ak ⟨rfl,rfl,q.2⟩))
   ·have H1:=H.2.1
    subst H1
    obtain⟨r1,r2⟩:=r
    obtain rfl:r1=none:=H.1
    exact ak h
theorem aEf {x:Value}{k:aa}{as:List Addr}{A:Around}{s:Shared}{Q:Bool→Shared→Prop}(hk:hY 8 k)(hx:Reads s.heap x k as)(ys:List Value)(hy:kP s.heap 8 ys)(h:Q false s):
 wpAny (model prog w) A (searchCouldBeSeen x ys) Q E s:=by
 unfold searchCouldBeSeen
 refine ag ?_
 refine wpAny_forIn_list _ (fun rest r s'=>r.1=none∧s'=s∧kP s.heap 8 rest) _ (fun y rest r s' H=>?_) (fun r s' H=>?_) _ _ ⟨rfl,rfl,hy⟩
 ·have H1:=H.2.1
  subst H1
  have q:=cx.mp H.2.2
  dsimp only
  refine k8 (fun _=>ak ⟨rfl,rfl,q.2⟩) fun _=>?_
  refine q.1.elim fun k' q1=>q1.elim fun as' q1=>?_
  refine ag (pX _ 8 _ _ _ _ _ hk.1 hk.2 hx ?_)
  refine ag (pX _ 8 _ _ _ _ _ q1.1.1 q1.1.2 q1.2 ?_)
  refine ag (GX 8 _ _ _ _ _ _ hk hx ?_)
  refine ag (GX 8 _ _ _ _ _ _ q1.1 q1.2 ?_)
  exact ak ⟨rfl,rfl,q.2⟩
 ·have H1:=H.2.1
  subst H1
  obtain⟨r1,r2⟩:=r
  obtain rfl:r1=none:=H.1
  exact ak h
end
end Mine.T
end
section
set_option genInjectivity false
set_option genSizeOf false
open PySem PySem.W PyProof.Rows
namespace Mine.T
open Mine.V
theorem yO {k:aa}(h:cq k=true):hY 8 k:=⟨(gi h).1,ai (gi h).2 (by decide)⟩
noncomputable def pq (w:World)(h:Heap)(e:Int×Value)(k:aa):Prop:=e.1=keyHash w k∧∃b,e.2= .ref b∧mz h k b
section
variable {prog:Program}{w:World}{A:Around}{E:Value→Shared→Prop}{s:Shared}{a b:Addr}{arr:Array (Int×Value)}{ep:Nat}{t:bB}{kx:aa}
noncomputable def Pass (w:World)(h:Heap)(t:bB)(arr:Array (Int×Value))(kx:aa)(m:Nat):Prop:=
 ∃i,t.slot (aL t.mask m (bo t.mask (keyHash w kx))).j= .live i∧∀e,arr[i]? =some e→¬pq w h e kx
open Classical in
theorem aEg (hu:A.units+8<cLine)(hA:dG s.heap a arr ep t)(hm:t.mask=7∨t.mask=31)(hall:∀e∈arr.toList,∃k,pq w s.heap e k)(hx:mz s.heap kx b){Q:SetFound→Shared→Prop}{K:Nat}(hK:K≤200)(he:t.slot (aL t.mask K (bo t.mask (keyHash w kx))).j= .empty)
 (hq:(∃e∈arr.toList,pq w s.heap e kx)→Q (.there none) s)
 (hf:∀k,(aL t.mask k (bo t.mask (keyHash w kx))).j∉t.place.toList→(∀m,m<k→Pass w s.heap t arr kx m)→Q (.free (aL t.mask k (bo t.mask (keyHash w kx))).j false) s):
 ∀(d m fuel:Nat) (stand:Option SetTable.Probe),m+d=K→d<fuel→stand.getD (t.probeStart (keyHash w kx))=aL t.mask m (bo t.mask (keyHash w kx))→(∀m',m'<m→Pass w s.heap t arr kx m')→
  wpAny (model prog w) A (setSearchFrom a (.ref b) (keyHash w kx) true fuel stand) Q E s:=by
 obtain⟨o,ho,hex,hd,hfit,hup⟩:=id hA
 have hpl:t.place.size=arr.size:=by
  unfold SetTable.fits at hfit
  simp only[Bool.and_eq_true,beq_iff_eq] at hfit;exact hfit.1
 have hgw:t.gaveWay=false:=by unfold SetTable.gaveWay;rcases hm with h|h<;>rw[h]<;>rfl
 have hturn:200<10*pJ t.mask:=by unfold pJ;rcases hm with h|h<;>rw[h]<;>decide
 have hk8:hY 8 kx:=yO hx.1
 have diff:∀(k':Nat),(∃i,t.slot (aL t.mask k' (bo t.mask (keyHash w kx))).j= .live i∧(fun i=>((arr[i]?).map (·.1)).getD 0) i≠keyHash w kx)→Pass w s.heap t arr kx k':=by
  rintro k' ⟨i,h1,h2⟩
  refine⟨i,h1,fun e he' hke=>h2 ?_⟩
  show ((arr[i]?).map (·.1)).getD 0= _
  rw[he'];exact hke.1
 intro d
 induction d using Nat.strongRecOn with
 | _ d ih=>
  intro m fuel stand hmd hfuel hst hpass
  obtain⟨fuel,rfl⟩:∃n,fuel=n+1:=⟨fuel - 1,by omega⟩
  have hfirst:=aDu hup (fun i=>((arr[i]?).map (·.1)).getD 0) (keyHash w kx) (bo t.mask (keyHash w kx)) rfl d m (10*pJ t.mask) (by rw[hmd];exact he) (by omega)
  unfold setSearchFrom
  refine ag (gR ho hd hfit ?_)
  dsimp only
  rw[hgw]
  simp only[jf,if_false]
  rcases hfirst with ⟨k,b1,b2,b3,b4,b5⟩|⟨k,i,b1,b2,b3,b4,b5,b6⟩
  ·have hpr:t.probe (fun i=>((arr[i]?).map (·.1)).getD 0) (keyHash w kx) (stand.getD (t.probeStart (keyHash w kx)))=some (.empty (aL t.mask k (bo t.mask (keyHash w kx))).j none):=by rw[hst];exact b3
   erw [hpr]
   dsimp only
   refine ak (hf k b4 fun m' hm'=>?_)
   by_cases hmm:m'<m
   ·exact hpass m' hmm
   ·exact diff m' (b5 m' (by omega) hm')
  ·have hpr:t.probe (fun i=>((arr[i]?).map (·.1)).getD 0) (keyHash w kx) (stand.getD (t.probeStart (keyHash w kx)))=some (.candidate (aL t.mask k (bo t.mask (keyHash w kx))).j i (aL t.mask (k+1) (bo t.mask (keyHash w kx)))):=by rw[hst];exact b3
   erw [hpr]
   dsimp only
   have hi:i<arr.size:=by rw[←hpl];exact(pr.mp (Gf b4)).1
   have hai:arr[i]? =some arr[i]:=iA hi
   obtain⟨ke,hke⟩:=hall arr[i] (by simp)
   obtain⟨hh1,c,hc,hkc⟩:=id hke
   have rest:wpAny (model prog w) A (do
    let some (_,y):=arr[i]? |unsupported "internal:set-entry"
    let equal ←holding [y] (eqBool y (.ref b))
    let (es',_,t') ←setState a
    if true&&equal then return .there none
    let some same:=t'.sameMemory t.moves t.mask|unsupported "set.changed-during-lookup:is-the-new-block-at-the-old-address"
    let still ←match (if same then t'.slot (aL t.mask k (bo t.mask (keyHash w kx))).j else .empty) with
     | .live i'=>match es'[i']? with
      |some (_,y')=>do pure (if ←isSame y' y then some i' else none)
      |none=>pure none
     | _=>pure none
    match still with
    |none=>rule "set.search.anew";setSearchFrom a (.ref b) (keyHash w kx) true fuel none
    |some i'=>if equal then return .there (some i') else setSearchFrom a (.ref b) (keyHash w kx) true fuel (some (aL t.mask (k+1) (bo t.mask (keyHash w kx))))) Q E s:=by
    rw[hai]
    generalize hgen:arr[i]=e at hke hh1 hc
    obtain⟨h',y⟩:=e
    obtain rfl:y= .ref c:=hc
    dsimp only
    refine ag (dR ((gj prog w).eqBool hu hkc hx ?_))
    refine ag (gR ho hd hfit ?_)
    dsimp only
    by_cases hk:ke=kx
    ·rw[decide_eq_true hk]
     simp only[Bool.and_self,if_true]
     refine ak (hq ⟨arr[i],by simp,?_⟩)
     rw[hgen,←hk];exact hke
    ·rw[decide_eq_false hk]
     simp only[Bool.and_false,jf,if_false]
     have hsm:t.sameMemory t.moves t.mask=some true:=by unfold SetTable.sameMemory;rw[if_pos (by simp)]
     rw[hsm]
     dsimp only
     rw[if_pos rfl,b4]
     dsimp only
     rw[hai,hgen]
     dsimp only
     refine ag (wpAny_isSame_ref_self ?_)
     simp only[if_true]
     refine ag (ak ?_)
     simp only[if_true]
     refine ih (K - (k+1)) (by omega) (k+1) fuel _ (by omega) (by omega) rfl fun m' hm'=>?_
     by_cases h1:m'<m
     ·exact hpass m' h1
     ·by_cases h2:m'<k
      ·exact diff m' (b6 m' (by omega) h2)
      ·obtain rfl:m'=k:=by omega
       refine⟨i,b4,fun e' he' hke'=>?_⟩
       rw[hai,hgen] at he'
       obtain rfl:=a8 he'
       obtain⟨_,c',hc',hkc'⟩:=hke'
       cases hc'
       exact hk ((gj prog w).inj hkc hkc')
   refine k8 (fun _=>?_) fun _=>rest
   obtain⟨as,hxr⟩:=hx.2
   refine ag (aEf hk8 hxr _ (fun y hy=>?_) ?_)
   ·simp only[aS,Array.toList_filter,List.mem_filter] at hy
    obtain⟨e,⟨hea,_⟩,rfl⟩:=hy
    obtain⟨k',_,c',hc',hk',as',hr'⟩:=hall e hea
    rw[hc']
    exact⟨k',as',yO hk',hr'⟩
   ·simp only[jf,if_false]
    exact rest
end
theorem GY (f:ae):cq (aQ f)=true:=xF fun x hx=>(aS.mp hx).elim fun y hy=>hy.2▸(ye y).mono (by decide)
theorem GZ {γ:RM}{h:Heap}(hF:b9 γ h){v:Value}{f:ae}(r:Rd γ (aQ f) v):∃b,v= .ref b∧mz h (aQ f) b:=by
 have e:=Rd.reads hF _ _ r
 refine(bI hF r).elim fun a vs o n ea g c d z r'=>⟨a,ea,GY f,?_⟩
 rw[ea] at e;exact e
theorem aEh {γ:RM}{h:Heap}(hF:b9 γ h){v:Value}{f g:ae}(r:Rd γ (aQ f) v)(r':Rd γ (aQ g) v):f=g:=
 (Rd.reads hF _ _ r).elim fun as x=>(Rd.reads hF _ _ r').elim fun bs y=>GK (SeqAt.Reads.unique _ _ _ _ _ (oi _ (gi (GY f)).1) x y)
open Classical in
noncomputable def hZ (γ:RM)(v:Value):ae:=if h:∃f,Rd γ (aQ f) v then h.choose else []
theorem G3 {γ:RM}{h:Heap}(hF:b9 γ h){v:Value}{f:ae}(r:Rd γ (aQ f) v):hZ γ v=f:=by
 have e:∃f,Rd γ (aQ f) v:=⟨f,r⟩
 exact(dif_pos e).trans (aEh hF e.choose_spec r)
noncomputable def jP (w:World)(γ:RM)(e:Int×Value):Prop:=e.1=keyHash w (aQ (hZ γ e.2))∧Rd γ (aQ (hZ γ e.2)) e.2
theorem jP.ent {w:World}{γ:RM}{h:Heap}(hF:b9 γ h){e:Int×Value}(x:jP w γ e):pq w h e (aQ (hZ γ e.2)):=⟨x.1,GZ hF x.2⟩
theorem jP.of {w:World}{γ:RM}{h:Heap}(hF:b9 γ h){v:Value}{f:ae}(r:Rd γ (aQ f) v):jP w γ (keyHash w (aQ f),v):=by
 have e:=G3 hF r
 exact⟨congrArg (fun f=>keyHash w (aQ f)) e.symm,e.symm▸r⟩
noncomputable abbrev gQ (γ:RM)(es:List (Int×Value)):List ae:=es.map fun e=>hZ γ e.2
noncomputable def G4 (t:bB)(arr:Array (Int×Value)):Prop:=(t.mask=7∧arr.size≤4∨t.mask=31∧arr.size≤6)∧pj t arr.toList
structure aEi (w:World)(γ:RM)(S:Addr)(fs:List ae)(i:Nat)(h:Heap)(arr:Array (Int×Value))(ep:Nat)(t:bB):Prop where
 at':dG h S arr ep t
 led:t.led=(!f5 w)
 tab:G4 t arr
 ent:∀e∈arr.toList,jP w γ e
 nd:(gQ γ arr.toList).Nodup
 mem:∀x,x∈gQ γ arr.toList↔x∈fs.take i
 sz:arr.size≤i
noncomputable def yP (w:World)(h0:Heap)(γ:RM)(S:Addr)(fs:List ae)(i:Nat)(h:Heap):Prop:=
 (∀b o,h0.get? b=some o→h.get? b=some o)∧∃arr ep t,aEi w γ S fs i h arr ep t
section
variable {prog:Program}{w:World}{A:Around}{E:Value→Shared→Prop}{s:Shared}{a:Addr}{arr:Array (Int×Value)}{ep:Nat}{t:bB}
theorem aEj {h:Heap}(hA:dG h a arr ep t){es':Array (Int×Value)}{t':bB}(hf:t'.fits es'.size=true)(hu:dl t'):dG (h.update a (mv es' t')) a es' (ep+1) t':=by
 obtain⟨o,ho,hex,hd,_,_⟩:=hA
 have hg:(h.update a (mv es' t')).get? a=some {o with data:=.set es' (ep+1) t'}:=by
  have:=l9 (mv es' t') ho (by rw[putSet_of es' t' hd];rfl)
  rw[putSet_of es' t' hd] at this;exact this
 exact⟨_,hg,hex,rfl,hf,hu⟩
theorem G5 {Q:Unit→Shared→Prop}(hA:dG s.heap a arr ep t){es':Array (Int×Value)}{t':bB}(hz:es'.size≤64)(hf:t'.fits es'.size=true)(hu:dl t')(h:∀h',gv a s.heap h'→dG h' a es' (ep+1) t'→Q () {s with heap:=h'}):
 wpAny (model prog w) A (storeSet a es' t') Q E s:=by
 obtain⟨o,ho,hex,hd,_,_⟩:=id hA
 exact wpAny_storeSet_of ho hd (h _ (kX ..) (aEj hA hf hu)) (by rw[ff];omega)
theorem aEk {Q:Unit→Shared→Prop}(hA:dG s.heap a arr ep t)(h5:arr.size=5)(hl:t.led=(!f5 w))(h:∀h' arr' ep' t',gv a s.heap h'→dG h' a arr' ep' t'→t'.led=(!f5 w)→G4 t' arr'→arr'.toList.Perm arr.toList→Q () {s with heap:=h'}):
 wpAny (model prog w) A (setRelay a (iE 5)) Q E s:=by
 obtain⟨o,ho,hex,hd,hfit,hup⟩:=id hA
 obtain⟨t',order,e1,e2,e3,e4,e5,e6,e7⟩:=aDF (t:=t) h5
 unfold setRelay
 refine ag (gR ho hd hfit ?_)
 dsimp only
 rw[if_neg (by rw[ff];decide),e1]
 refine ag ?_
 have hsz:(order.filterMap (arr[·]?)).size=arr.size:=by rw[←fH,e6.length_eq,fH]
 show wpAny _ _ (if ((order.filterMap (arr[·]?)).size !=arr.size)=true then unsupported "internal:set-table-lost-an-element" else pure (order.filterMap (arr[·]?),t')) _ _ _
 rw[if_neg (by rw[hsz];simp)]
 refine ak ?_
 dsimp only
 refine G5 hA (by omega) ?_ e4 fun h' hsb hA'=>h h' _ _ _ hsb hA' (e3.trans hl) ⟨.inr ⟨e2,by omega⟩,e7⟩ e6
 unfold SetTable.fits SetTable.fill
 rw[e4.2,e5,e2,hsz,h5];rfl
end
section
variable {prog:Program}{w:World}{A:Around}{E:Value→Shared→Prop}{s:Shared}{γ:RM}{h0:Heap}{S:Addr}
open Classical in
theorem aEl {fs:List ae}{i:Nat}{f:ae}{v:Value}{Q:Bool→Shared→Prop}(hu:A.units+80<cLine)(hF0:b9 γ h0)(hS:h0.get? S=none)(hi:fs[i]? =some f)(hn:i≤5)(hv:Rd γ (aQ f) v)(hI:yP w h0 γ S fs i s.heap)
 (h:∀b h' tk,s.toks≤tk→gv S s.heap h'→yP w h0 γ S fs (i+1) h'→Q b {s with heap:=h',toks:=tk}):
 wpAny (model prog w) A (setAdd S v) Q E s:=by
 obtain⟨hk,arr,ep,t,hA,hl,⟨hms,hR⟩,hFs,hnd,hmem,hsz⟩:=hI
 have hF:b9 γ s.heap:=fun b o e=>hk b o (hF0 b o e)
 obtain⟨b,rfl,hkey⟩:=GZ hF hv
 have htake:∀x,x∈fs.take (i+1)↔x∈fs.take i∨x=f:=fun x=>by
  rw[List.take_add_one,hi];simp
 have hlen:arr.size≤5:=by omega
 have hm:t.mask=7∨t.mask=31:=hms.imp And.left And.left
 obtain⟨o,ho,hex,hd,hfit,hup⟩:=id hA
 have hpl:t.place.size=arr.size:=by
  unfold SetTable.fits at hfit
  simp only[Bool.and_eq_true,beq_iff_eq] at hfit;exact hfit.1
 have hall:∀e∈arr.toList,∃k,pq w s.heap e k:=fun e he=>⟨_,(hFs e he).ent hF⟩
 unfold setAdd
 refine dR (ag ((gj prog w).pyHash (k:=aQ f) (show A.units+8<cLine by omega) hkey ?_))
 show wpAny _ _ (setAddHashed S (.ref b) (keyHash w (aQ f))) _ _ _
 unfold setAddHashed setAddHashedIn
 refine dR (ag (gR ho hd hfit ?_))
 dsimp only
 rw[if_neg (by unfold byScan;rw[show (Value.ref b).scannable=false from rfl];simp)]
 obtain⟨K,hK,hKo⟩:=aDt hm t.place.toList (by rw[fH];omega) (keyHash w (aQ f))
 have hKe:=Gg hup hKo
 refine ag ?_
 unfold setSearch
 refine aEg (s:={s with toks:=s.toks+(gj prog w).draws (aQ f)}) (by omega) hA hm hall hkey hK hKe ?_ ?_ K 0 100000 none (by omega) (by omega) rfl (fun m' hm'=>by omega)
 ·rintro⟨e,he,hke⟩
  dsimp only
  refine ak (h false s.heap _ (aR _ _) (Heap.SameBut.refl S s.heap) ⟨hk,arr,ep,t,hA,hl,⟨hms,hR⟩,hFs,hnd,fun x=>?_,by omega⟩)
  rw[htake,hmem]
  refine⟨.inl,fun hx=>hx.elim id ?_⟩
  rintro rfl
  obtain⟨_,c,hc,hkc⟩:=hke
  obtain⟨_,c',hc',hkc'⟩:=(hFs e he).ent hF
  rw[hc] at hc'
  cases hc'
  rw[←hmem,←GK ((gj prog w).inj hkc' hkc)]
  exact aS.mpr ⟨e,he,rfl⟩
 ·intro k hkf hpass
  dsimp only
  refine ag (gR ho hd hfit ?_)
  dsimp only
  have hnf:f∉gQ γ arr.toList:=fun hfg=>by
   obtain⟨e,he,hfe⟩:=aS.mp hfg
   have hfe:jP w γ e∧hZ γ e.2=f:=⟨hFs e he,hfe⟩
   obtain⟨n,hn⟩:=pD he
   rw[jd] at hn
   have hns:n<arr.size:=(pr.mp hn).1
   have hpn:t.place[n]? =some (t.place[n]'(by omega)):=iA (by omega)
   have hz:(t.place[n]'(by omega),e)∈t.place.toList.zip arr.toList:=by
    refine pC (i:=n) ?_
    rw[List.getElem?_zip_eq_some]
    exact⟨by rw[jd];exact hpn,by rw[jd];exact hn⟩
   obtain⟨k',c1,c2⟩:=hR _ hz
   rw[show (t.place[n]'(by omega),e).2.1=keyHash w (aQ f) from hfe.1.1.trans (congrArg (fun f=>keyHash w (aQ f)) hfe.2)] at c1 c2
   have hin:(aL t.mask k' (bo t.mask (keyHash w (aQ f)))).j∈t.place.toList:=by
    rw[c1];simpa using Array.mem_of_getElem? hpn
   have hlt:k'<k:=by
    rcases Nat.lt_trichotomy k' k with hq|hq|hq
    ·exact hq
    ·subst hq;exact absurd hin hkf
    ·exact absurd (c2 k hq) hkf
   obtain⟨i',d1,d2⟩:=hpass k' hlt
   have hs2:t.slot (aL t.mask k' (bo t.mask (keyHash w (aQ f)))).j= .live n:=by
    rw[c1];exact qD hup hpn
   rw[d1] at hs2
   cases hs2
   exact d2 e hn (hfe.2▸hfe.1.ent hF)
  have hocc:∀k',k'<k→(aL t.mask k' (bo t.mask (keyHash w (aQ f)))).j∈t.place.toList:=fun k' hk'=>by
   obtain⟨i',d1,_⟩:=hpass k' hk'
   simpa using Array.mem_of_getElem? (Gf d1)
  have hbel:=(pg hup.1 (aL t.mask k (bo t.mask (keyHash w (aQ f)))).j).1
  have hR':=aDG (x:=.ref b) hR hpl hocc hbel
  have hup':=Gi hup hkf
  have hper:=SetTable.insertAt_perm arr (t.put (aL t.mask k (bo t.mask (keyHash w (aQ f)))).j).2 (keyHash w (aQ f),.ref b)
  have hled':(t.put (aL t.mask k (bo t.mask (keyHash w (aQ f)))).j).1.led=t.led:=rfl
  have hmask':(t.put (aL t.mask k (bo t.mask (keyHash w (aQ f)))).j).1.mask=t.mask:=rfl
  have hpsz:(t.put (aL t.mask k (bo t.mask (keyHash w (aQ f)))).j).1.place.size=arr.size+1:=by
   have:=(SetTable.insertAt_perm t.place (cA t.place (aL t.mask k (bo t.mask (keyHash w (aQ f)))).j) (aL t.mask k (bo t.mask (keyHash w (aQ f)))).j).length_eq
   show (nW t.place _ _).size= _
   rw[←fH,this];simp [hpl]
  generalize t.put (aL t.mask k (bo t.mask (keyHash w (aQ f)))).j=tp at hR' hup' hper hled' hmask' hpsz ⊢
  obtain⟨t1,p⟩:=tp
  dsimp only at hR' hup' hper hled' hmask' hpsz ⊢
  generalize nW arr p (keyHash w (aQ f),Value.ref b)=arr1 at hR' hper ⊢
  have hsz1:arr1.size=arr.size+1:=by rw[←fH,hper.length_eq];simp
  have hdf:=G3 hF hv
  have hgp:(gQ γ arr1.toList).Perm (gQ γ arr.toList++[f]):=by
   have:=hper.map fun e=>hZ γ e.2
   rw[pG,bJ] at this
   rw[←hdf]
   exact this
  have hFs1:∀e∈arr1.toList,jP w γ e:=fun e he=>by
   have:=hper.mem_iff.mp he
   rw[pG] at this
   exact(cY.mp this).elim (hFs e) fun z=>aM.mp z▸jP.of hF hv
  have hnd1:(gQ γ arr1.toList).Nodup:=hgp.nodup_iff.mpr (pE.mpr ⟨hnd,eU.mpr ⟨aJ,.nil⟩,fun a ha b hb e=>hnf (aM.mp hb▸e▸ha)⟩)
  have hmem1:∀x,x∈gQ γ arr1.toList↔x∈fs.take (i+1):=fun x=>by
   rw[hgp.mem_iff,htake,cY,hmem,aM]
  have keep:∀h',gv S s.heap h'→∀b o,h0.get? b=some o→h'.get? b=some o:=fun h' hsb b o e=>
   (hsb.2 b (fun z=>by rw[z,hS] at e;cases e)).trans (hk b o e)
  have tail:∀(byV:Bool),wpAny (model prog w) A (do
   storeSet S arr1 (if byV=true then t1 else {t1 with plain:=false})
   if (!false&&(if byV=true then t1 else {t1 with plain:=false}).tooFull)=true then do
    setRelay S (iE (arr.size+1))
    pure true
    else pure true) Q E {s with toks:=s.toks+(gj prog w).draws (aQ f)}:=by
   intro byV
   have q1:dl (if byV=true then t1 else {t1 with plain:=false}):=by cases byV<;>exact hup'
   have q2:(if byV=true then t1 else {t1 with plain:=false}).mask=t.mask:=by cases byV<;>exact hmask'
   have q3:(if byV=true then t1 else {t1 with plain:=false}).led=t.led:=by cases byV<;>exact hled'
   have q4:(if byV=true then t1 else {t1 with plain:=false}).place.size=arr.size+1:=by cases byV<;>exact hpsz
   have q5:pj (if byV=true then t1 else {t1 with plain:=false}) arr1.toList:=by cases byV<;>exact hR'
   generalize (if byV=true then t1 else {t1 with plain:=false})=t2 at q1 q2 q3 q4 q5 ⊢
   have q6:t2.fill=arr.size+1:=by unfold SetTable.fill;rw[q1.2,q4];rfl
   refine ag (G5 (s:={s with toks:=s.toks+(gj prog w).draws (aQ f)}) hA (by omega) ?_ q1 fun h' hsb hA'=>?_)
   ·unfold SetTable.fits
    rw[q6,q4,hsz1,q2]
    rcases hms with ⟨e1,e2⟩|⟨e1,e2⟩<;>rw[e1]<;>simp<;>omega
   ·by_cases hfull:t2.tooFull=true
    ·have h5:arr.size+1=5:=by
      unfold SetTable.tooFull at hfull
      rw[q6,q2] at hfull
      rcases hms with ⟨e1,e2⟩|⟨e1,e2⟩<;>rw[e1] at hfull<;>simp at hfull<;>omega
     rw[if_pos (by rw[hfull];rfl),h5]
     refine ag (aEk (s:={s with heap:=h',toks:=s.toks+(gj prog w).draws (aQ f)}) hA' (by omega) (q3.trans hl) fun h'' arr2 ep2 t3 hsb2 hA2 hl2 hok2 hp2=>?_)
     have hgp2:(gQ γ arr2.toList).Perm (gQ γ arr1.toList):=hp2.map _
     have hsz2:arr2.size=arr1.size:=by rw[←fH,hp2.length_eq,fH]
     refine ak (h true h'' _ (aR _ _) (hsb.trans hsb2) ⟨keep _ (hsb.trans hsb2),arr2,ep2,t3,hA2,hl2,hok2,fun e he=>hFs1 e (hp2.mem_iff.mp he),hgp2.nodup_iff.mpr hnd1,fun x=>by rw[hgp2.mem_iff,hmem1],by omega⟩)
    ·rw[if_neg (by simpa using hfull)]
     refine ak (h true h' _ (aR _ _) hsb ⟨keep _ hsb,arr1,_,t2,hA',q3.trans hl,⟨?_,q5⟩,hFs1,hnd1,hmem1,by omega⟩)
     unfold SetTable.tooFull at hfull
     rw[q6,q2] at hfull
     rw[q2]
     rcases hms with ⟨e1,e2⟩|⟨e1,e2⟩
     ·refine .inl ⟨e1,?_⟩
      rw[e1] at hfull
      simp at hfull;omega
     ·exact .inr ⟨e1,by omega⟩
  by_cases hpn:t1.plain=true
  ·rw[if_pos hpn]
   obtain⟨as,hrd⟩:=hkey.2
   refine ag (aEe 8 _ _ _ _ _ _ (yO hkey.1) hrd fun byV=>?_)
   exact tail byV
  ·rw[if_neg hpn]
   refine ag (ak ?_)
   exact tail true
end
end Mine.T
end
section
set_option autoImplicit false
set_option genInjectivity false
set_option genSizeOf false
open PySem PySem.W PyProof.Rows Std
namespace Mine.T
open Mine.V
theorem hU.setA {bt:Bool}{h:Heap}{a:Addr}{es:List (Int×Value)}(x:hU bt h a es):∃arr ep t,dG h a arr ep t∧t.led=(!bt)∧arr.toList=es:=by
 obtain⟨o,arr,ep,t,h1,h2,h3,h4,h5,h6,h7⟩:=x
 exact⟨arr,ep,t,⟨o,h1,h2,h3,h5,h7⟩,h6,h4⟩
theorem pn.later {γ:RM}{s:Shared}{h':Heap}{tk:Nat}{zs:List aa}{Q:Value→Shared→Prop}(h:pn γ s zs Q)(hk:pk s.heap h'):pn γ {s with heap:=h',toks:=tk} zs Q:=fun a h2 dr tk2 out c k1 k2 k3 k4=>
 h a h2 dr tk2 out c (fun b o e=>k1 b o (hk b o e)) (qu hk k2) k3 k4
theorem aEm {γ:RM}{es:List (Int×Value)}(h:∀e∈es,∃k t,e=(hashInt k,.int k t))(vs:List Value):(∀v∈vs,v∈es.map (·.2))→RdL γ (aA (vs.map fun v=>gP (0,v))) vs:=by
 induction vs with
 |nil=>exact fun _=>rfl
 |cons v vs ih=>
  intro hv
  refine⟨v,vs,rfl,?_,ih fun u hu=>hv u (.tail _ hu)⟩
  refine(aS.mp (hv v (.head _))).elim fun e he=>(h e he.1).elim fun k h=>h.elim fun t h=>?_
  rw[←he.2,h];exact⟨t,rfl⟩
theorem aEn {w:World}{γ:RM}{es:List (Int×Value)}(h:∀e∈es,jP w γ e)(vs:List Value):(∀v∈vs,v∈es.map (·.2))→RdL γ (ch (vs.map (hZ γ))) vs:=by
 induction vs with
 |nil=>exact fun _=>rfl
 |cons v vs ih=>
  intro hv
  refine⟨v,vs,rfl,?_,ih fun u hu=>hv u (.tail _ hu)⟩
  exact(aS.mp (hv v (.head _))).elim fun e he=>he.2▸(h e he.1).2
section
variable {W:Wd}{f:Fc W}{C:Cp W f}{Q:Value→Shared→Prop}{v:Value}{xs ys:List aa}
theorem G6 {a:Addr}{arr:Array (Int×Value)}{ep:Nat}{t:bB}{h':Heap}{tk:Nat}(hk:pk C.s.heap h')(hA:dG h' a arr ep t)(hl:t.led= !f5 W.Z.w)(hz:arr.size≤4000)(hy:ys.length≤4000)
 (hs:∀vs:List Value,vs.Perm (arr.toList.map (·.2))→∃ds,RdL C.g.γ ds vs∧ds.length≤4000∧nM W.Z C.g.γ f.F.A.in1.in1 ds ys) (h:aU f C Q (.d (.list ys))):
 f.wp (call (.builtin "sorted") [.ref a]) Q {C.s with heap:=h',toks:=tk}:=
 GO (P:=fun ds=>ds.length≤4000∧nM W.Z C.g.γ f.F.A.in1.in1 ds ys) (fun a o e=>hk a o (C.sr.frz a o e)) (fun a ha=>C.free (qu hk ha))
  (fun E Q k=>aDo f.ok.hd hA hl (ai hz (by decide)) fun h2 dr tk2 vs hk2 hp=>(hs vs hp).elim fun ds d=>k h2 dr tk2 vs ds hk2 d.1 d.2) (fun ds hd=>hd) ((GW (ai hy (by decide)) h).later hk)
theorem aEo {is:List Int}(r:Rd C.g.γ (.list (aA is)) v)(h4:is.length<4000)(h64:(b0 is).length<64)(h:aU f C Q (.d (.list (aA (a9 bn (b0 is)))))):
 f.wp (call (.type "set") [v]) (fun t s=>f.wp (call (.builtin "sorted") [t]) Q s) C.s:=
 (bI C.sr.frz r).elim fun a vs o n e g c d z rv=>by
  subst e
  have hI:=GP is rv
  have hlen:=hI.length
  refine Gm f.ok.hd ⟨o,g,c,n,d⟩ (fun i h=>yN (f5 W.Z.w) C.s.heap.objs.size is i h) (fun h' _ hS=>⟨[],aCY hS,fun _ h=>(aJ h).elim,.nil,fun x=>iI,aT 0⟩)
   (fun i h h' hi hk=>hi.imp fun es q=>⟨q.1.keep fun o e=>hk _ _ (fun z=>dT (dm _) (aM.mp z)) e,q.2⟩) (fun i v s' A' Q E' _ _ hi hv hInv hq=>?_) fun h' tk hInv hk=>?_
  ·have hi':i<is.length:=hlen▸(by simpa using hi)
   have hvi:vs[i]? =some v:=by simpa using hv
   refine(RdL.get' _ _ rv hvi).elim fun d hd=>?_
   have e:d= .int is[i]:=a8 (hd.1.symm.trans ((f9 ..).trans (congrArg (gD bv) (iB hi'))))
   subst e
   exact hd.2.elim fun t e=>e▸aEd (iB hi') (aX hi' h4) hInv hq
  ·refine hInv.elim fun es q=>q.1.setA.elim fun arr q1=>q1.elim fun ep q1=>q1.elim fun t q1=>?_
   have ez:=q1.2.2
   subst ez
   have hm:∀x,x∈arr.toList.map gP↔x∈b0 is:=fun x=>(q.2.2.2.1 x).trans (by rw[g9,yX (by rw[jg];omega)])
   have hz:arr.size≤4000:=ai (bg fH.symm) (ai q.2.2.2.2 (ai (bg (jg.trans hlen)) (eW h4)))
   have hl:(a9 bn (b0 is)).length<64:=aX (bg (dy bn (b0 is)).length_eq) h64
   refine G6 hk q1.1 q1.2.1 hz (by rw[hJ];exact ai (eW hl) (by decide)) (fun us hp=>?_) h
   have hks:(us.map fun v=>gP (0,v)).Perm (arr.toList.map gP):=(hp.map fun v=>gP (0,v)).trans (.of_eq (by rw[cD];rfl))
   have hn:=hks.nodup_iff.mpr q.2.2.1
   have he:=xD hn (i6 is) fun x=>hks.mem_iff.trans (hm x)
   have h6:(us.map fun v=>gP (0,v)).length<64:=by rw[←(dy bn _).length_eq,he];exact hl
   exact⟨_,aEm q.2.1 us (fun v hv=>hp.mem_iff.mp hv),by rw[hJ];exact ai (eW h6) (by decide),he▸GR h6⟩
end
variable {W:Wd}{f:Fc W}{C:Cp W f}{Q:Value→Shared→Prop}{v:Value}{xs ys:List aa}
theorem aEp {fs:List ae}(r:Rd C.g.γ (.list (ch fs)) v)(hne:fs≠[])(h6:fs.length≤6)(h:aU f C Q (.d (.list (ch (a9 bw (b0 fs)))))):
 f.wp (call (.type "set") [v]) (fun t s=>f.wp (call (.builtin "sorted") [t]) Q s) C.s:=
 (bI C.sr.frz r).elim fun a vs o n e g c d z rv=>by
  subst e
  have hlen:vs.length=fs.length:=(RdL.length _ _ rv).trans (aB ..)
  have hu:=f.un
  refine Gm f.ok.hd ⟨o,g,c,n,d⟩ (fun i h=>yP W.Z.w C.s.heap C.g.γ C.s.heap.objs.size fs i h)
   (fun h' hk hS=>⟨hk,#[],0,_,⟨⟨_,hS,⟨rfl,rfl,rfl⟩,rfl,rfl,.nil,rfl⟩,rfl,⟨.inl ⟨rfl,bz _⟩,fun q hq=>(aJ hq).elim⟩,fun _ h=>(aJ h).elim,.nil,fun x=>iI,aT 0⟩⟩)
   (fun i h h' hi hk=>⟨fun b o e=>hk b o (fun z=>absurd (fI e) (by rw[aM.mp z];exact Nat.not_lt.mpr (dI _))) (hi.1 b o e),hi.2.imp fun arr q=>q.imp fun ep q=>q.imp fun t q=>{q with at':=q.at'.at fun o e=>hk _ _ (fun z=>dT (dm _) (aM.mp z)) e}⟩)
   (fun i v s' A' Q E' _ hu' hi hv hInv hq=>?_) fun h' tk hInv hk=>?_
  ·have hi':i<fs.length:=hlen▸(by simpa using hi)
   have hvi:vs[i]? =some v:=by simpa using hv
   refine(RdL.get' _ _ rv hvi).elim fun d hd=>?_
   have e:d=aQ fs[i]:=a8 (hd.1.symm.trans ((f9 ..).trans (congrArg (gD aQ) (iB hi'))))
   subst e
   exact aEl (by omega) C.sr.frz (gw (aT _)) (iB hi') (by omega) hd.2 hInv hq
  ·refine hInv.2.elim fun arr q=>q.elim fun ep q=>q.elim fun t q=>?_
   have hz:arr.size≤6:=q.tab.1.elim (fun h=>ai h.2 (by decide)) fun h=>h.2
   have hm:∀x,x∈gQ C.g.γ arr.toList↔x∈b0 fs:=fun x=>(q.mem x).trans (by rw[g9,yX (by rw[jg,hlen];exact aT _)])
   have ed:a9 bw (gQ C.g.γ arr.toList)=a9 bw (b0 fs):=x8 q.nd (i6 fs) hm
   have l6:(gQ C.g.γ arr.toList).length≤6:=by rw[aB,fH];exact hz
   refine G6 hk q.at' q.led (ai hz (by decide)) (by rw[ch,aB,←ed,(dy bw _).length_eq];exact ai l6 (by decide)) (fun us hp=>?_) h
   have hks:(us.map (hZ C.g.γ)).Perm (gQ C.g.γ arr.toList):=(hp.map (hZ C.g.γ)).trans (.of_eq (by rw[cD];rfl))
   have hn:=hks.nodup_iff.mpr q.nd
   have he:=x8 hn (i6 fs) fun x=>hks.mem_iff.trans (hm x)
   have h6':(us.map (hZ C.g.γ)).length≤6:=hks.length_eq▸l6
   have hne':us.map (hZ C.g.γ)≠[]:=fun z=>by
    cases fs with
    |nil=>exact hne rfl
    |cons x l=>
     have:=hks.mem_iff.mpr ((hm x).mpr (g9.mpr (.head _)))
     rw[z] at this
     exact aJ this
   exact⟨_,aEn q.ent us (fun v hv=>hp.mem_iff.mp hv),by rw[ch,aB];exact ai h6' (by decide),he▸GS (show f.F.A.units+1+1+80<cLine by omega) hne' h6' hn⟩
theorem tP (r:Rd C.g.γ (.list xs) v)(k:j9 xs=some ys)(h:aU f C Q (.d (.list ys))):f.wp (call (.type "set") [v]) (fun t s=>f.wp (call (.builtin "sorted") [t]) Q s) C.s:=by
 unfold j9 at k
 cases hi:iL xs with
 |some is=>
  rw[hi] at k
  have q:=cG.mp k
  exact aEo (yM _ _ hi▸r) q.1.1 q.1.2 (a8 q.2▸h)
 |none=>
  rw[hi] at k
  refine(bG.mp k).elim fun fs q=>?_
  have q2:=cG.mp q.2
  have e1:=GV _ _ q.1
  exact aEp (e1▸r) (fun z=>by rw[e1,z] at hi;cases hi) q2.1 (a8 q2.2▸h)
theorem aEq (W:Wd):cE W:=⟨fun f C p xs ys v Q=>aEb,fun f C xs ys v Q=>tP⟩
end Mine.T
end
section
set_option autoImplicit false
set_option genInjectivity false
set_option genSizeOf false
open PySem PySem.W PyProof.Rows
namespace Mine.T
open Mine.V
theorem G7 {h:Heap}{a:Addr}{m:Str→Option Value}(hn:h.Ns a m):∃o,h.get? a=some o∧∀x,lookIn x o=some (m x):=
 hn.elim fun o q=>q.elim fun es q=>q.elim fun ep q=>z4 (z:=es.size) ⟨o,es,ep,q.1,q.2.1,q.2.2.1,q.2.2.2,aT _⟩
noncomputable def l7 (h:Heap)(L:Addr):Heap:={h with objs:=h.objs.setIfInBounds L {cls:=.none,dict:=none,data:=.freed,slots:=#[]}}
theorem sH {h:Heap}{L a:Addr}(n:a≠L):(l7 h L).get? a=h.get? a:=by
 show (match (h.objs.setIfInBounds L _)[a]? with|some ⟨_,_,.freed,_⟩=>none|o=>o)= _
 rw[Array.getElem?_setIfInBounds_ne (gW n)]
 rfl
theorem aEr {h:Heap}{L:Addr}:(l7 h L).get? L=none:=by
 show (match (h.objs.setIfInBounds L _)[L]? with|some ⟨_,_,.freed,_⟩=>none|o=>o)= _
 by_cases hl:L<h.objs.size
 ·rw[Array.getElem?_setIfInBounds_self_of_lt hl]
 ·rw[Array.getElem?_eq_none (by rw[Array.size_setIfInBounds];exact nZ hl)]
noncomputable def kQ:Option Obj→b8
 |some o=>.frz o
 |none=>.free
theorem aEs {x:Option Obj}{o:Obj}(e:kQ x= .frz o):x=some o:=by
 cases x with
 |none=>cases e
 |some y=>cases e;rfl
noncomputable def sG (h:Heap)(L:Addr):RM:=fun a=>if a=L then .stor 0 else kQ (h.get? a)
theorem nN {h:Heap}{L a:Addr}(n:a≠L):sG h L a=kQ (h.get? a):=if_neg n
theorem sJ {h:Heap}{L:Addr}:sG h L L= .stor 0:=if_pos rfl
theorem aEt {h:Heap}{L a:Addr}{o:Obj}(e:sG h L a= .frz o):h.get? a=some o:=by
 by_cases n:a=L
 ·rw[n,sJ] at e;cases e
 ·rw[nN n] at e;exact aEs e
noncomputable def G8 (h:Heap)(L:Addr):Gh:=⟨sG h L,fun _=>none,fun _=>0⟩
noncomputable def aEu (L:Addr):Env:={scope:={kind:=.function,names:=[],isGenerator:=false,isCoroutine:=false},locals:=L,globals:=dU,cells:=[]}
noncomputable def sF (L:Addr):Fr:=⟨callerA,aEu L,⟨[],[],0⟩,0,0⟩
theorem aEv (L:Addr):bu (sF L):=⟨fun x k _ e=>(nomatch e),rfl,rfl,rfl,fun x y i e=>(nomatch e),fun x y a e=>(nomatch e),fun x i e=>(nomatch e),rfl,fun x i e=>(nomatch e)⟩
theorem aEw {Z:Bs}{h:Heap}{L:Addr}{m:Str→Option Value}(hT:Z.hT=l7 h L)(hn:h.Ns L m):SR Z (sF L) (G8 h L) [] [] h where
 frz:=fun a o e=>aEt e
 ist:=fun k a ob e=>by
  by_cases n:a=L
  ·rw[n] at e;cases sJ.symm.trans e
  ·have e:kQ (h.get? a)= _:=(nN n).symm.trans e
   cases hq:h.get? a<;>rw[hq] at e<;>cases e
 top:=fun a o e=>by
  rw[hT] at e
  by_cases n:a=L
  ·rw[n,aEr] at e;cases e
  ·rw[sH n] at e;exact(nN n).trans (congrArg kQ e)
 live:=fun a e=>by
  by_cases n:a=L
  ·exact hn.elim fun o q=>q.elim fun es q=>q.elim fun ep q=>⟨o,n▸q.1⟩
  ·have e:kQ (h.get? a)≠ .free:=fun z=>e ((nN n).trans z)
   cases hq:h.get? a with
   |none=>rw[hq] at e;exact(e rfl).elim
   |some o=>exact⟨o,rfl⟩
 sto:=⟨⟨m,hn,fun x i e=>(nomatch e)⟩,sJ,fun x i e=>(nomatch e)⟩
 slot:=fun κ s e=>by
  cases κ with
  |loc d i=>
   have e:(if d=0 then (([]:Mine.L)[i]?).join else none)=some s:=e
   by_cases hd:d=0
   ·rw[if_pos hd] at e;cases e
   ·rw[if_neg hd] at e;cases e
  |att k x=>cases e
 nov:=fun k x _=>rfl
theorem G9 (p:Params)(o:Obj):(KP p++[(du,o)]).lookup dU=some (o3 p):=by kernel_rfl
theorem aEx (p:Params)(o:Obj):((nsIn (KP p++[(du,o)]) dU "law").join.bind ky==some (kz "law"))=true:=by kernel_rfl
theorem aEy (p:Params)(o:Obj):(KP p++[(du,o)]).lookup 59=none:=by kernel_rfl
theorem law_start {prog:Program}{w:World}{p:Params}{s:Shared}{mg mb:Str→Option Value}{L a:Addr}{vs:List Value}{ns:List Int}{jD:Obj}{es:Array DictEntry}{ep:Nat}
 (KX:(KP p).In s.heap) (h59:s.heap.get? 59=some jD) (hc59:jD.cls= .type "dict") (hd59:jD.data= .dict es ep) (hs59:StrKeys es) (hg:s.heap.Ns dU mg) (hb:s.heap.Ns du mb) (hmb:∀x:Str,x≠"__name__"→mb x=bootBuiltins x) (hlim:s.heap.NoLimit)
 (ha:mg "law"=some (.ref a)) (hL:s.heap.IsList L vs.toArray) (hI:IntsAre vs ns) (hlen:ns.length≤63) {R:Result→Shared→Prop}
 (k:∀s',(∀b o,s.heap.get? b=some o→s'.heap.get? b=some o)→s'.gens=s.gens→s'.os=s.os→R (.ok (.ret (.bool true))) s'):
 fg (model prog w) callerA (.call (.ref a) ⟨[.ref L],[]⟩) R s:=by
 refine(G7 hb).elim fun o ho=>(G7 hg).elim fun om hm=>hL.elim fun oL hL=>hL.2.2.elim fun nL hdL=>?_
 have X:(KP p++[(du,o)]).In (l7 s.heap 59):=fun b ob e=>by
  have hb59:b≠59:=fun z=>by rw[z,aEy] at e;cases e
  rw[sH hb59]
  rw[List.lookup_append] at e
  cases hq:(KP p).lookup b with
  |some o'=>rw[hq] at e;exact e▸KX _ _ hq
  |none=>
   rw[hq] at e
   have e2:List.lookup b [(du,o)]=some ob:=e
   rw[ji] at e2
   cases hz:b==du with
   |true=>rw[hz] at e2;cases e2;rw[aN hz];exact ho.1
   |false=>rw[hz] at e2;cases e2
 have hlim':(l7 s.heap 59).NoLimit:=hlim.imp fun mc q=>⟨q.1.imp fun oc q=>q.imp fun es q=>q.imp fun ep q=>⟨(sH (by decide)).trans q.1,q.2⟩,q.2⟩
 have hB:∀x:Str,x≠"__name__"→lookIn x o=some (bootBuiltins x):=fun x hx=>(ho.2 x).trans (congrArg some (hmb x hx))
 have h3:s.heap.get? dU=some (o3 p):=(sH (by decide)).symm.trans (X _ _ (G9 p o))
 have ea:kz "law"=a:=by
  have e1:=w9 (aEx p o)
  rw[Da (G9 p o),a8 (h3.symm.trans hm.1),hm.2,ha] at e1
  cases e1;rfl
 have nL59:L≠59:=fun z=>by
  rw[z] at hL
  have e:=hc59.symm.trans ((congrArg Obj.cls (a8 (h59.symm.trans hL.1))).trans hL.2.1)
  injection e with e
  exact absurd e (by decide)
 have hl:=hI.length
 have:=aEq (i3 (p:=p) prog w (l7 s.heap 59) o hB X)
 have rk:=SZ (prog:=prog) (w:=w) (p:=p) (ho:=hB) (X:=X) hlim' 16
 have F:=rk.call "law" [.d (.list (aA ns))] [] (fun v _=>v= .d (.bool true)) (by decide +kernel) (aCI (m:=0) ⟨0,rfl⟩ fun T'=>rfl)
 rw[show (i3 (p:=p) prog w (l7 s.heap 59) o hB X).fa "law"=a from ea] at F
 refine F (sF 59) (G8 s.heap 59) [] s [.ref L] R (aEv 59) ⟨by decide +kernel,by decide +kernel⟩ (aEw rfl ⟨jD,es,ep,h59,hd59,hs59,fun _=>rfl⟩) ⟨.ref L,[],rfl,⟨L,oL,rfl,(nN nL59).trans (congrArg kQ hL.1),vs,nL,hL.2.1,hdL,hl▸ai hlen (by decide),GQ hI⟩,rfl⟩ fun q v g' o' s' S' l' r' e=>?_
 subst e
 have hv:v= .bool true:=r'
 subst hv
 refine k s' (fun b ob e=>?_) l'.rest.1 l'.rest.2
 by_cases n:b=59
 ·subst n
  exact(l'.role 59 (.stor 0) (sJ (h:=s.heap) (L:=59)) (dm 0)).2.trans e
 ·exact(l'.role b (.frz ob) ((nN (h:=s.heap) n).trans (congrArg kQ e)) trivial).2.trans e
end Mine.T
namespace Mine.H
abbrev pw:Program:=PySem.Challenge.pw_xm0487_01
noncomputable def sp (l:List Obj):List Obj×List Obj:=l.foldr (fun o p=>(o::p.2,p.1)) ([],[])
noncomputable def bt:Nat→List Obj→BT
 |0,_=>.nil
 | _+1,[]=>.nil
 |n+1,o::l=>.node o (bt n (sp l).1) (bt n (sp l).2)
noncomputable def c3 (P:Params)(m:Nat)(v:Value):Obj:=match (o3 P).data with
 | .dict es _=>{cls:=.type "dict",data:=.dict ((en P (Z "__name__") 165 v::(es.toList.take m).drop 1).toArray) m}
 | _=>tE
noncomputable def c12 (m:Nat):Obj:=match B6.data with
 | .fields l=>{cls:=.none,data:=.fields (l.toList.take m).toArray}
 | _=>tE
noncomputable def hL (P:Params)(n d:Nat)(nm:Value)(f:Nat):List Obj:=(((HL P).take n).set 3 (c3 P d nm)).set 12 (c12 f)
noncomputable def hS (P:Params)(n d:Nat)(nm:Value)(f tk:Nat)(os:OsState):SharedT:=⟨bt 12 (hL P n d nm f),n,{},#[],{},tk,os⟩
noncomputable def h0 (P:Params)(os:OsState):SharedT:=⟨bt 12 ((hL P 15 9 (.str (Z "__main__") 164) 0).set 2 (boot_o_2 P)),15,{},#[],{},187,os⟩
noncomputable def ev:Env:={scope:=pw.main.scope,locals:=mainNs,globals:=mainNs,cells:=[],code:=.ref 13,frame:=some 14}
noncomputable def cd:Code:=.body oP ev
noncomputable def qs (i j:Nat):List Stmt:=(oP.drop i).take j
abbrev p0:Pos:=⟨0,0,0,0⟩
abbrev B0:List Frame:=[topFrame p0]
def SG (w:World)(n:Nat)(s s':SharedT)(i j:Nat)(q q':Pos):Prop:=segRunT treeTable pw w 11 (some (.ref 6)) 1 n s (piecesOf (qs i j) ev cd q B0)=some (.next,s',cd,q')
noncomputable def a0 (w:World)(os:OsState):SharedT:=h0 w.params os
noncomputable def a1 (w:World)(os:OsState):SharedT:=hS w.params 63 47 ci 9 328 os
noncomputable def a2 (w:World)(os:OsState):SharedT:=hS w.params 93 50 ci 9 367 os
noncomputable def a3 (w:World)(os:OsState):SharedT:=hS w.params 308 78 ci 93 660 os
noncomputable def a4 (w:World)(os:OsState):SharedT:=hS w.params 510 91 d3 120 941 os
noncomputable def a5 (w:World)(os:OsState):SharedT:=hS w.params 618 109 (.str (Z "law_xm0487_01") 941) 174 1115 os
theorem r1 (w:World)(os:OsState):SG w 900 (a0 w os) (a1 w os) 0 40 p0 ⟨50,0,50,9⟩:=by
 unfold SG
 first|(rw[PySem.W.Fast.te10110043849684766642,PySem.W.Fast.te14364793385576792824];kernel_rfl)|kernel_rfl
theorem r2 (w:World)(os:OsState):SG w 300 (a1 w os) (a2 w os) 40 3 ⟨50,0,50,9⟩ ⟨53,0,53,9⟩:=by
 unfold SG
 revert w
 try rw[PySem.W.Fast.te10110043849684766642,PySem.W.Fast.te14364793385576792824]
 refine byRow2 "special-get-raises" ?_ ?_
 ·intro w
  kernel_rfl
 ·intro w
  kernel_rfl
theorem r3 (w:World)(os:OsState):SG w 1300 (a2 w os) (a3 w os) 43 28 ⟨53,0,53,9⟩ ⟨266,0,267,39⟩:=by
 unfold SG
 first|(rw[PySem.W.Fast.te10110043849684766642,PySem.W.Fast.te14364793385576792824];kernel_rfl)|kernel_rfl
theorem r4 (w:World)(os:OsState):SG w 1300 (a3 w os) (a4 w os) 71 16 ⟨266,0,267,39⟩ ⟨353,0,414,17⟩:=by
 unfold SG
 first|(rw[PySem.W.Fast.te10110043849684766642,PySem.W.Fast.te14364793385576792824];kernel_rfl)|kernel_rfl
theorem r5 (w:World)(os:OsState):SG w 700 (a4 w os) (a5 w os) 87 19 ⟨353,0,414,17⟩ ⟨597,0,621,78⟩:=by
 unfold SG
 first|(rw[PySem.W.Fast.te10110043849684766642,PySem.W.Fast.te14364793385576792824];kernel_rfl)|kernel_rfl
end Mine.H
end
section
set_option autoImplicit false
open PySem PySem.W PyProof.Rows
namespace Mine.H
theorem opn (w:World):(fencedOpening treeTable pw w 8000).map (fun s=>(s.heap,s.gens,s.drawn,s.toks))=some (mx w.params,#[],boot_drawn,boot_toks):=
 boot_open (by rfl) (by rfl) (fun s=>by rfl) w
theorem r0 (w:World)(os:OsState):topGo treeTable pw w 11 (some (.ref 6)) 12 ⟨mx w.params,#[],boot_drawn,boot_toks,os⟩ (topStub pw)=some ((a0 w os).abs,⟨denote treeTable cd,cd,p0,B0⟩):=by
 kernel_rfl
theorem rb (w:World)(os:OsState):segRun treeTable pw w 11 (some (.ref 6)) 1 1 (a0 w os).abs (blockOf oP ev cd p0 B0)=some (.next,(a0 w os).abs,cd,p0):=by
 kernel_rfl
noncomputable def H1 (P:Params):Heap:=⟨(HL P).toArray,{}⟩
noncomputable def fin (w:World)(os:OsState):Shared:=⟨H1 w.params,#[],{},1115,os⟩
theorem r6 (w:World)(os:OsState):topRun treeTable pw w 11 (some (.ref 6)) 3 (a5 w os).abs ⟨doneF .next,cd,⟨597,0,621,78⟩,B0⟩=some (fin w os):=by
 kernel_rfl
theorem cut:oP=qs 0 40++(qs 40 3++(qs 43 28++(qs 71 16++(qs 87 19++[])))):=by kernel_rfl
abbrev MM:Nat:=12+(1+(900+(300+(1300+(1300+(700+3))))))
theorem run (w:World)(os:OsState):topRun treeTable pw w 11 (some (.ref 6)) MM ⟨mx w.params,#[],boot_drawn,boot_toks,os⟩ (topStub pw)=some (fin w os):=by
 refine go_top (r0 w os) (piece_block (rb w os) ?_)
 rw[cut]
 exact piece_app (segRun_of (r1 w os)) (piece_app (segRun_of (r2 w os)) (piece_app (segRun_of (r3 w os)) (piece_app (segRun_of (r4 w os)) (piece_app (segRun_of (r5 w os)) (piece_nil (r6 w os))))))
noncomputable def q:Program:=view pw [105]
noncomputable def loose:List Str:=pw.boundNames.filter fun x=> !(x==Z "law")
noncomputable def KF (P:Params):Frag:=KP P++[(59,jD P)]
noncomputable def AF:List Addr:=KA++[59]
theorem af (P:Params):AF=(KF P).map (·.1):=by kernel_rfl
noncomputable abbrev HK:Hook:=kHook KF AF af
theorem size (w:World):((mx w.params).isNs dU&&(#[]:Array GenState).size==0,(mx w.params).objs.size,(mx w.params).nsMap dU "__annotations__")=(true,11,some (.ref 6)):=by kernel_rfl
theorem lk1 (w:World)(os:OsState):(staticsOk (importedModules pw.main.body) (mx w.params) (H1 w.params)&&namesBound pw (H1 w.params)&&gensDone (fin w os)&&laidKept (mx w.params) (H1 w.params))=true:=by kernel_rfl
theorem lk2 (w:World)(os:OsState):HK.obs (fin w os)=HK.val w:=by kernel_rfl
theorem lk3 (w:World)(os:OsState):openSeen q loose (importedModules pw.main.body) (fun _=>true) true (fin w os)=openGood q loose:=by
 first|(rw[PySem.W.Fast.te4187177175401517315];kernel_rfl)|kernel_rfl
theorem left:LeftO pw q loose (fun _=>true) HK.obs HK.val 8000:=LeftO.of_pieces opn size run (by rfl) fun w=>funext fun os=>Prod.ext (lk1 w os) (Prod.ext (lk3 w os) (lk2 w os))
noncomputable abbrev d6:OpenLaw:=PySem.Challenge.rw_xm0487_01
theorem w1:(sreFenced pw.main&&((moduleNames pw.main.body).isEmpty||lookedIntoSs (moduleNames pw.main.body) pw.main.body))=true:=by kernel_rfl
theorem w3:namesResolve pw=true:=by
 first|(rw[PySem.W.Fast.te8377067652309620493];kernel_rfl)|kernel_rfl
theorem w4:pw.boundNames.all (fun n=> !worldNames.contains n)=true:=by kernel_rfl
theorem w5:noRoadLSs {strict:= !(importedModules pw.main.body).all cThrough.contains,foot:=none,bare:=(["vars","dir","locals"]:List Str).filter (readsOut pw pw.main.body)} pw.main.body=true:=by kernel_rfl
theorem w6:namesMeet pw pw.main.body (fun _ n=>attrL n)=true:=by kernel_rfl
theorem v1:d6.row.wellSaid=true:=by
 unfold OpenRow.wellSaid OpenRow.partSaid
 rw[show looksOpen d6.row.prog=true from dW (dW (dW (dW w1 w3) w4) w5) w6]
 kernel_rfl
theorem v4:noClassBlock d6.prog d6.footing=true:=by kernel_rfl
theorem v7:noRoadLSs {strict:=true,foot:=some d6.bound',writes:=d6.writes,may:=d6.may} d6.footing=true:=by kernel_rfl
theorem v11:d6.bound'.all (fun n=> !builtinNamed n||d6.about==[n]|| !d6.reads n)=true:=by kernel_rfl
theorem v14:namesMeet d6.prog d6.footing (fun sc n=>(!(["type","isinstance","issubclass","getattr","hasattr"]:List Str).contains n||sc.names.lookup n==some .globalImplicit)&&
 (d6.may !=some n||sc.kind== .module||sc.names.lookup n==some .globalImplicit))=true:=by kernel_rfl
theorem v18:namesMeet d6.prog d6.above (fun _ n=> !d6.own.contains n)=true:=by kernel_rfl
theorem v19:namesMeet d6.prog d6.footing (fun sc n=>sc.kind== .module||sc.names.lookup n !=some .globalExplicit)=true:=by kernel_rfl
theorem aEI:d6.wellSaid=true:=by
 unfold OpenLaw.wellSaid
 refine dW (dW (dW (dW (dW (dW (dW (dW (dW (dW (dW (dW (dW (dW (dW (dW (dW (dW v1 ?_) ?_) v4) ?_) ?_) v7) ?_) ?_) ?_) v11) ?_) ?_) v14) ?_) ?_) ?_) v18) v19<;>kernel_rfl
noncomputable def dr:DefRec:=⟨ac "law",(an 105).1,(an 105).2.2,(an 105).2.1,⟨597,0,621,78⟩⟩
theorem okq:(chainsOk q&&opensWell PySem.Challenge.rw_xm0487_01.row.prog&&(frees PySem.Challenge.rw_xm0487_01.row.toRowW&&PySem.Challenge.rw_xm0487_01.row.within.isEmpty))=true:=by kernel_rfl
theorem sk {es:Array DictEntry}(h:(es.toList.all fun e=>match e.key with| .str _ _=>true| _=>false)=true):StrKeys es:=fun e he=>by
 have h2:=dn.mp h e (Array.mem_toList_iff.mpr he)
 split at h2
 ·exact⟨_,_,by assumption⟩
 ·cases h2
theorem aEK (P:Params):∃es ep,(jD P).data= .dict es ep∧StrKeys es:=⟨_,_,rfl,sk (by kernel_rfl)⟩
theorem kf {P:Params}{h:Heap}(x:(KF P).In h):(KP P).In h:=fun a o e=>x a o (by unfold KF;rw[List.lookup_append,e];rfl)
theorem aEL {P:Params}{h:Heap}(x:(KF P).In h):h.get? 59=some (jD P):=x 59 _ (by kernel_rfl)
theorem dq:defOf q PySem.Challenge.rw_xm0487_01.row.name=some (dr,[]):=by kernel_rfl
theorem dp:PySem.Challenge.rw_xm0487_01.row.prog.theDef PySem.Challenge.rw_xm0487_01.row.name=some (dr.params,dr.body,dr.scope):=by kernel_rfl
theorem dk:kwWritten? dr.params.kwonlyargs dr.params.kw_defaults=some []:=by kernel_rfl
theorem wk:WalkO q loose (fun _ _=>True) HK.says PySem.Challenge.rw_xm0487_01.row.toRowW dr [] fun f vs=>PySem.call f vs:=by
 intro w s₀ s₁ mg mb G Y a o pm cd doc dV kV ho hod hcd hdf hmg hg args vals as hpre hlay hr hwell hsys
 have KX:=kIn_of Y
 have GL:=Ground.glob G (by kernel_rfl) (by kernel_rfl)
 clear ho hod hcd hdf
 wrow_args hpre hlay hr hwell hsys
 rename_i hL ra w1 r0 hI hr' hr2 hcond
 refine(aEK w.params).elim fun es h=>h.elim fun ep h=>enter_call (Mine.T.law_start (kf KX) (aEL KX) rfl h.1 h.2 GL.g GL.b GL.builtins GL.nolimit hmg hL hI ?_ fun s' h1 h2 h3=>GoodW.toG ?_)
 ·have:=hr2;omega
 ·refine⟨.inl ⟨_,.bool true,[],rfl,?_,?_,?_,?_⟩,h1,h3,h2.trans hg⟩
  ·intro cls;rfl
  ·exact .bool _
  ·wrow_post
  ·intro z;exact⟨.nil,fun a h=>by cases h⟩
theorem bp:PySem.Challenge.rw_xm0487_01.row.prog.tablesWhole=true:=by kernel_rfl
theorem prm:PySem.Challenge.rw_xm0487_01.row.toRowW.promised:=by w_witness2
theorem hrow (sd:PySem.Challenge.rw_xm0487_01.row.wellSaid=true):PySem.Challenge.rw_xm0487_01.row.Holds:=
 PySem.W.holds_open (q:=q) (loose:=loose) (Xt:=fun _=>true) (XP:=fun _ _=>True) (Yf:=HK.obs) (Ya:=HK.val) (YP:=HK.says) (N:=8000)
  left HK.of HK.keeps (fun _ _=>trivial) (fun _ _ _ _ _=>trivial) dq dp dk (fun _ _=>recFacts_nil rfl) rfl sd okq ⟨rfl,rfl,rfl,rfl,rfl,bp⟩ prm wk
theorem the_end:PySem.Challenge.rw_xm0487_01.Holds:=holds_law aEI hrow
end Mine.H
end
theorem PySem.Challenge.cw_xm0487_01_holds : PySem.Challenge.rw_xm0487_01.Holds :=
 Mine.H.the_end
